import PyProof.Rows.All
import Wide.All
import OpenK.AllK
import Wide.FinOn
import HandS.ForMost
import HandS.Codes
import KE.KUnpackStar
import HandS.Walk
import KE.GoesNew
import KE.GoesMore
import HandS.Style
import PyProof.EqAt
import PyProof.EqKinds
import PyProof.ListNew
import HandS.Evl
import HandS.ReplaceLit
import HandS.ReplaceDef
import HandS.ReplaceList
import HandS.StrMore
import HandS.Defaults
import PySem.Challenge.RW_deltawires_k24_whole_values_of_terms
import HandS.CallLocal
import HandS.NoneIn
import HandS.IsInst
import HandS.More
import HandS.Finally
import HandS.DictComp
set_option Elab.async false
set_option linter.all false
set_option maxRecDepth 100000
/-! K24, part 1: the bits, the terms, their values: plain Lean -/
namespace K24
open PySem L2

/-- a bit as it is read -/
inductive B where
  | o | i | x
  deriving DecidableEq
/-- a sign of a value -/
inductive G where
  | o | i | x | z
  deriving DecidableEq
def B.c : B → Nat
  | .o => 48 | .i => 49 | .x => 120
def G.c : G → Nat
  | .o => 48 | .i => 49 | .x => 120 | .z => 122
def B.g : B → G
  | .o => .o | .i => .i | .x => .x
def rd : G → B
  | .o => .o | .i => .i | .x => .x | .z => .x
theorem rd_g (b : B) : rd b.g = b := by cases b <;> rfl
theorem g_c (b : B) : b.g.c = b.c := by cases b <;> rfl
/-- a text of bits, of signs -/
def S (w : List B) : Str := ⟨(w.map B.c).toArray⟩
def R (l : List G) : Str := ⟨(l.map G.c).toArray⟩
theorem S_R (w : List B) : S w = R (w.map B.g) := by
  unfold S R
  rw [List.map_map]
  congr 2
  apply List.map_congr_left
  intro b _
  exact (g_c b).symm
theorem rd_map (w : List B) : (w.map B.g).map rd = w := by
  rw [List.map_map]
  have e : (rd ∘ B.g) = id := funext rd_g
  rw [e, List.map_id]
theorem S_tl (w : List B) : (S w).cps.toList = w.map B.c := rfl
theorem S_len (w : List B) : (S w).length = w.length := by
  show ((w.map B.c).toArray).size = w.length
  rw [List.size_toArray, List.length_map]
theorem R_len (w : List G) : (R w).length = w.length := by
  show ((w.map G.c).toArray).size = w.length
  rw [List.size_toArray, List.length_map]
theorem c_inj {a b : B} (h : a.c = b.c) : a = b := by
  cases a <;> cases b <;> first | rfl | (exact absurd h (by decide))
theorem gc_inj {a b : G} (h : a.c = b.c) : a = b := by
  cases a <;> cases b <;> first | rfl | (exact absurd h (by decide))
theorem map_inj {α : Type} {f : α → Nat} (hf : ∀ a b, f a = f b → a = b) : ∀ {u v : List α}, u.map f = v.map f → u = v
  | [], [], _ => rfl
  | [], _ :: _, h => by simp at h
  | _ :: _, [], h => by simp at h
  | a :: u, b :: v, h => by
    rw [List.map_cons, List.map_cons] at h
    injection h with h1 h2
    rw [hf a b h1, map_inj hf h2]
theorem S_inj {u v : List B} (h : S u = S v) : u = v := map_inj (fun _ _ => c_inj) (congrArg (fun s : Str => s.cps.toList) h)
theorem R_inj {u v : List G} (h : R u = R v) : u = v := map_inj (fun _ _ => gc_inj) (congrArg (fun s : Str => s.cps.toList) h)
theorem S_app (u v : List B) : S u ++ S v = S (u ++ v) := by
  apply TL.ext_tl
  show TL.tl (S u ++ S v) = _
  rw [TL.tl_append]
  show u.map B.c ++ v.map B.c = (u ++ v).map B.c
  rw [List.map_append]
theorem S_at {w : List B} {i : Nat} {c : Nat} (h : (S w).cps[i]? = some c) : ∃ b, w[i]? = some b ∧ c = b.c := by
  have h' : (w.map B.c)[i]? = some c := by
    rw [← h]
    show _ = ((w.map B.c).toArray)[i]?
    rw [List.getElem?_toArray]
  rw [List.getElem?_map] at h'
  cases e : w[i]? with
  | none => rw [e] at h'; cases h'
  | some b => rw [e] at h'; exact ⟨b, rfl, (Option.some.inj h').symm⟩
theorem S_one (b : B) : (⟨#[b.c]⟩ : Str) = S [b] := rfl
theorem S_size (w : List B) : (S w).cps.size = w.length := S_len w

/-! ### the bits' rules -/
def nt : B → B
  | .x => .x | .o => .i | .i => .o
def an : B → B → B
  | .o, _ => .o
  | _, .o => .o
  | .i, .i => .i
  | _, _ => .x
def orr (a b : B) : B := nt (an (nt a) (nt b))
def xr : B → B → B
  | .x, _ => .x
  | _, .x => .x
  | a, b => if a = b then .o else .i
def ms (a b c : B) : B := if a = b then a else if b = c then b else if a = c then c else .x
def mx (a b : B) : B := if a = b then a else .x

/-! ### .. along the texts, from the lowest bit up -/
def prs (a b : List B) : List (B × B) := a.reverse.zip b.reverse
def plusS (q : List B × B) (p : B × B) : List B × B := (xr (xr p.1 p.2) q.2 :: q.1, ms p.1 p.2 q.2)
def lessS (q : B) (p : B × B) : B := ms (nt p.1) p.2 q
def plusW (a b : List B) : List B := ((prs a b).foldl plusS ([], .o)).1
def lessB (a b : List B) : B := (prs a b).foldl lessS .o
def anyB (a : List B) : B := a.foldl orr .o
def allB (a : List B) : B := a.foldl an .i
def partW (hi lo : Nat) (a : List B) : List B := (a.drop (a.length - 1 - hi)).take (hi + 1 - lo)

inductive Bin where
  | an | orr | xr | plus
inductive Cmp where
  | same | less
inductive Uno where
  | any | all
def Bin.f : Bin → List B → List B → List B
  | .an, a, b => a.zipWith K24.an b
  | .orr, a, b => a.zipWith K24.orr b
  | .xr, a, b => a.zipWith K24.xr b
  | .plus, a, b => plusW a b
def Cmp.f : Cmp → List B → List B → B
  | .same, a, b => nt (anyB (a.zipWith K24.xr b))
  | .less, a, b => lessB a b
def Uno.f : Uno → List B → B
  | .any, a => anyB a
  | .all, a => allB a
def pickW (c : List B) (a b : List B) : List B :=
  if c = [.x] then a.zipWith mx b else if c = [.i] then a else b

/-! ### terms -/
inductive Tm where
  | is (w : List B)
  | var (n : Str)
  | nt (t : Tm)
  | uno (u : Uno) (t : Tm)
  | bin (b : Bin) (s t : Tm)
  | cmp (c : Cmp) (s t : Tm)
  | join (s t : Tm)
  | pick (c s t : Tm)
  | part (t : Tm) (hi lo : Nat)
def Bin.w : Bin → Str
  | .an => "and" | .orr => "or" | .xr => "xor" | .plus => "plus"
def Cmp.w : Cmp → Str
  | .same => "same" | .less => "less"
def Uno.w : Uno → Str
  | .any => "any" | .all => "all"
abbrev VE := List (Str × List G)
def look (E : VE) (n : Str) : List G := (E.lookup n).getD []
def ev (E : VE) : Tm → List B
  | .is w => w
  | .var n => (look E n).map rd
  | .nt t => (ev E t).map K24.nt
  | .uno u t => [u.f (ev E t)]
  | .bin b s t => b.f (ev E s) (ev E t)
  | .cmp c s t => [c.f (ev E s) (ev E t)]
  | .join s t => ev E s ++ ev E t
  | .pick c s t => pickW (ev E c) (ev E s) (ev E t)
  | .part t hi lo => partW hi lo (ev E t)
def deep : Tm → Nat
  | .is _ => 1
  | .var _ => 1
  | .nt t => deep t + 1
  | .uno _ t => deep t + 1
  | .bin _ s t => max (deep s) (deep t) + 1
  | .cmp _ s t => max (deep s) (deep t) + 1
  | .join s t => max (deep s) (deep t) + 1
  | .pick c s t => max (deep c) (max (deep s) (deep t)) + 1
  | .part t _ _ => deep t + 1
/-- a term of width n by the widths W -/
def Wt (W : List (Str × Nat)) : Tm → Nat → Prop
  | .is w, n => w.length = n ∧ 1 ≤ n ∧ n ≤ 8
  | .var x, n => W.lookup x = some n ∧ 1 ≤ n ∧ n ≤ 8
  | .nt t, n => Wt W t n
  | .uno _ t, n => n = 1 ∧ ∃ m, Wt W t m
  | .bin _ s t, n => Wt W s n ∧ Wt W t n
  | .cmp _ s t, n => n = 1 ∧ ∃ m, Wt W s m ∧ Wt W t m
  | .join s t, n => n ≤ 8 ∧ ∃ m k, n = m + k ∧ Wt W s m ∧ Wt W t k
  | .pick c s t, n => Wt W c 1 ∧ Wt W s n ∧ Wt W t n
  | .part t hi lo, n => lo ≤ hi ∧ n = hi + 1 - lo ∧ ∃ m, hi < m ∧ Wt W t m
theorem wt_le {W : List (Str × Nat)} : ∀ {t : Tm} {n : Nat}, Wt W t n → 1 ≤ n ∧ n ≤ 8
  | .is _, _, h => ⟨h.2.1, h.2.2⟩
  | .var _, _, h => ⟨h.2.1, h.2.2⟩
  | .nt t, _, h => wt_le (t := t) h
  | .uno _ _, _, h => by have := h.1; omega
  | .bin _ s _, _, h => wt_le (t := s) h.1
  | .cmp _ _ _, _, h => by have := h.1; omega
  | .join s t, _, h => by
    obtain ⟨h0, m, k, e, h1, h2⟩ := h
    have a := wt_le h1
    omega
  | .pick _ s _, _, h => wt_le (t := s) h.2.1
  | .part t hi lo, _, h => by
    obtain ⟨h0, e, m, h1, h2⟩ := h
    have a := wt_le h2
    omega
/-- the values that a set gives have the widths told -/
def Fits (E : VE) (W : List (Str × Nat)) : Prop := ∀ x n, W.lookup x = some n → ∃ l, E.lookup x = some l ∧ l.length = n
theorem plus_len (ps : List (B × B)) : ∀ q : List B × B, (ps.foldl plusS q).1.length = q.1.length + ps.length := by
  induction ps with
  | nil => intro q; rfl
  | cons p r ih => intro q; rw [List.foldl_cons, ih, List.length_cons]; show q.1.length + 1 + _ = _; omega
theorem prs_len {a b : List B} (h : a.length = b.length) : (prs a b).length = a.length := by
  unfold prs
  rw [List.length_zip, List.length_reverse, List.length_reverse]
  omega
theorem bin_len (o : Bin) {a b : List B} (h : a.length = b.length) : (o.f a b).length = a.length := by
  cases o with
  | an => show (a.zipWith an b).length = _; rw [List.length_zipWith]; omega
  | orr => show (a.zipWith orr b).length = _; rw [List.length_zipWith]; omega
  | xr => show (a.zipWith xr b).length = _; rw [List.length_zipWith]; omega
  | plus => show (plusW a b).length = _; unfold plusW; rw [plus_len, prs_len h]; exact Nat.zero_add _
theorem part_len {hi lo : Nat} {a : List B} (h1 : lo ≤ hi) (h2 : hi < a.length) : (partW hi lo a).length = hi + 1 - lo := by
  unfold partW
  rw [List.length_take, List.length_drop]
  omega
theorem pick_len {c a b : List B} (h : a.length = b.length) : (pickW c a b).length = a.length := by
  unfold pickW
  split
  · rw [List.length_zipWith]; omega
  · split
    · rfl
    · exact h.symm
theorem ev_len {E : VE} {W : List (Str × Nat)} (f : Fits E W) : ∀ {t : Tm} {n : Nat}, Wt W t n → (ev E t).length = n
  | .is _, _, h => h.1
  | .var x, n, h => by
    obtain ⟨l, e, hl⟩ := f x n h.1
    show ((look E x).map rd).length = n
    unfold look
    rw [e, List.length_map]
    exact hl
  | .nt t, _, h => by
    show ((ev E t).map K24.nt).length = _
    rw [List.length_map]
    exact ev_len f (t := t) h
  | .uno u t, n, h => h.1.symm
  | .bin b s t, n, h => by
    have e1 := ev_len f h.1
    have e2 := ev_len f h.2
    show (b.f (ev E s) (ev E t)).length = n
    rw [bin_len b (e1.trans e2.symm), e1]
  | .cmp _ _ _, _, h => h.1.symm
  | .join s t, n, h => by
    obtain ⟨h0, m, k, e, h1, h2⟩ := h
    show (ev E s ++ ev E t).length = n
    rw [List.length_append, ev_len f h1, ev_len f h2, e]
  | .pick c s t, n, h => by
    have e1 := ev_len f h.2.1
    have e2 := ev_len f h.2.2
    show (pickW (ev E c) (ev E s) (ev E t)).length = n
    rw [pick_len (e1.trans e2.symm), e1]
  | .part t hi lo, n, h => by
    obtain ⟨h0, e, m, h1, h2⟩ := h
    have a := ev_len f h2
    show (partW hi lo (ev E t)).length = n
    rw [part_len h0 (by omega), e]
theorem deep_pos : ∀ t : Tm, 1 ≤ deep t
  | .is _ => Nat.le_refl _
  | .var _ => Nat.le_refl _
  | .nt _ => Nat.succ_le_succ (Nat.zero_le _)
  | .uno _ _ => Nat.succ_le_succ (Nat.zero_le _)
  | .bin _ _ _ => Nat.succ_le_succ (Nat.zero_le _)
  | .cmp _ _ _ => Nat.succ_le_succ (Nat.zero_le _)
  | .join _ _ => Nat.succ_le_succ (Nat.zero_le _)
  | .pick _ _ _ => Nat.succ_le_succ (Nat.zero_le _)
  | .part _ _ _ => Nat.succ_le_succ (Nat.zero_le _)
end K24
/-! K24, part 2s: a run never makes the heap's array shorter -/
namespace K24
open PySem
theorem runs_size {M : Model} {G : Ctx} {p : Pos} {t : Sem Fin} {fs : List Frame} {s s' : Shared} {e : End} (h : Runs M G p t fs s e s') : s.heap.objs.size ≤ s'.heap.objs.size := by
  induction h <;> (try simp only [Shared.setGen, Heap.size_update, Heap.size_push] at *) <;> omega
theorem wakes_size {M : Model} {G : Ctx} {p : Pos} {g : Nat} {r : Resume} {s s' : Shared} {res : GenResult} (h : Wakes M G p g r s res s') : s.heap.objs.size ≤ s'.heap.objs.size := by
  have go : ∀ {g2 : Nat} {st2 : GenState} {G' : Ctx} {p' : Pos} {t : Sem Fin} {fs : List Frame} {e : End} {s1 : Shared}, Runs M G' p' t fs (s.setGen g .running) e s1 → s.heap.objs.size ≤ (s1.setGen g2 st2).heap.objs.size := fun {_ _ _ _ _ _ _ s1} q => (runs_size q : (s.setGen g .running).heap.objs.size ≤ s1.heap.objs.size)
  unfold Wakes at h
  split at h
  · exact h.elim
  · split at h
    · obtain ⟨_, _, q, _, _, e⟩ := h
      rw [e]
      exact go q
    · rw [h.2]
      exact Nat.le_refl _
    · rw [h.2]
      exact Nat.le_refl _
  · obtain ⟨_, _, q, _, _, e⟩ := h
    rw [e]
    exact go q
  · rw [h.2]
    exact Nat.le_refl _
  · rw [h.2]
    exact Nat.le_refl _
theorem wp_size {α : Type} (M : Model) (G : Ctx) (n : Nat) (t : Sem α) : ∀ (Q : α → Pos → Shared → Prop) (E : Value → Pos → Shared → Prop) (p : Pos) (s : Shared), n ≤ s.heap.objs.size → Sem.wp M G t Q E p s →
    Sem.wp M G t (fun a q u => n ≤ u.heap.objs.size ∧ Q a q u) (fun a q u => n ≤ u.heap.objs.size ∧ E a q u) p s := by
  induction t with
  | pure a => exact fun Q E p s hn h => ⟨hn, h⟩
  | raise e => exact fun Q E p s hn h => ⟨hn, h⟩
  | unsupported _ => exact fun Q E p s _ h => h
  | finish _ => exact fun Q E p s _ h => h
  | register _ _ => exact fun Q E p s _ h => h
  | yield _ _ _ _ => exact fun Q E p s _ h => h
  | fork _ _ => exact fun Q E p s _ h => h
  | await _ _ _ _ _ => exact fun Q E p s _ h => h
  | rule _ k ih => exact fun Q E p s hn h => ih () Q E p s hn h
  | «at» p2 k ih => exact fun Q E p s hn h => ih () Q E p2 s hn h
  | point _ k ih => exact fun Q E p s hn h => ih () Q E p s hn h
  | loadIfAlive a k ih => exact fun Q E p s hn h => ih _ Q E p s hn h
  | ask k ih => exact fun Q E p s hn h => ih _ Q E p s hn h
  | handled own k ih => exact fun Q E p s hn h => ih _ Q E p s hn h
  | stack k ih => exact fun Q E p s hn h => ih _ Q E p s hn h
  | thread k ih => exact fun Q E p s hn h => ih _ Q E p s hn h
  | fresh k ih => exact fun Q E p s hn h => ih _ Q E p _ hn h
  | os q _ k ih => exact fun Q E p s hn h => ih _ Q E p _ hn h
  | newGen c k ih => exact fun Q E p s hn h => ih _ Q E p _ hn h
  | load a _ k ih => exact fun Q E p s hn ⟨o, ho, h⟩ => ⟨o, ho, ih o Q E p s hn h⟩
  | genState g k ih => exact fun Q E p s hn ⟨o, ho, h⟩ => ⟨o, ho, ih _ Q E p s hn h⟩
  | choose src m k ih => exact fun Q E p s hn h => ⟨h.1, ih _ Q E p _ hn h.2⟩
  | update a _ f k ih => exact fun Q E p s hn h => ⟨h.1, ih () Q E p _ (by rw [Heap.size_update]; exact hn) h.2⟩
  | alloc o k ih => exact fun Q E p s hn h => ih _ Q E p _ (by rw [Heap.size_push]; exact Nat.le_succ_of_le hn) h
  | call c hd _ _ k ih => exact fun Q E p s hn ⟨r, u, hr, h⟩ => ⟨r, u, hr, ih r Q E p u (Nat.le_trans hn (runs_size hr)) h⟩
  | resume g r _ k ih => exact fun Q E p s hn ⟨r2, u, hr, h⟩ => ⟨r2, u, hr, ih r2 Q E p u (Nat.le_trans hn (wakes_size hr)) h⟩
/-- the heap's array is no shorter behind it -/
theorem wpAny_size {α : Type} {M : Model} {A : Around} {s : Shared} {t : Sem α} {Q : α → Shared → Prop} {E : Value → Shared → Prop}
    (h : wpAny M A t (fun a s' => s.heap.objs.size ≤ s'.heap.objs.size → Q a s') E s) : wpAny M A t Q E s :=
  wpAny_mono (fun G p hG => wp_size M G _ t _ _ p s (Nat.le_refl _) (h G p hG) :
    wpAny M A t (fun a s' => s.heap.objs.size ≤ s'.heap.objs.size ∧ (s.heap.objs.size ≤ s'.heap.objs.size → Q a s')) (fun e s' => s.heap.objs.size ≤ s'.heap.objs.size ∧ E e s') s)
    (fun _ _ x => x.2 x.1) (fun _ _ x => x.2)
end K24
/-! K24, part 2a: star targets -/
namespace K24
open PySem PySem.Spec PyProof.Rows L2

section
variable {prog : Program} {w : World} {A : Around} {E : Value → Shared → Prop} {s : Shared}
/-- behind the items drawn: the rest is collected into a new list -/
theorem star_rest {it : Addr} {items : Array Value} {n i : Nat} {s1 : Shared} {Q : List Value → Shared → Prop} (hi : i < n) (hn : n ≤ items.size + 1)
    (hz : items.size ≤ sizeLine)
    (hc : ∀ Q' : List Value → Shared → Prop, (∀ (h' : Heap) (tk : Nat), s1.heap.objs.size ≤ h'.objs.size → (∀ b o, b ≠ it → s1.heap.get? b = some o → h'.get? b = some o) → Q' (items.toList.drop i) { s1 with heap := h', toks := tk }) → wpAny (model prog w) A (collect (.ref it)) Q' E s1)
    (h : ∀ (h' : Heap) (tk : Nat), s1.heap.objs.size ≤ h'.objs.size → (∀ b o, b ≠ it → s1.heap.get? b = some o → h'.get? b = some o) →
      Q (items.toList.take i ++ [.ref h'.objs.size] ++ (items.toList.drop i).drop (items.size + 1 - n)) { s1 with heap := h'.push { cls := .type "list", data := .seq ((items.toList.drop i).take (items.size + 1 - n)).toArray }, toks := tk }) :
    wpAny (model prog w) A (do
      let rest ← holding (items.toList.take i) (collect (.ref it))
      let after := n - 1 - i
      if rest.length < after then
        rule "unpack.star.too-few"
        raiseError "ValueError" s!"not enough values to unpack (expected at least {n - 1}, got {i + rest.length})"
      let mid := rest.length - after
      return (items.toList.take i) ++ [← newList (rest.take mid)] ++ rest.drop mid) Q E s1 := by
  have el : (items.toList.drop i).length = items.size - i := by rw [List.length_drop, Array.length_toList]
  have em : (items.toList.drop i).length - (n - 1 - i) = items.size + 1 - n := by rw [el]; omega
  refine wpAny_bind (wpAny_holding (hc _ fun h' tk hs hk => ?_))
  have no : ¬ (items.toList.drop i).length < n - 1 - i := by rw [el]; omega
  dsimp only
  rw [if_neg no, em]
  refine wpAny_bind (wpAny_newList (wpAny_pure (h h' tk hs hk)) ?_)
  rw [List.length_take, el]
  omega
end

section
variable {X : Cx} {pos : Pos}
/-- (a, .., *m, ..) = a tuple or a list: what is behind the star goes into a new list -/
def gStar (K : PySem.W.Frag) (n i : Nat) (t : TGs) : TG := fun v σ H Q => ∃ a xs, v = .ref a ∧ (SqT K H a xs ∨ SqL K H a xs) ∧ i < n ∧ n ≤ xs.length + 1 ∧
  ∀ p, H p = none → t (xs.take i ++ [.ref p] ++ (xs.drop i).drop (xs.length + 1 - n)) σ (upd H p (.lst ((xs.drop i).take (xs.length + 1 - n)))) Q
theorem pg_star {es : List Expr} {k : Nat} {t : TGs} {n i : Nat} (hc : X.calm = true) (h : PGs X es t)
    (hn : (assignEach es X.env).length = n := by rfl) (hst : (assignEach es X.env).findIdx? (·.1) = some i := by rfl) : PG X (.Tuple es k pos) (gStar X.K n i t) := by
  refine ⟨fun pins s σ H v u Q I r hw => ?_⟩
  obtain ⟨a, xs, e1, hq, hi, hle, hw⟩ := hw
  subst e1
  cases r
  have fin : ∀ (its : List Value) (h1 : Heap) (tk : Nat), Vals xs its → xs.length ≤ sizeLine → (∀ b o, s.heap.get? b = some o → h1.get? b = some o) → s.heap.objs.size ≤ h1.objs.size →
      wpAny (model X.prog X.w) X.A (assignInOrder ((assignEach es X.env).map (·.2)) (its.toArray.toList.take i ++ [.ref h1.objs.size] ++ (its.toArray.toList.drop i).drop (its.toArray.size + 1 - n)))
        (fun _ s' => ∃ σ' H', Inv X pins σ' H' s' ∧ Q σ' H') X.xe { s with heap := h1.push { cls := .type "list", data := .seq ((its.toArray.toList.drop i).take (its.toArray.size + 1 - n)).toArray }, toks := tk } := by
    intro its h1 tk rv hz hk hsz
    have el : its.toArray.size = xs.length := by rw [List.size_toArray]; exact rv.length.symm
    rw [el]
    have hn0 : H h1.objs.size = none := I.hok.fresh hsz
    have I2 : Inv X pins σ (upd H h1.objs.size (.lst ((xs.drop i).take (xs.length + 1 - n)))) { s with heap := h1.push { cls := .type "list", data := .seq ((its.toArray.toList.drop i).take (xs.length + 1 - n)).toArray }, toks := tk } :=
      I.laid (fun b o e => Heap.get?_push_of_some _ (hk b o e)) hsz
        ⟨by rw [List.length_take, List.length_drop]; omega, (its.drop i).take (xs.length + 1 - n), 0, (rv.drop i).take _, Heap.get?_push_size _ rfl⟩
    exact h.run pins _ σ _ _ _ Q I2 (((rv.take i).append (Paired.cons (show RelV (.ref h1.objs.size) (Value.ref h1.objs.size) from rfl) .nil)).append ((rv.drop i).drop _)) (hw _ hn0)
  rw [PyProof.Rows.assign_Tuple]
  refine wpAny_bind (wpAny_standAt ?_)
  unfold unpack
  rw [hn, hst]
  refine wpAny_bind (wpAny_holding ?_)
  unfold unpackItems
  refine wpAny_bind ?_
  unfold notIterableAtAll
  rcases hq with hq | hq
  · obtain ⟨its, rv, ht, hz⟩ := I.tuple hq
    have el : its.toArray.size = xs.length := by rw [List.size_toArray]; exact rv.length.symm
    have hin : a < s.heap.objs.size := ht.lt
    have hne : a ≠ s.heap.objs.size := Nat.ne_of_lt hin
    refine wpAny_bind (wpAny_specialOf ht.typeIs slot_tuple_iter.lookup (wpAny_pure ?_))
    simp only [Bool.false_eq_true, if_false]
    refine wpAny_bind (wpAny_holding (iter_tuple ht ?_))
    refine wpAny_bind (wpAny_holding (draw_tuple hne i 0 _ _ ⟨_, Heap.get?_push_size _ rfl, rfl, rfl⟩ (ht.push _) (by omega) fun h1 hit hs => ?_))
    have ht1 : IsTup h1 a its.toArray := (ht.push _).extBut hs.extBut hne
    rw [List.drop_zero, Nat.zero_add] at *
    have fl : ¬ (its.toArray.toList.take i).length < i := by rw [List.length_take, Array.length_toList]; omega
    rw [if_neg fl]
    obtain ⟨oi, hoi, _⟩ := id hit
    refine star_rest (s1 := { s with heap := h1 }) hi (by omega) (by omega) (fun Q' hQ' => wpAny_size (PySem.W.kun_collect (s := { s with heap := h1 }) (T := "tuple_iterator") (.inr (.inr (.inr rfl))) (Walks.tuple (A := X.A.in1) (I.ok.hd hc) s.heap.objs.size a hne its.toArray)
      (fun j u st => st.1.typeIs) (k := i) (by omega) ⟨hit, ht1⟩ (Heap.lt_size hoi) ht1.lt (fun h' tk hk hz' => hQ' h' tk hz' hk) (by omega))) (fun h' tk hz' hk => ?_)
    refine fin its h' tk rv hz (fun b o e => hk b o (Nat.ne_of_lt (Heap.lt_size e)) (hs.extBut b o (Nat.ne_of_lt (Heap.lt_size e)) (Heap.get?_push_of_some _ e))) ?_
    have e1 : h1.objs.size = s.heap.objs.size + 1 := hs.1.trans (Heap.size_push _ _)
    have e2 : h1.objs.size ≤ h'.objs.size := hz'
    omega
  · obtain ⟨its, rv, pl, hz⟩ := I.list hq
    have ht : s.heap.IsList a its.toArray := pl.isList
    have el : its.toArray.size = xs.length := by rw [List.size_toArray]; exact rv.length.symm
    have hin : a < s.heap.objs.size := pl.lt
    have hne : a ≠ s.heap.objs.size := Nat.ne_of_lt hin
    refine wpAny_bind (wpAny_specialOf ht.typeIs slot_list_iter.lookup (wpAny_pure ?_))
    simp only [Bool.false_eq_true, if_false]
    refine wpAny_bind (wpAny_holding (wpAny_pyIter_list ht ?_))
    refine wpAny_bind (wpAny_holding (PySem.W.kun_draw hne i 0 _ _ ⟨_, Heap.get?_push_size _ rfl, rfl, rfl⟩ (ht.push _) (by omega) fun h1 hit hs => ?_))
    have ht1 : h1.IsList a its.toArray := (ht.push _).extBut hs.extBut hne
    rw [List.drop_zero, Nat.zero_add] at *
    have fl : ¬ (its.toArray.toList.take i).length < i := by rw [List.length_take, Array.length_toList]; omega
    rw [if_neg fl]
    obtain ⟨oi, hoi, _⟩ := id hit
    obtain ⟨ol, hol, _⟩ := id ht1
    refine star_rest (s1 := { s with heap := h1 }) hi (by omega) (by omega) (fun Q' hQ' => wpAny_size (PySem.W.kun_collect (s := { s with heap := h1 }) (T := "list_iterator") (.inr (.inr (.inl rfl))) (Walks.list (A := X.A.in1) (I.ok.hd hc) s.heap.objs.size a hne its.toArray)
      (fun j u st => st.1.typeIs) (k := i) (by omega) ⟨hit, ht1⟩ (Heap.lt_size hoi) (Heap.lt_size hol) (fun h' tk hk hz' => hQ' h' tk hz' hk) (by omega))) (fun h' tk hz' hk => ?_)
    refine fin its h' tk rv hz (fun b o e => hk b o (Nat.ne_of_lt (Heap.lt_size e)) (hs.extBut b o (Nat.ne_of_lt (Heap.lt_size e)) (Heap.get?_push_of_some _ e))) ?_
    have e1 : h1.objs.size = s.heap.objs.size + 1 := hs.1.trans (Heap.size_push _ _)
    have e2 : h1.objs.size ≤ h'.objs.size := hz'
    omega
end
end K24
/-! K24, part 2z: zip of two texts, walked to a written tuple -/
namespace K24
open PySem PySem.Spec PyProof.Rows L2

/-- the signs of x and y at each turn, in new pairs -/
def ItzS (x y : Str) : It :=
  ⟨fun i _ => i < min x.cps.size y.cps.size,
    fun i H v H' => ∃ (T : Addr) (c d : Nat), v = .ref T ∧ H T = none ∧ H' = upd H T (.tup [.str ⟨#[c]⟩, .str ⟨#[d]⟩]) ∧ x.cps[i]? = some c ∧ y.cps[i]? = some d,
    fun i _ => i = min x.cps.size y.cps.size⟩
/-- the iterators' state -/
def ZpSt (x y : Str) (t u : Tok) (N : Addr) (i : Nat) (h : Heap) : Prop :=
  IsZip h (N + 4) (N + 2) (N + 3) .none ∧ IsTupOf2 h (N + 2) (.ref N) (.ref (N + 1)) ∧ (∃ a1 a2, IsTupOf2 h (N + 3) a1 a2) ∧
    h.IsStrIter N (strIterType x) x t i ∧ h.IsStrIter (N + 1) (strIterType y) y u i
def zpFp (N : Addr) : List Addr := (N + 4) :: (N + 2) :: (N + 3) :: ([N] ++ [N + 1])
theorem zp_mem {N b : Addr} (h : b ∈ zpFp N) : b = N + 4 ∨ b = N + 2 ∨ b = N + 3 ∨ b = N ∨ b = N + 1 := by simpa [zpFp] using h
theorem zp_obj {x y : Str} {t u : Tok} {N : Addr} {i : Nat} {h : Heap} (st : ZpSt x y t u N i h) : ∀ b ∈ zpFp N, ∃ o, h.get? b = some o ∧ ∀ v, o.data ≠ .cell v := fun b hb => by
  obtain ⟨s1, s2, ⟨a1, a2, s3⟩, ⟨o4, e4, _, d4⟩, ⟨o5, e5, _, d5⟩⟩ := st
  rcases zp_mem hb with q | q | q | q | q
  · exact ⟨_, by rw [q]; exact s1, fun v z => by cases (show Data.fields _ = Data.cell v from z)⟩
  · exact ⟨_, by rw [q]; exact s2, fun v z => by cases (show Data.seq _ _ = Data.cell v from z)⟩
  · exact ⟨_, by rw [q]; exact s3, fun v z => by cases (show Data.seq _ _ = Data.cell v from z)⟩
  · exact ⟨_, by rw [q]; exact e4, fun v z => by rw [d4] at z; cases z⟩
  · exact ⟨_, by rw [q]; exact e5, fun v z => by rw [d5] at z; cases z⟩
theorem zp_keep {x y : Str} {t u : Tok} {N : Addr} {i : Nat} {h h' : Heap} (st : ZpSt x y t u N i h) (k : ∀ b ∈ zpFp N, ∀ o, h.get? b = some o → h'.get? b = some o) : ZpSt x y t u N i h' := by
  obtain ⟨s1, s2, ⟨a1, a2, s3⟩, ⟨o4, e4, c4⟩, ⟨o5, e5, c5⟩⟩ := st
  exact ⟨k _ (by simp [zpFp]) _ s1, k _ (by simp [zpFp]) _ s2, ⟨a1, a2, k _ (by simp [zpFp]) _ s3⟩, ⟨o4, k _ (by simp [zpFp]) _ e4, c4⟩, ⟨o5, k _ (by simp [zpFp]) _ e5, c5⟩⟩
theorem zp_walk {prog : Program} {w : World} {A : Around} (hh : A.handled = none) (x y : Str) (t u : Tok) (N : Addr) :
    WalksT prog w A (N + 4) (zpFp N) [N + 4, N + 3, N, N + 1] (min x.cps.size y.cps.size)
      (fun i vals => ∃ x1 x2, (∃ c u, x.cps[i]? = some c ∧ x1 = .str ⟨#[c]⟩ u) ∧ (∃ c u, y.cps[i]? = some c ∧ x2 = .str ⟨#[c]⟩ u) ∧ vals = #[x1, x2]) (ZpSt x y t u N)
      (fun i T h => IsZip h (N + 4) (N + 2) (N + 3) (rawInt T) ∧ IsTupOf2 h (N + 2) (.ref N) (.ref (N + 1)) ∧ (∃ a1 a2, IsTupOf2 h (N + 3) a1 a2) ∧ h.IsStrIter N (strIterType x) x t (i + 1) ∧ h.IsStrIter (N + 1) (strIterType y) y u (i + 1) ∧ T ≠ N + 4 ∧ T ≠ N + 3 ∧ T ≠ N ∧ T ≠ N + 1) :=
  WalksT.zipD2 (zip_sep2 (N := N) (fp1 := []) (fp2 := []) (fun _ h => nomatch h) (fun _ h => nomatch h)) (Draws.text (A := A.in1) hh N x t) (Draws.text (A := A.in1) hh (N + 1) y u)

theorem turn_zipS {P : Program} {w : World} {K : PySem.W.Frag} {elts : List Expr} {kk : Nat} {tpos : Pos} (x y : Str) (t u : Tok) (N : Addr) :
    Turn P w K (.Tuple elts kk tpos) (ItzS x y) (zpFp N) (N + 4) (ZpSt x y t u N) where
  mem := by simp [zpFp]
  obj := fun i h st => zp_obj st
  keep := fun i h h' st k => zp_keep st k
  item := by
    intro X hP hw hK hc i pins s σ H E I hf st hg
    subst hP hw hK
    have W := zp_walk (prog := X.prog) (w := X.w) (I.ok.hd hc) x y t u N
    refine W.item i s _ _ hg st fun T vals h' tk hV hT htup hm hk => ⟨.ref T, rfl, W.go elts kk tpos i T { s with heap := h', toks := tk } _ _ hm fun h2 st2 hk2 => ?_⟩
    obtain ⟨x1, x2, ⟨c, u1, ec, rfl⟩, ⟨d, u2, ed, rfl⟩, rfl⟩ := hV
    have htup2 : IsTup h2 T #[.str ⟨#[c]⟩ u1, .str ⟨#[d]⟩ u2] := by
      obtain ⟨o, ho, r⟩ := htup
      exact ⟨o, hk2 T o (W.apart i T h' hm) ho, r⟩
    have new : ObjOk X.prog X.w (upd H T (.tup [.str ⟨#[c]⟩, .str ⟨#[d]⟩])) h2 T (.tup [.str ⟨#[c]⟩, .str ⟨#[d]⟩]) :=
      ⟨by show 2 ≤ sizeLine; decide, [.str ⟨#[c]⟩ u1, .str ⟨#[d]⟩ u2], .cons ⟨u1, rfl⟩ (.cons ⟨u2, rfl⟩ .nil), htup2⟩
    have I1 : Inv X pins σ (upd H T (.tup [.str ⟨#[c]⟩, .str ⟨#[d]⟩])) { s with heap := h2, toks := tk } :=
      I.turnedNew (ch := [N + 4, N + 3, N, N + 1]) (fun b o hb e => hk2 b o hb (hk b o hb e)) (fun b hb => hf b (W.sub b hb)) hT new
    refine ⟨.ref T, _, I1, rfl, ⟨T, c, d, rfl, I.hok.fresh hT, rfl, ec, ed⟩, st2, fun b hb => ?_⟩
    obtain ⟨o, ho, _⟩ := zp_obj st b hb
    rw [upd_ne (Nat.ne_of_lt (Nat.lt_of_lt_of_le (Heap.lt_size ho) hT))]
    exact (hf b hb).1
  done := by
    intro X hP hw hK hc i pins s σ H E I hf st hg
    subst hP hw hK
    have W := zp_walk (prog := X.prog) (w := X.w) (I.ok.hd hc) x y t u N
    have hg' : i = min x.cps.size y.cps.size := hg
    subst hg'
    exact W.done s _ _ st fun h' tk hk => ⟨rfl, I.turnedL (ch := [N + 4, N + 3, N, N + 1]) hk (fun b hb => hf b (W.sub b hb))⟩
  self := fun A i s Q E st h => wpAny_pyIter_zip st.1 h

/-- zip(s, t), both texts, to a written tuple -/
def iZipS (ta : TA) : TI := fun σ H R => ta σ H fun vs H1 => ∃ x y, vs = [.str x, .str y] ∧ R (ItzS x y) H1
theorem pi_zipS {X : Cx} {e e2 : Expr} {ta : TA} {p pos tpos : Pos} {elts : List Expr} {kk : Nat} (hg : Gl X "zip") (hm : X.mg "zip" = none) (ha : PA X [e, e2] ta)
    (hs : starEach [e, e2] X.env = (false, eval e X.env) :: starEach [e2] X.env := by rfl) (hpl : (backTo pos (starEach [e2] X.env)).any (·.1) = false := by rfl) :
    PI X (.Tuple elts kk tpos) (.Call (.Name "zip" p) [e, e2] [] pos) (iZipS ta) := by
  refine ⟨fun pins s σ H R0 I h => ?_⟩
  refine Call_ (ld_blt I hg hm PyProof.Rows.boot_zip (PyProof.Rows.callWith_type1 (thn (ha.run pos pins s σ H _ I h) fun us s1 ⟨vs, H1, I1, r1, q1⟩ => ?_) hs hpl))
  obtain ⟨x, y, ex, q1⟩ := q1
  subst ex
  obtain ⟨t, u, rfl⟩ : ∃ t u, us = [Value.str x t, Value.str y u] := by
    cases r1 with
    | cons r rr =>
      cases rr with
      | cons r2 rr =>
        cases rr
        obtain ⟨t, e1⟩ := r
        obtain ⟨u, e2⟩ := r2
        subst e1
        subst e2
        exact ⟨t, u, rfl⟩
  refine zip_begins2 (begins_text x t) (begins_text y u) trivial trivial fun h' hz hTI hTO h1 h2 hsz hk => wpAny_pyIter_zip hz ?_
  have I2 : Inv X pins σ H1 { s1 with heap := h' } := I1.kept (t' := s1.toks) hk
  refine ⟨s1.heap.objs.size + 4, zpFp s1.heap.objs.size, ZpSt x y t u s1.heap.objs.size, ItzS x y, H1, rfl, I2, turn_zipS x y t u _, ⟨hz, hTI, ⟨_, _, hTO⟩, ⟨_, h1, rfl, rfl⟩, ⟨_, h2, rfl, rfl⟩⟩, fun b hb => ?_, q1⟩
  have hle : s1.heap.objs.size ≤ b := by
    rcases zp_mem hb with q | q | q | q | q
    all_goals (rw [q]; first | exact Nat.le_refl _ | exact Nat.le_add_right _ _)
  obtain ⟨n0, n1, n2, n3, n4, n5⟩ := I1.fpOk hle (I1.hok.fresh hle)
  exact ⟨n0, n1, n2, n3, n4, n5⟩
theorem walk_zipS {x y : Str} : Walk (ItzS x y) (min x.cps.size y.cps.size) (fun _ => True)
    (fun i H v H' => ∃ (T : Addr) (c d : Nat), v = .ref T ∧ H T = none ∧ H' = upd H T (.tup [.str ⟨#[c]⟩, .str ⟨#[d]⟩]) ∧ x.cps[i]? = some c ∧ y.cps[i]? = some d) :=
  ⟨fun _ _ hi _ => hi, fun _ _ => rfl, fun _ _ _ _ _ _ h => h⟩
end K24
/-! K24, part 2r: text[::-1] -/
namespace K24
open PySem PySem.Spec PyProof.Rows L2

theorem back_ix (n : Nat) : Builtin.Str.strSliceIndices none none (-1) n = (List.range n).reverse := by
  have e : Builtin.Str.strSliceIndices none none (-1) n = sliceRange ((n : Int) - 1) (-1) (-1) := rfl
  rw [e, PySem.W.krv_sliceRange, PySem.W.krv_range]
theorem back_pick (z : Str) (t k : Tok) : sliceMade z t none none (some (-1, k)) = .str ⟨z.cps.toList.reverse.toArray⟩ := by
  have e : slicePicked z none none (some (-1, k)) = (List.range z.cps.size).reverse := back_ix _
  unfold sliceMade
  have no : ¬ (((some ((-1 : Int), k)).map (·.1)).getD 1 == 1 && (slicePicked z none none (some (-1, k))).length == z.length) = true := by
    show ¬ (((-1 : Int) == 1) && _) = true
    rw [show ((-1 : Int) == 1) = false from rfl, Bool.false_and]
    exact Bool.false_ne_true
  rw [if_neg no, e, List.filterMap_reverse, PySem.W.krv_all]
/-- text[::-1] -/
def tRevS (te : TE) : TE := fun σ H Q => te σ H fun x H1 => ∃ z : Str, x = .str z ∧ z.length ≤ sizeLine ∧ Q (.str ⟨z.cps.toList.reverse.toArray⟩) H1
theorem pe_revS {X : Cx} {e : Expr} {te : TE} {k : Nat} {p1 p2 p3 pos : Pos} (he : PE X e te) : PE X (.Subscript e (.Slice none none (some (.UnaryOp .USub (.Constant (.int 1) k p1) p2)) p3) pos) (tRevS te) := by
  refine ⟨fun pins s σ H Q I h => ?_⟩
  have step : PO X (some (.UnaryOp .USub (.Constant (.int 1) k p1) p2)) (tPart (tUn (rU fun i => .int (-i)) (tC (.int 1)))) := po_some (pe_un un_neg pe_int)
  refine Subscript_ (thn (he.run pins s σ H _ I h) fun v s1 q => ?_)
  obtain ⟨x, H1, I1, r1, z, ex, hz, q1⟩ := q
  subst ex
  obtain ⟨t, e1⟩ := r1
  subst e1
  refine wpAny_Slice ?_
  rw [evalPart_none]
  refine wpAny_pure (wpAny_pure (thn (step.run pins s1 σ H1 (fun o H2 => o = some (-1) ∧ H2 = H1) I1 ⟨1, rfl, -1, rfl, rfl, rfl⟩) fun vs s2 q2 => ?_))
  obtain ⟨o, H2, I2, pt, eo, e2⟩ := q2
  subst eo e2
  obtain ⟨l, ev, el⟩ := L2.IsPart.raw pt
  subst ev
  have hl : ∃ tk, l = some (-1, tk) := by
    cases l with
    | none => exact absurd el (by decide)
    | some c =>
      obtain ⟨c1, c2⟩ := c
      have e3 : c1 = -1 := Option.some.inj el
      subst e3
      exact ⟨c2, rfl⟩
  obtain ⟨tk, e4⟩ := hl
  subst e4
  refine tail_any (ops := [.str z t, .ref s2.heap.objs.size]) (typeIs_str _ _ _) F.slot_str_getitem.lookup ?_ (by with_unfolding_all rfl)
  refine wpAny_getItem_str_slice (l := none) (u := none) (st := some (-1, tk)) ⟨_, Heap.get?_push_size _ rfl, rfl, rfl⟩ rfl ?_
  rw [back_pick]
  have I3 : Inv X pins σ H2 { s2 with heap := s2.heap.push { cls := .type "slice", data := .fields #[partValue none, partValue none, partValue (some (-1, tk))] }, toks := s2.toks + 1 } := I2.kept fun b ob q => Heap.get?_push_of_some _ q
  refine ⟨?_, .str ⟨z.cps.toList.reverse.toArray⟩, H2, I3, ⟨_, rfl⟩, q1⟩
  show z.cps.toList.reverse.toArray.size ≤ sizeLine
  rw [List.size_toArray, List.length_reverse, Array.length_toList]
  exact hz
theorem S_rev (w : List B) : (⟨(S w).cps.toList.reverse.toArray⟩ : Str) = S w.reverse := by
  unfold S
  rw [List.map_reverse]
end K24
/-! K24, part 2c: list.count of a text in a list of texts -/
namespace K24
open PySem PySem.Spec PyProof.Rows L2
def eqs (z : Str) : Value → Bool
  | .str y _ => y == z
  | _ => false
theorem eqs_count (z : Str) : ∀ {ys : List Str} {us : List Value}, Vals (ys.map V.str) us → us.countP (eqs z) = ys.countP (· == z) ∧ ∀ v ∈ us, ∃ y t, v = .str y t
  | [], _, r => by
    cases r
    exact ⟨rfl, fun v h => nomatch h⟩
  | y :: ys, us, r => by
    rw [List.map_cons] at r
    cases r with
    | cons r1 rr =>
      obtain ⟨t, e⟩ := r1
      subst e
      obtain ⟨h1, h2⟩ := eqs_count z rr
      refine ⟨?_, fun v hv => ?_⟩
      · rw [List.countP_cons, List.countP_cons, h1]
        rfl
      · rcases List.mem_cons.mp hv with e | e
        · exact ⟨y, t, e⟩
        · exact h2 v e
def rCntS (K : PySem.W.Frag) : V → List V → Hp → VK → Prop := fun x xs H Q => ∃ (p : Addr) (ys : List Str) (z : Str), x = .ref p ∧ xs = [.str z] ∧ SqL K H p (ys.map V.str) ∧ Q (.int (ys.countP (· == z) : Nat)) H
theorem mt_countS {X : Cx} : MtR X "list.count" (rCntS X.K) := by
  intro pins s σ H x xs v us Q I rx rxs h
  obtain ⟨p, ys, z, ex, exs, hs, q⟩ := h
  subst ex exs
  cases rx
  obtain ⟨t, e1⟩ : ∃ t, us = [Value.str z t] := by
    cases rxs with
    | cons r rr =>
      cases rr
      obtain ⟨t, e⟩ := r
      exact ⟨t, by rw [e]⟩
  subst e1
  obtain ⟨its, rv, ⟨o, n, ho, hc, _, hd⟩, _⟩ := I.list hs
  obtain ⟨cls, dd, data, sl⟩ := o
  have hc' : cls = .type "list" := hc
  have hd' : data = .seq its.toArray n := hd
  subst hc' hd'
  obtain ⟨c1, c2⟩ := eqs_count z rv
  refine call_meets PySem.F.slot_list_count ⟨_, ho, rfl⟩ PySem.F.entry_list_count (PySem.F.args_list_count_2 _ _) (SeqAt.list_countAt p its.toArray n dd sl (.str z t) (eqs z)) ⟨ho, fun y hy => ?_, ?_⟩
  · obtain ⟨y2, t2, e⟩ := c2 y (by simpa using hy)
    rw [e]
    exact SeqAt.EqAt.str_str y2 t2 z t
  · have e : its.toArray.toList.countP (eqs z) = ys.countP (· == z) := c1
    refine ⟨.int (ys.countP (· == z) : Nat), H, I.tok _, ⟨s.toks, ?_⟩, q⟩
    rw [e]
end K24
/-! K24, part 2l: list(zip(s, t)), both texts -/
namespace K24
open PySem PySem.Spec PyProof.Rows L2

theorem nolen_zp : typeLookup (.type "zip") "__len__" = pure none := by rw [typeLookup_type, builtinLookup_eq_fast]; kernel_rfl
theorem nohint_zp : typeLookup (.type "zip") "__length_hint__" = pure none := by rw [typeLookup_type, builtinLookup_eq_fast]; kernel_rfl
theorem alive_ {M : Model} {A : Around} {E : Value → Shared → Prop} {s : Shared} {a : Addr} {Q : Option Obj → Shared → Prop} (h : Q (s.heap.get? a) s) : wpAny M A (loadIfAlive a) Q E s := fun _ _ _ => h
/-- a zip that has handed out the tuple at T, which is kept elsewhere -/
abbrev IsZipG (h : Heap) (N T : Addr) (b : Bool) : Prop :=
  h.get? (N + 4) = some { cls := .type "zip", dict := none, data := .fields #[rawInt T, .bool b, .bool false, .ref (N + 2), .ref (N + 3)], slots := #[] }
def ZrSt (x y : Str) (t u : Tok) (N T : Addr) (b : Bool) (i : Nat) (h : Heap) : Prop :=
  IsZipG h N T b ∧ ((∃ o, h.get? T = some o) ∧ T ≠ N + 4 ∧ T ≠ N ∧ T ≠ N + 1) ∧ IsTupOf2 h (N + 2) (.ref N) (.ref (N + 1)) ∧ h.IsStrIter N (strIterType x) x t i ∧ h.IsStrIter (N + 1) (strIterType y) y u i
section
variable {prog : Program} {w : World} {A : Around} {E : Value → Shared → Prop} {s : Shared} {x y : Str} {t u : Tok} {N T : Addr} {b : Bool} {i : Nat}
theorem not_free {Q : Bool → Shared → Prop} {oT : Obj} (hz : IsZipG s.heap N T b) (hT : s.heap.get? T = some oT) (h : ∀ h', IsZipG h' N T true → Heap.SameBut (N + 4) s.heap h' → Q false { s with heap := h' }) :
    wpAny (model prog w) A (Builtin.SmallTypes.ownedTupleIsFree (.ref (N + 4))) Q E s := by
  unfold Builtin.SmallTypes.ownedTupleIsFree
  refine wpAny_bind (wpAny_field hz rfl (x := .int T 0) rfl ?_)
  refine wpAny_bind (alive_ ?_)
  rw [show ((T : Int)).toNat = T from Int.toNat_natCast T, hT]
  show wpAny _ _ (field (.ref (N + 4)) 1 >>= _) _ _ _
  refine wpAny_bind (wpAny_field hz rfl (x := .bool b) rfl ?_)
  cases b with
  | true => exact wpAny_pure (h s.heap hz (Heap.SameBut.refl ..))
  | false => exact wpAny_bind (wpAny_setField_rec hz (by simp) fun h' hz' hs' => wpAny_pure (h h' hz' hs'))
theorem m04 {N : Nat} : N ≠ N + 4 := by omega
theorem m14 {N : Nat} : N + 1 ≠ N + 4 := by omega
theorem m24 {N : Nat} : N + 2 ≠ N + 4 := by omega
theorem m01 {N : Nat} : N ≠ N + 1 := by omega
theorem m20 {N : Nat} : N + 2 ≠ N := by omega
theorem m21 {N : Nat} : N + 2 ≠ N + 1 := by omega
theorem zr_next {Q : Fin → Shared → Prop} (hh : A.handled = none) (st : ZrSt x y t u N T b i s.heap) (hx : i < x.cps.size) (hy : i < y.cps.size)
    (h : ∀ c d tc td h' tk, x.cps[i]? = some c → y.cps[i]? = some d → ZrSt x y t u N T true (i + 1) h' → IsTupOf2 h' s.heap.objs.size (.str ⟨#[c]⟩ tc) (.str ⟨#[d]⟩ td) → h'.objs.size = s.heap.objs.size + 1 →
      (∀ c o, c ≠ N + 4 → c ≠ N → c ≠ N + 1 → s.heap.get? c = some o → h'.get? c = some o) → Q (.done (.ret (.ref s.heap.objs.size))) { s with heap := h', toks := tk }) :
    wpAny (model prog w) A (Builtin.«zip.__next__» ⟨[.ref (N + 4)], []⟩) Q E s := by
  obtain ⟨hz, ⟨⟨oT, hT⟩, T4, T0, T1⟩, hTI, h1, h2⟩ := st
  have D1 := Draws.text (prog := prog) (w := w) (A := A) hh N x t
  have D2 := Draws.text (prog := prog) (w := w) (A := A) hh (N + 1) y u
  show wpAny _ _ (field (.ref (N + 4)) 2 >>= _) _ _ _
  refine wpAny_bind (wpAny_field hz rfl (x := .bool false) rfl ?_)
  show wpAny _ _ (field (.ref (N + 4)) 3 >>= _) _ _ _
  refine wpAny_bind (wpAny_field hz rfl (x := .ref (N + 2)) rfl ?_)
  refine wpAny_bind (wpAny_seqItems hTI rfl ?_)
  show wpAny _ _ (Builtin.SmallTypes.ownedTupleIsFree (.ref (N + 4)) >>= _) _ _ _
  refine wpAny_bind (not_free hz hT fun g0 hz0 hs0 => ?_)
  rw [if_neg Bool.false_ne_true]
  refine wpAny_bind ?_
  rw [← Array.forIn_toList]
  simp only [List.forIn_cons, List.forIn_nil]
  refine wpAny_bind (wpAny_bind (wpAny_holding ?_))
  show wpAny _ _ (Builtin.SmallTypes.nextOf (.ref N) >>= _) _ _ _
  have a1 : g0.IsStrIter N (strIterType x) x t i := D1.over h1 hs0 (by intro q; exact m04 (List.mem_singleton.mp q).symm)
  have a2 : g0.IsStrIter (N + 1) (strIterType y) y u i := D2.over h2 hs0 (by intro q; exact m14 (List.mem_singleton.mp q).symm)
  refine wpAny_bind (D1.item i { s with heap := g0 } _ _ hx a1 fun v1 p1 tk1 hv1 b1 k1 => wpAny_pure ?_)
  refine wpAny_pure ?_
  refine wpAny_bind (wpAny_bind (wpAny_holding ?_))
  show wpAny _ _ (Builtin.SmallTypes.nextOf (.ref (N + 1)) >>= _) _ _ _
  have a3 : p1.IsStrIter (N + 1) (strIterType y) y u i := D2.over a2 k1 (by intro q; exact m01 (List.mem_singleton.mp q))
  refine wpAny_bind (D2.item i { s with heap := p1, toks := tk1 } _ _ hy a3 fun v2 p2 tk2 hv2 b2 k2 => wpAny_pure ?_)
  refine wpAny_pure (wpAny_pure ?_)
  obtain ⟨c, tc, ec, e1⟩ := hv1
  obtain ⟨d, td, ed, e2⟩ := hv2
  subst e1 e2
  have hsz : p2.objs.size = s.heap.objs.size := by rw [k2.1, k1.1, hs0.1]
  have keep : ∀ c o, c ≠ N + 4 → c ≠ N → c ≠ N + 1 → s.heap.get? c = some o → p2.get? c = some o := fun c o c1 c2 c3 e => k2.extBut _ _ c3 (k1.extBut _ _ c2 (hs0.extBut _ _ c1 e))
  have hz2 : IsZipG p2 N T true := k2.extBut _ _ (Ne.symm m14) (k1.extBut _ _ (Ne.symm m04) hz0)
  refine wpAny_bind (wpAny_newTuple (hsz := by show 2 ≤ sizeLine; decide) ?_)
  refine wpAny_pure ?_
  have up : ∀ c' o', p2.get? c' = some o' → (p2.push { cls := .type "tuple", data := .seq #[.str ⟨#[c]⟩ tc, .str ⟨#[d]⟩ td] }).get? c' = some o' := fun c' o' e => Heap.get?_push_of_some _ e
  show Q (.done (.ret (.ref p2.objs.size))) ⟨p2.push { cls := .type "tuple", data := .seq #[.str ⟨#[c]⟩ tc, .str ⟨#[d]⟩ td] }, _, _, tk2, _⟩
  rw [hsz]
  refine h c d tc td _ tk2 ec ed ⟨up _ _ hz2, ⟨⟨oT, up _ _ (keep T oT T4 T0 T1 hT)⟩, T4, T0, T1⟩, up _ _ (keep _ _ m24 m20 m21 hTI), ?_, ?_⟩ (by rw [← hsz]; exact Heap.get?_push_size _ rfl) (by rw [Heap.size_push, hsz]) fun c' o' c1 c2 c3 e => up _ _ (keep c' o' c1 c2 c3 e)
  · obtain ⟨o, ho, r⟩ := D1.over b1 k2 (by intro q; exact m01 (List.mem_singleton.mp q).symm)
    exact ⟨o, up _ _ ho, r⟩
  · obtain ⟨o, ho, r⟩ := b2
    exact ⟨o, up _ _ ho, r⟩
theorem zr_end {Q : Fin → Shared → Prop} (hh : A.handled = none) (st : ZrSt x y t u N T b i s.heap) (hi : i ≤ x.cps.size) (hj : i ≤ y.cps.size) (he : i = x.cps.size ∨ i = y.cps.size)
    (h : ∀ h' tk e, (∀ c o, c ≠ N + 4 → c ≠ N → c ≠ N + 1 → s.heap.get? c = some o → h'.get? c = some o) → (∃ o, h'.get? e = some o ∧ o.cls = .type "StopIteration") → E (.ref e) { s with heap := h', toks := tk }) :
    wpAny (model prog w) A (Builtin.«zip.__next__» ⟨[.ref (N + 4)], []⟩) Q E s := by
  obtain ⟨hz, ⟨⟨oT, hT⟩, T4, T0, T1⟩, hTI, h1, h2⟩ := st
  have D1 := Draws.text (prog := prog) (w := w) (A := A) hh N x t
  have D2 := Draws.text (prog := prog) (w := w) (A := A) hh (N + 1) y u
  show wpAny _ _ (field (.ref (N + 4)) 2 >>= _) _ _ _
  refine wpAny_bind (wpAny_field hz rfl (x := .bool false) rfl ?_)
  show wpAny _ _ (field (.ref (N + 4)) 3 >>= _) _ _ _
  refine wpAny_bind (wpAny_field hz rfl (x := .ref (N + 2)) rfl ?_)
  refine wpAny_bind (wpAny_seqItems hTI rfl ?_)
  show wpAny _ _ (Builtin.SmallTypes.ownedTupleIsFree (.ref (N + 4)) >>= _) _ _ _
  refine wpAny_bind (not_free hz hT fun g0 hz0 hs0 => ?_)
  rw [if_neg Bool.false_ne_true]
  refine wpAny_bind ?_
  rw [← Array.forIn_toList]
  simp only [List.forIn_cons, List.forIn_nil]
  refine wpAny_bind (wpAny_bind (wpAny_holding ?_))
  show wpAny _ _ (Builtin.SmallTypes.nextOf (.ref N) >>= _) _ _ _
  have a1 : g0.IsStrIter N (strIterType x) x t i := D1.over h1 hs0 (by intro q; exact m04 (List.mem_singleton.mp q).symm)
  have a2 : g0.IsStrIter (N + 1) (strIterType y) y u i := D2.over h2 hs0 (by intro q; exact m14 (List.mem_singleton.mp q).symm)
  by_cases hx : i < x.cps.size
  · have hy : i = y.cps.size := by omega
    refine wpAny_bind (D1.item i { s with heap := g0 } _ _ hx a1 fun v1 p1 tk1 hv1 b1 k1 => wpAny_pure ?_)
    refine wpAny_pure ?_
    refine wpAny_bind (wpAny_bind (wpAny_holding ?_))
    show wpAny _ _ (Builtin.SmallTypes.nextOf (.ref (N + 1)) >>= _) _ _ _
    have a3 : p1.IsStrIter (N + 1) (strIterType y) y u i := D2.over a2 k1 (by intro q; exact m01 (List.mem_singleton.mp q))
    rw [hy] at a3
    refine wpAny_bind (D2.done { s with heap := p1, toks := tk1 } _ _ a3 fun q e hq ho => ?_)
    exact h q tk1 e (fun c o c1 c2 c3 z => hq _ _ c3 (k1.extBut _ _ c2 (hs0.extBut _ _ c1 z))) ho
  · have hy : i = x.cps.size := by omega
    rw [hy] at a1
    refine wpAny_bind (D1.done { s with heap := g0 } _ _ a1 fun q e hq ho => ?_)
    exact h q s.toks e (fun c o c1 c2 c3 z => hq _ _ c2 (hs0.extBut _ _ c1 z)) ho
theorem zr_pyNext {Q : Option Value → Shared → Prop} (hh : A.handled = none) (st : ZrSt x y t u N T b i s.heap) (hx : i < x.cps.size) (hy : i < y.cps.size)
    (h : ∀ c d tc td h' tk, x.cps[i]? = some c → y.cps[i]? = some d → ZrSt x y t u N T true (i + 1) h' → IsTupOf2 h' s.heap.objs.size (.str ⟨#[c]⟩ tc) (.str ⟨#[d]⟩ td) → h'.objs.size = s.heap.objs.size + 1 →
      (∀ c o, c ≠ N + 4 → c ≠ N → c ≠ N + 1 → s.heap.get? c = some o → h'.get? c = some o) → Q (some (.ref s.heap.objs.size)) { s with heap := h', toks := tk }) :
    wpAny (model prog w) A (pyNext (.ref (N + 4))) Q E s := by
  have ty : s.TypeIs (.ref (N + 4)) "zip" := ⟨_, st.1, rfl⟩
  unfold pyNext
  refine wpAny_bind (wpAny_attempt (wpAny_callSpecial?_slot (name := Str.ofString "__next__") ty F.slot_zip_next (wpAny_call_entry F.slot_zip_next ty F.entry_zip_next (zr_next (A := A.in1) hh st hx hy ?_) (F.args_zip_next_1 _))))
  exact fun c d tc td h' tk e1 e2 e3 e4 e5 e6 => ⟨_, rfl, wpAny_pure (h c d tc td h' tk e1 e2 e3 e4 e5 e6)⟩
theorem zr_pyEnd {Q : Option Value → Shared → Prop} (hh : A.handled = none) (st : ZrSt x y t u N T b i s.heap) (hi : i ≤ x.cps.size) (hj : i ≤ y.cps.size) (he : i = x.cps.size ∨ i = y.cps.size)
    (h : ∀ h' tk, (∀ c o, c ≠ N + 4 → c ≠ N → c ≠ N + 1 → s.heap.get? c = some o → h'.get? c = some o) → Q none { s with heap := h', toks := tk }) :
    wpAny (model prog w) A (pyNext (.ref (N + 4))) Q E s := by
  have ty : s.TypeIs (.ref (N + 4)) "zip" := ⟨_, st.1, rfl⟩
  unfold pyNext
  refine wpAny_bind (wpAny_attempt (wpAny_callSpecial?_slot (name := Str.ofString "__next__") ty F.slot_zip_next (wpAny_call_entry F.slot_zip_next ty F.entry_zip_next (zr_end (A := A.in1) hh st hi hj he fun h' tk e k ho => ?_) (F.args_zip_next_1 _))))
  obtain ⟨o, ho, hc⟩ := ho
  refine wpAny_bind (wpAny_isInstance (T := "StopIteration") (b := true) ⟨o, ho, hc⟩ isSubtype_stop ?_)
  exact wpAny_pure (h h' tk k)
end
end K24
/-! K24, part 2m: list(zip(s, t)) as an expression -/
namespace K24
open PySem PySem.Spec PyProof.Rows L2

theorem zg_inj {h : Heap} {N T T2 : Addr} {b b2 : Bool} (z : IsZipG h N T b) (z2 : IsZipG h N T2 b2) : T2 = T := by
  have e := z.symm.trans z2
  have e1 : (#[rawInt T, .bool b, .bool false, .ref (N + 2), .ref (N + 3)] : Array Value) = #[rawInt T2, .bool b2, .bool false, .ref (N + 2), .ref (N + 3)] := by
    have e0 := Option.some.inj e
    injection e0 with _ _ e3 _
    injection e3
  have e2 : rawInt T = rawInt T2 := by
    have q := congrArg (fun a : Array Value => a[0]?) e1
    exact Option.some.inj q
  injection e2 with e3 _
  exact (Int.ofNat.inj e3).symm
/-- the zip at turn i, its last tuple kept -/
def Zst (x y : Str) (t u : Tok) (N : Addr) (i : Nat) (h : Heap) : Prop := (i = 0 ∧ ZpSt x y t u N 0 h) ∨ ∃ T b, ZrSt x y t u N T b i h
theorem add_ne {N M : Nat} (h : N + 5 ≤ M) : N + 4 ≠ M ∧ N + 2 ≠ M ∧ N + 3 ≠ M ∧ N ≠ M ∧ N + 1 ≠ M := by omega
theorem far_ne {N M : Nat} (h : N + 4 < M) : M ≠ N + 4 ∧ M ≠ N ∧ M ≠ N + 1 := by omega
theorem m23 {N : Nat} : N + 2 ≠ N + 3 := by omega
def zCh (N : Addr) : List Addr := [N + 4, N + 3, N, N + 1]
section
variable {prog : Program} {w : World} {A : Around} {E : Value → Shared → Prop} {s : Shared} {x y : Str} {t u : Tok} {N : Addr} {i : Nat}
theorem Zst.tyOf (st : Zst x y t u N i s.heap) : s.TypeIs (.ref (N + 4)) "zip" := by
  rcases st with ⟨_, z, _⟩ | ⟨_, _, z, _⟩
  · exact ⟨_, z, rfl⟩
  · exact ⟨_, z, rfl⟩
theorem ch_in {N : Addr} : ∀ b ∈ zCh N, b ∈ zpFp N := fun b hb => by
  have e : b = N + 4 ∨ b = N + 3 ∨ b = N ∨ b = N + 1 := by simpa [zCh] using hb
  rcases e with q | q | q | q <;> simp [zpFp, q]
theorem Zst.frame {h h' : Heap} (st : Zst x y t u N i h) (M : Nat) (hM : N + 5 ≤ M) (k : ∀ b o, b ≠ M → h.get? b = some o → h'.get? b = some o) (hT : ∀ T b, ZrSt x y t u N T b i h → T ≠ M) : Zst x y t u N i h' := by
  have an := add_ne hM
  have ne : ∀ b ∈ zpFp N, b ≠ M := fun b hb => by
    rcases zp_mem hb with q | q | q | q | q
    · rw [q]; exact an.1
    · rw [q]; exact an.2.1
    · rw [q]; exact an.2.2.1
    · rw [q]; exact an.2.2.2.1
    · rw [q]; exact an.2.2.2.2
  rcases st with ⟨e, z⟩ | ⟨T, b, z⟩
  · exact .inl ⟨e, zp_keep z fun b hb o q => k b o (ne b hb) q⟩
  · have nT := hT T b z
    obtain ⟨z1, ⟨⟨o, z2⟩, z3⟩, z4, ⟨o5, z5, r5⟩, ⟨o6, z6, r6⟩⟩ := z
    exact .inr ⟨T, b, k _ _ (ne _ (by simp [zpFp])) z1, ⟨⟨o, k T o nT z2⟩, z3⟩, k _ _ (ne _ (by simp [zpFp])) z4, ⟨o5, k _ _ (ne _ (by simp [zpFp])) z5, r5⟩, ⟨o6, k _ _ (ne _ (by simp [zpFp])) z6, r6⟩⟩
theorem nat_lt3 {b N M s : Nat} (h : b = N + 4 ∨ b = N + 3 ∨ b = N ∨ b = N + 1) (h1 : N + 5 ≤ M) (h2 : M < s) : b ≠ M ∧ b ≠ s := by omega
theorem ch_lt {N : Addr} {M s : Nat} (h1 : N + 5 ≤ M) (h2 : M < s) {b : Addr} (hb : b ∈ zCh N) : b ≠ M ∧ b ≠ s :=
  nat_lt3 (show b = N + 4 ∨ b = N + 3 ∨ b = N ∨ b = N + 1 by simpa [zCh] using hb) h1 h2
theorem z_next {Q : Option Value → Shared → Prop} (hh : A.handled = none) (st : Zst x y t u N i s.heap) (hx : i < x.cps.size) (hy : i < y.cps.size)
    (h : ∀ c d tc td h' tk, x.cps[i]? = some c → y.cps[i]? = some d → Zst x y t u N (i + 1) h' → (∀ T b, ZrSt x y t u N T b (i + 1) h' → T = s.heap.objs.size ∨ ∃ b2, ZrSt x y t u N T b2 i s.heap) → IsTupOf2 h' s.heap.objs.size (.str ⟨#[c]⟩ tc) (.str ⟨#[d]⟩ td) → h'.objs.size = s.heap.objs.size + 1 →
      (∀ c o, c ∉ zCh N → s.heap.get? c = some o → h'.get? c = some o) → Q (some (.ref s.heap.objs.size)) { s with heap := h', toks := tk }) :
    wpAny (model prog w) A (pyNext (.ref (N + 4))) Q E s := by
  rcases st with ⟨e, z⟩ | ⟨T, b, z⟩
  · subst e
    obtain ⟨s1, s2, ⟨a1, a2, s3⟩, s4, s5⟩ := id z
    have S := zip_sep2 (N := N) (fp1 := []) (fp2 := []) (fun _ h => nomatch h) (fun _ h => nomatch h)
    refine wpAny_pyNext_zipD2_item S (Draws.text (A := A.in1) hh N x t) (Draws.text (A := A.in1) hh (N + 1) y u) s1 s2 s3 s4 s5 hx hy fun x1 x2 h' tk v1 v2 b1 b2 b3 b4 b5 b6 b7 => ?_
    obtain ⟨c, tc, ec, e1⟩ := v1
    obtain ⟨d, td, ed, e2⟩ := v2
    subst e1 e2
    have kk : ∀ c o, c ∉ zCh N → s.heap.get? c = some o → h'.get? c = some o := fun c o hc e => b7 c o (fun q => hc (by simp [zCh, q])) (fun q => hc (by simp [zCh, q])) (fun q => hc (by simp [zCh, q])) (fun q => hc (by simp [zCh, q])) e
    have l4 : N + 4 < s.heap.objs.size := Heap.lt_size s1
    have st' : ZrSt x y t u N s.heap.objs.size false (0 + 1) h' := by
      have fn := far_ne l4
      exact ⟨b1, ⟨⟨_, b5⟩, fn.1, fn.2.1, fn.2.2⟩, b7 _ _ m24 m23 m20 m21 s2, b3, b4⟩
    exact h c d tc td h' tk ec ed (.inr ⟨_, _, st'⟩) (fun T b z => .inl (zg_inj b1 z.1)) b5 b6 kk
  · refine zr_pyNext hh z hx hy fun c d tc td h' tk ec ed z' tp hs k => ?_
    exact h c d tc td h' tk ec ed (.inr ⟨_, _, z'⟩) (fun T2 b2 z2 => .inr ⟨b, by rw [zg_inj z'.1 z2.1]; exact z⟩) tp hs fun c o hc e => k c o (fun q => hc (by simp [zCh, q])) (fun q => hc (by simp [zCh, q])) (fun q => hc (by simp [zCh, q])) e
theorem z_end {Q : Option Value → Shared → Prop} (hh : A.handled = none) (st : Zst x y t u N i s.heap) (hi : i = x.cps.size) (hj : i = y.cps.size)
    (h : ∀ h' tk, (∀ c o, c ∉ zCh N → s.heap.get? c = some o → h'.get? c = some o) → Q none { s with heap := h', toks := tk }) :
    wpAny (model prog w) A (pyNext (.ref (N + 4))) Q E s := by
  rcases st with ⟨e, z⟩ | ⟨T, b, z⟩
  · subst e
    have S := zip_sep2 (N := N) (fp1 := []) (fp2 := []) (fun _ h => nomatch h) (fun _ h => nomatch h)
    obtain ⟨s1, s2, ⟨a1, a2, s3⟩, s4, s5⟩ := z
    exact wpAny_pyNext_zipD2_end S (Draws.text (A := A.in1) hh N x t) (Draws.text (A := A.in1) hh (N + 1) y u) s1 s2 s3 s4 s5 (Nat.zero_le _) (Nat.zero_le _) (.inl hi) fun h' tk k =>
      h h' tk fun c o hc e => k c o (fun q => hc (by simp [zCh, q])) (fun q => hc (by simp [zCh, q])) (fun q => hc (by simp [zCh, q])) (fun q => hc (by simp [zCh, q])) e
  · exact zr_pyEnd hh z (Nat.le_of_eq hi) (Nat.le_of_eq hj) (.inl hi) fun h' tk k =>
      h h' tk fun c o hc e => k c o (fun q => hc (by simp [zCh, q])) (fun q => hc (by simp [zCh, q])) (fun q => hc (by simp [zCh, q])) e
end

section
variable {X : Cx} {pins : List (Addr × Obj)} {σ : L2.St} {x y : Str} {t u : Tok} {N : Addr}
/-- the pairs made so far stand -/
def Pairs (x y : Str) (H : Hp) (ts : List Addr) : Prop := ∀ (j : Nat) (a : Addr) (c d : Nat), ts[j]? = some a → x.cps[j]? = some c → y.cps[j]? = some d → H a = some (.tup [.str ⟨#[c]⟩, .str ⟨#[d]⟩])
theorem zl_loop {A : Around} {R : Result → Shared → Prop} {H0 : Hp} {M : Nat} {res : Value} (hh : A.in1.handled = none) (hxy : x.cps.size = y.cps.size) (hM : N + 5 ≤ M) (hM0 : H0 M = none) (hz : x.cps.size ≤ 1000) :
    ∀ (k i : Nat) (s : Shared) (H : Hp) (ts : List Addr), x.cps.size - i = k → i ≤ x.cps.size → Inv X pins σ H s → Zst x y t u N i s.heap → (∀ T b, ZrSt x y t u N T b i s.heap → T ≠ M) →
      (∀ b ∈ zCh N, FpOk X pins H b) → H M = some (.lst (ts.map V.ref)) → ts.length = i → Evl.Ex H0 H → Pairs x y H ts →
      (∀ s' H' ts', Inv X pins σ H' s' → Evl.Ex H0 H' → H' M = some (.lst (ts'.map V.ref)) → ts'.length = x.cps.size → Pairs x y H' ts' → R (.ok (.ret res)) s') →
      codeAny (model X.prog X.w) A (.builtin "list.extend.loop" ⟨[.ref M, .ref (N + 4), res], []⟩) R s := by
  intro k
  induction k with
  | zero =>
    intro i s H ts hk hi I st hT hf hl hn ex hp hR
    refine codeAny_builtin F.entry_extend_loop ?_
    rw [Around.under_plainId F.plain_extend_loop _]
    show wpAny _ A.in1 (pyNext (.ref (N + 4)) >>= _) _ _ s
    refine wpAny_bind (z_end hh st (by omega) (by omega) fun h' tk kk => ?_)
    have I1 : Inv X pins σ H { s with heap := h', toks := tk } := I.turnedL kk hf
    exact wpAny_pure (hR _ H ts I1 ex hl (by omega) hp)
  | succ k ih =>
    intro i s H ts hk hi I st hT hf hl hn ex hp hR
    refine codeAny_builtin F.entry_extend_loop ?_
    rw [Around.under_plainId F.plain_extend_loop _]
    show wpAny _ A.in1 (pyNext (.ref (N + 4)) >>= _) _ _ s
    refine wpAny_bind (z_next hh st (by omega) (by omega) fun c d tc td h' tk ec ed st' hT' tp hs kk => ?_)
    have nM : M < s.heap.objs.size := I.hok.lt hl
    have MT : (M : Nat) ≠ s.heap.objs.size := Nat.ne_of_lt nM
    have fT : H s.heap.objs.size = none := I.hok.fresh (Nat.le_refl _)
    have new : ObjOk X.prog X.w (upd H s.heap.objs.size (.tup [.str ⟨#[c]⟩, .str ⟨#[d]⟩])) h' s.heap.objs.size (.tup [.str ⟨#[c]⟩, .str ⟨#[d]⟩]) :=
      ⟨by show 2 ≤ sizeLine; decide, [.str ⟨#[c]⟩ tc, .str ⟨#[d]⟩ td], .cons ⟨tc, rfl⟩ (.cons ⟨td, rfl⟩ .nil), ⟨_, tp, rfl, _, rfl⟩⟩
    have I1 : Inv X pins σ (upd H s.heap.objs.size (.tup [.str ⟨#[c]⟩, .str ⟨#[d]⟩])) { s with heap := h', toks := tk } := I.turnedNew kk hf (Nat.le_refl _) new
    have hl1 : upd H s.heap.objs.size (.tup [.str ⟨#[c]⟩, .str ⟨#[d]⟩]) M = some (.lst (ts.map V.ref)) := by rw [upd_ne MT]; exact hl
    obtain ⟨lz, its, n, rv, _, e⟩ := I1.lstM hl1
    show wpAny _ A.in1 (updateSeq M (·.push (.ref s.heap.objs.size)) >>= _) _ _ _
    have tl : ts.length ≤ 1000 := by omega
    have sz : (its.toArray.push (.ref s.heap.objs.size)).size ≤ sizeLine := by
      have l1 := rv.length
      rw [List.length_map] at l1
      rw [Array.size_push, List.size_toArray, ← l1]
      exact Nat.le_trans (Nat.succ_le_succ tl) (by decide)
    have I2 : Inv X pins σ (upd (upd H s.heap.objs.size (.tup [.str ⟨#[c]⟩, .str ⟨#[d]⟩])) M (.lst ((ts ++ [s.heap.objs.size]).map V.ref))) { s with heap := h'.update M (Obj.mapSeq (·.push (.ref s.heap.objs.size))), toks := tk } :=
      I1.lset (its' := its ++ [.ref s.heap.objs.size]) hl1 e (by simp) (by rw [List.map_append]; exact rv.append (.cons (show RelV (.ref _) (Value.ref _) from rfl) .nil)) (by rw [List.length_map, List.length_append]; exact Nat.le_trans (Nat.succ_le_succ tl) (by decide))
    refine wpAny_bind (wpAny_updateSeq e rfl (wpAny_pure ⟨plainId_quiet F.plain_extend_loop _, ih (i + 1) _ _ (ts ++ [s.heap.objs.size]) (by omega) (by omega) I2 ?_ ?_ ?_ upd_same (by rw [List.length_append, hn]; rfl) ?_ ?_ hR⟩) (hz := ?_))
    · refine st'.frame M hM (fun b o hb q => (Heap.get?_update_other _ _ (Ne.symm hb)).trans q) fun T b z => ?_
      rcases hT' T b z with q | ⟨b2, q⟩
      · rw [q]; exact Ne.symm MT
      · exact hT T b2 q
    · intro T b z
      have z2 : IsZipG h' N T b := (Heap.get?_update_other h' _ (Ne.symm (add_ne hM).1)).symm.trans z.1
      rcases st' with ⟨q, _⟩ | ⟨T2, b2, q⟩
      · exact absurd q (Nat.succ_ne_zero i)
      · rw [zg_inj q.1 z2]
        rcases hT' T2 b2 q with r | ⟨b3, r⟩
        · rw [r]; exact Ne.symm MT
        · exact hT T2 b3 r
    · intro b hb
      obtain ⟨_, n1, n2, n3, n4, n5⟩ := hf b hb
      have nb := ch_lt hM nM hb
      exact ⟨by rw [upd_ne nb.1, upd_ne nb.2]; exact (hf b hb).1, n1, n2, n3, n4, n5⟩
    · exact Evl.Ex.mut (ex.trans (Evl.Ex.new fT)) hM0
    · intro j a c2 d2 ha hc hd
      rw [List.getElem?_append] at ha
      by_cases hj : j < ts.length
      · rw [if_pos hj] at ha
        have q := hp j a c2 d2 ha hc hd
        rw [upd_ne (ne_of q hl (fun z => HO.noConfusion z)), upd_ne (ne_of_none q fT)]
        exact q
      · rw [if_neg hj] at ha
        have e0 : j - ts.length = 0 := by
          cases e1 : j - ts.length with
          | zero => rfl
          | succ k2 => rw [e1] at ha; exact absurd ha (by simp)
        have ej : j = i := by omega
        subst ej
        rw [e0] at ha
        have ea : s.heap.objs.size = a := Option.some.inj ha
        rw [ec] at hc
        rw [ed] at hd
        cases hc
        cases hd
        rw [← ea, upd_ne (Ne.symm MT)]
        exact upd_same
    · exact Nat.le_trans (by rw [Array.size_push]; exact Nat.le_succ _) sz
/-- list(zip(s, t)) -/
def tLzip (ta : TA) : TE := fun σ H Q => ta σ H fun vs H1 => ∃ x y, vs = [.str x, .str y] ∧ x.cps.size = y.cps.size ∧ x.cps.size ≤ 1000 ∧
  ∀ (H' : Hp) (p : Addr) (ts : List Addr), Evl.Ex H1 H' → H1 p = none → H' p = some (.lst (ts.map V.ref)) → ts.length = x.cps.size → Pairs x y H' ts → Q (.ref p) H'
theorem pe_lzip {e e2 : Expr} {ta : TA} {p p2 pos pos2 : Pos} (hc : X.calm = true) (hgl : Gl X "list") (hml : X.mg "list" = none) (hg : Gl X "zip") (hm : X.mg "zip" = none) (ha : PA X [e, e2] ta)
    (hs : starEach [e, e2] X.env = (false, eval e X.env) :: starEach [e2] X.env := by rfl) (hpl : (backTo pos2 (starEach [e2] X.env)).any (·.1) = false := by rfl)
    (hs2 : starEach [.Call (.Name "zip" p2) [e, e2] [] pos2] X.env = (false, eval (.Call (.Name "zip" p2) [e, e2] [] pos2) X.env) :: starEach [] X.env := by rfl) :
    PE X (.Call (.Name "list" p) [.Call (.Name "zip" p2) [e, e2] [] pos2] [] pos) (tLzip ta) := by
  refine ⟨fun pins s σ H Q I h => ?_⟩
  refine Call_ (ld_blt I hgl hml PyProof.Rows.boot_list (PyProof.Rows.callWith_type1 ?_ hs2 rfl))
  rw [hs2]
  show wpAny _ _ (spliced ((false, eval (.Call (.Name "zip" p2) [e, e2] [] pos2) X.env) :: backTo pos (starEach [] X.env))) _ _ s
  refine Calls.spliced_cons ?_
  refine Call_ (ld_blt I hg hm PyProof.Rows.boot_zip (PyProof.Rows.callWith_type1 (thn (ha.run pos2 pins s σ H _ I h) fun us s1 q1 => ?_) hs hpl))
  obtain ⟨vs, H1, I1, r1, x, y, ex, exy, hz, q⟩ := q1
  subst ex
  obtain ⟨t, u, eu⟩ : ∃ t u, us = [Value.str x t, Value.str y u] := by
    cases r1 with
    | cons r rr =>
      cases rr with
      | cons r2 rr =>
        cases rr
        obtain ⟨t, e1⟩ := r
        obtain ⟨u, e2⟩ := r2
        exact ⟨t, u, by rw [e1, e2]⟩
  subst eu
  refine zip_begins2 (begins_text x t) (begins_text y u) trivial trivial fun h' hz0 hTI hTO h1 h2 hsz hk => ?_
  have I2 : Inv X pins σ H1 { s1 with heap := h' } := I1.kept (t' := s1.toks) hk
  have st : ZpSt x y t u s1.heap.objs.size 0 h' := ⟨hz0, hTI, ⟨_, _, hTO⟩, ⟨_, h1, rfl, rfl⟩, ⟨_, h2, rfl, rfl⟩⟩
  have hf : ∀ b ∈ zCh s1.heap.objs.size, FpOk X pins H1 b := fun b hb => by
    have hle : s1.heap.objs.size ≤ b := by
      rcases zp_mem (ch_in b hb) with z | z | z | z | z
      all_goals (rw [z]; first | exact Nat.le_refl _ | exact Nat.le_add_right _ _)
    obtain ⟨n0, n1, n2, n3, n4, n5⟩ := I1.fpOk hle (I1.hok.fresh hle)
    exact ⟨n0, n1, n2, n3, n4, n5⟩
  refine Calls.spliced_nil ?_
  generalize s1.heap.objs.size = N at *
  -- the list
  refine callType_codes (Q₁ := fun obj s2 => obj = .ref h'.objs.size ∧ s2 = { s1 with heap := h'.push { cls := .type "list", data := .seq #[] } }) F.called_list (F.typeCall_list_1 _) F.entry_list_init
    (code_list_new _ ⟨rfl, rfl⟩) fun obj s2 hh => ?_
  obtain ⟨e1, e2⟩ := hh
  subst e1 e2
  have I3 : Inv X pins σ (upd H1 h'.objs.size (.lst [])) { s1 with heap := h'.push { cls := .type "list", data := .seq #[] } } := I2.lnew (its := []) (t' := s1.toks) .nil (Nat.zero_le _)
  have nH : H1 h'.objs.size = none := I2.hok.fresh (Nat.le_refl _)
  have hS : (h'.push { cls := .type "list", data := .seq #[] }).get? h'.objs.size = some { cls := .type "list", data := .seq #[] } := Heap.get?_push_size _ rfl
  have lN : N + 5 ≤ h'.objs.size := Nat.le_of_eq hsz.symm
  have stay : ∀ {g g' : Heap}, ZpSt x y t u N 0 g → (∀ b o, b ≠ h'.objs.size → g.get? b = some o → g'.get? b = some o) → ZpSt x y t u N 0 g' := fun {g g'} z k => zp_keep z fun b hb o q => k b o (by
    have an := add_ne lN
    rcases zp_mem hb with r | r | r | r | r
    · rw [r]; exact an.1
    · rw [r]; exact an.2.1
    · rw [r]; exact an.2.2.1
    · rw [r]; exact an.2.2.2.1
    · rw [r]; exact an.2.2.2.2) q
  have st3 : ZpSt x y t u N 0 (h'.push { cls := .type "list", data := .seq #[] }) := zp_keep st fun b _ o q => Heap.get?_push_of_some _ q
  refine ⟨⟨_, hS, rfl⟩, F.args_list_init_2 _ _, ?_⟩
  show wpAny _ _ (Builtin.List.listItems (.ref h'.objs.size) >>= fun old => Builtin.List.listUpdate (.ref h'.objs.size) (fun _ => #[]) >>= fun _ => letGo old.toList.reverse >>= fun _ => Builtin.List.listExtendWith (.ref h'.objs.size) (.ref (N + 4)) .none) _ _ _
  refine wpAny_bind ?_
  unfold Builtin.List.listItems
  refine wpAny_bind (wpAny_seqItems hS rfl (wpAny_pure ?_))
  show wpAny _ _ (updateSeq h'.objs.size (fun _ => #[]) >>= _) _ _ _
  refine wpAny_bind (wpAny_updateSeq hS rfl ?_)
  have I4 := I3.lset (its := []) (its' := []) (t' := s1.toks) (f := fun _ => #[]) (ys := []) upd_same hS rfl .nil (Nat.zero_le _)
  have st4 := stay st3 (fun b o hb q => (Heap.get?_update_other _ (Obj.mapSeq (fun _ => (#[] : Array Value))) (Ne.symm hb)).trans q)
  have hS4 := Heap.get?_update_self (Obj.mapSeq (fun _ => (#[] : Array Value))) hS rfl
  generalize (h'.push { cls := .type "list", data := .seq #[] }).update h'.objs.size (Obj.mapSeq (fun _ => #[])) = g4 at *
  refine wpAny_bind (wpAny_letGo ?_)
  unfold Builtin.List.listExtendWith
  have tz : ∀ {g : Heap}, ZpSt x y t u N 0 g → ({ s1 with heap := g } : Shared).TypeIs (.ref (N + 4)) "zip" := fun {g} z => ⟨_, z.1, rfl⟩
  refine wpAny_bind (wpAny_typeOf (tz st4) ?_)
  have d1 : Builtin.List.listSameRef (.ref h'.objs.size) (.ref (N + 4)) = false := by
    have an : h'.objs.size ≠ N + 4 := Ne.symm (add_ne lN).1
    show (h'.objs.size == N + 4) = false
    exact beq_eq_false_iff_ne.mpr an
  have d2 : (Value.type "zip" == Value.type "list") = false := by decide
  have d3 : (Value.type "zip" == Value.type "tuple") = false := by decide
  simp only [d1, d2, d3, Bool.or_false, Bool.false_eq_true, if_false]
  refine wpAny_bind (wpAny_pyIter_zip st4.1 ?_)
  refine wpAny_bind (wpAny_holding ?_)
  unfold Builtin.List.listLengthHint
  refine wpAny_bind (wpAny_specialOf (tz st4) nolen_zp ?_)
  show wpAny _ _ (specialOf (Value.ref (N + 4)) (Str.ofString "__length_hint__") >>= _) _ _ _
  refine wpAny_bind (wpAny_specialOf (tz st4) nohint_zp ?_)
  refine wpAny_pure ?_
  show wpAny _ _ (rule "list.extend.makes-room" >>= fun _ => Builtin.List.listTouch (.ref h'.objs.size) >>= fun _ => again (.builtin "list.extend.loop" ⟨[.ref h'.objs.size, .ref (N + 4), .none], []⟩)) _ _ _
  refine wpAny_bind (wpAny_rule ?_)
  refine wpAny_bind ?_
  show wpAny _ _ (updateSeq h'.objs.size (·.push .none) >>= fun _ => updateSeq h'.objs.size (·.pop)) _ _ _
  rw [upd_upd] at I4
  obtain ⟨_, its, n, rv, _, e4⟩ := I4.lstM upd_same
  cases rv
  refine wpAny_bind (wpAny_updateSeq e4 rfl ?_)
  have I5 := I4.lset (its' := [.none]) (t' := s1.toks) (f := (·.push .none)) (ys := [.non]) upd_same e4 rfl (.cons rfl .nil) (by decide)
  have st5 := stay st4 (fun b o hb q => (Heap.get?_update_other _ (Obj.mapSeq (·.push Value.none)) (Ne.symm hb)).trans q)
  rw [upd_upd] at I5
  obtain ⟨_, its5, n5, rv5, _, e5⟩ := I5.lstM upd_same
  cases rv5 with
  | cons r5 rr5 =>
  cases rr5
  cases r5
  refine wpAny_updateSeq (hz := by show (1 : Nat) ≤ sizeLine; decide) e5 rfl ?_
  have I6 := I5.lset (its' := []) (t' := s1.toks) (f := (·.pop)) (ys := []) upd_same e5 rfl .nil (Nat.zero_le _)
  have st6 := stay st5 (fun b o hb q => (Heap.get?_update_other _ (Obj.mapSeq (·.pop)) (Ne.symm hb)).trans q)
  rw [upd_upd] at I6
  refine wpAny_pure ⟨plainId_quiet F.plain_extend_loop _, ?_⟩
  refine zl_loop (H0 := H1) (N := N) (x := x) (y := y) (t := t) (u := u) (X := X) (pins := pins) (σ := σ) (show X.A.in1.in1.handled = none from I.ok.hd hc) exy lN nH hz (x.cps.size - 0) 0 _ _ [] rfl (Nat.zero_le _) I6 (.inl ⟨rfl, st6⟩) (fun T b z => ?_) (fun b hb => ?_) upd_same rfl (Evl.Ex.new nH) (fun j a c d ha => by simp at ha) (fun s' H' ts' I' ex' hl' hn' hp' => ?_)
  · exfalso
    have e := st6.1.symm.trans z.1
    have e0 := Option.some.inj e
    injection e0 with _ _ e3 _
    injection e3 with e4
    have q := congrArg (fun a : Array Value => a[0]?) e4
    have q2 : (some Value.none : Option Value) = some (rawInt T) := q
    exact Value.noConfusion (Option.some.inj q2)
  · obtain ⟨n0, n1, n2, n3, n4, n5⟩ := hf b hb
    have an := add_ne lN
    have nb : b ≠ h'.objs.size := by
      have e : b = N + 4 ∨ b = N + 3 ∨ b = N ∨ b = N + 1 := by simpa [zCh] using hb
      rcases e with r | r | r | r
      · rw [r]; exact an.1
      · rw [r]; exact an.2.2.1
      · rw [r]; exact an.2.2.2.1
      · rw [r]; exact an.2.2.2.2
    exact ⟨by rw [upd_ne nb]; exact n0, n1, n2, n3, n4, n5⟩
  · exact ⟨rfl, .ref h'.objs.size, H', I', rfl, q H' h'.objs.size ts' ex' nH hl' hn' hp'⟩
end
end K24
/-! K24, part 2t: if x == 'text': behind the test a token is out; z turned to x -/
namespace K24
open PySem PySem.Spec PyProof.Rows L2
section
variable {X : Cx} {a : Expr} {ta : TE} {body : List Stmt} {t : TS} {pos p q : Pos} {c : Str} {j : Nat}
theorem ps_ifT (ha : PE X a ta) (hb : PSsT X body t) (hm : behindInMarks .Eq (.Constant (.str c) j p) = false := by rfl) :
    PS X (.If (.Compare a [.Eq] [.Constant (.str c) j p] q) body [] pos) (tIfS (tTest (tOp rEq ta (tC (.str c)))) t tNext) := by
  refine ⟨fun pins s σ H D I h => ?_⟩
  refine wpAny_If (wpAny_isTrue_Compare1 (thn (ha.run pins s σ H _ I h) fun v s1 h1 => Calls.Constant_str ?_) hm)
  obtain ⟨x, H1, I1, r1, q1⟩ := h1
  have I2 : Inv X pins σ H1 { s1 with toks := s1.toks + 1 } := I1.tok _
  refine wpAny_mono (wpAny_toks (op_eq pins { s1 with toks := s1.toks + 1 } σ H1 x (.str c) v (.str c s1.toks) (fun z H' => ∃ k, z = V.bl k ∧ (if k = true then t D σ H' else tNext D σ H')) I2 r1 ⟨_, rfl⟩ q1)) (fun b s3 h3 => ?_) fun _ _ z => z.2
  obtain ⟨ht, z, H3, I3, r3, k, e, q3⟩ := h3
  subst e
  cases r3
  have ht' : 1 ≤ s3.toks := Nat.le_trans (Nat.succ_le_succ (Nat.zero_le s1.toks)) ht
  refine wpAny_truthy_bool ?_
  cases k with
  | true => exact hb pins s3 σ H3 D ht' I3 q3
  | false => exact wpAny_execs_nil ⟨σ, H3, I3, q3⟩
end
/-- z turned to x, as a text -/
theorem repl_zx : ∀ l : List G, StrLaws.replL [122] [120] (l.map G.c) = (l.map rd).map B.c
  | [] => StrLaws.replL_nil
  | g :: l => by
    have ih := repl_zx l
    rw [List.map_cons, List.map_cons, List.map_cons]
    by_cases h : g = .z
    · subst h
      rw [StrLaws.replL_hit (by decide) (by rfl)]
      show [120] ++ StrLaws.replL [122] [120] (l.map G.c) = _
      rw [ih]
      rfl
    · have ne : ¬ (g.c :: l.map G.c).take ([122] : List Nat).length = [122] := by
        intro e
        have e1 : [g.c] = [122] := e
        have e2 : g.c = 122 := by injection e1
        cases g with
        | z => exact h rfl
        | o => exact absurd e2 (by decide)
        | i => exact absurd e2 (by decide)
        | x => exact absurd e2 (by decide)
      rw [StrLaws.replL_miss ne, ih]
      cases g with
      | z => exact absurd rfl h
      | o => rfl
      | i => rfl
      | x => rfl
theorem replaced (l : List G) : Txt.replace (R l) "z" "x" = S (l.map rd) := by
  apply TL.ext_tl
  have e := StrLaws.replace_list (x := R l) (y := "z") (z := "x") (by decide)
  show (Txt.replace (R l) "z" "x").cps.toList = _
  rw [e]
  exact repl_zx l
end K24
/-! K24, part 3: the text by places (printed by gen3.py) -/
namespace K24
open PySem L2
def top (i : Nat) : Stmt := PySem.Challenge.pw_deltawires_k24_whole_values_of_terms.main.body.getD i (.Pass ⟨0, 0, 0, 0⟩)
abbrev s_read : Stmt := top 2
theorem sc_read : FnScope ["value"] ["value"] (defScope s_read) := ⟨rfl, rfl, rfl, by decide +kernel, rfl, by decide +kernel, by decide +kernel⟩
abbrev s_mixed_bit : Stmt := top 3
theorem sc_mixed_bit : FnScope ["one", "other"] ["one", "other"] (defScope s_mixed_bit) := ⟨rfl, rfl, rfl, by decide +kernel, rfl, by decide +kernel, by decide +kernel⟩
abbrev s_mixed : Stmt := top 4
theorem sc_mixed : FnScope ["one", "other", "sign", "there"] ["one", "other"] (defScope s_mixed) := ⟨rfl, rfl, rfl, by decide +kernel, rfl, by decide +kernel, by decide +kernel⟩
abbrev s_not_bit : Stmt := top 6
theorem sc_not_bit : FnScope ["a"] ["a"] (defScope s_not_bit) := ⟨rfl, rfl, rfl, by decide +kernel, rfl, by decide +kernel, by decide +kernel⟩
abbrev s_and_bit : Stmt := top 7
theorem sc_and_bit : FnScope ["a", "b"] ["a", "b"] (defScope s_and_bit) := ⟨rfl, rfl, rfl, by decide +kernel, rfl, by decide +kernel, by decide +kernel⟩
abbrev s_or_bit : Stmt := top 8
theorem sc_or_bit : FnScope ["a", "b"] ["a", "b"] (defScope s_or_bit) := ⟨rfl, rfl, rfl, by decide +kernel, rfl, by decide +kernel, by decide +kernel⟩
abbrev s_xor_bit : Stmt := top 9
theorem sc_xor_bit : FnScope ["a", "b"] ["a", "b"] (defScope s_xor_bit) := ⟨rfl, rfl, rfl, by decide +kernel, rfl, by decide +kernel, by decide +kernel⟩
abbrev s_most_bit : Stmt := top 10
theorem sc_most_bit : FnScope ["a", "b", "c"] ["a", "b", "c"] (defScope s_most_bit) := ⟨rfl, rfl, rfl, by decide +kernel, rfl, by decide +kernel, by decide +kernel⟩
abbrev s_bit_by_bit : Stmt := top 11
theorem sc_bit_by_bit : FnScope ["rule", "a", "b", "one", "other"] ["rule", "a", "b"] (defScope s_bit_by_bit) := ⟨rfl, rfl, rfl, by decide +kernel, rfl, by decide +kernel, by decide +kernel⟩
abbrev s_plus_bits : Stmt := top 12
theorem sc_plus_bits : FnScope ["a", "b", "found", "carried", "one", "other"] ["a", "b"] (defScope s_plus_bits) := ⟨rfl, rfl, rfl, by decide +kernel, rfl, by decide +kernel, by decide +kernel⟩
abbrev s_less_bit : Stmt := top 13
theorem sc_less_bit : FnScope ["a", "b", "borrowed", "one", "other"] ["a", "b"] (defScope s_less_bit) := ⟨rfl, rfl, rfl, by decide +kernel, rfl, by decide +kernel, by decide +kernel⟩
abbrev s_any_bit : Stmt := top 14
theorem sc_any_bit : FnScope ["a", "found", "one"] ["a"] (defScope s_any_bit) := ⟨rfl, rfl, rfl, by decide +kernel, rfl, by decide +kernel, by decide +kernel⟩
abbrev s_all_bit : Stmt := top 15
theorem sc_all_bit : FnScope ["a", "found", "one"] ["a"] (defScope s_all_bit) := ⟨rfl, rfl, rfl, by decide +kernel, rfl, by decide +kernel, by decide +kernel⟩
abbrev s_pick_bits : Stmt := top 16
theorem sc_pick_bits : FnScope ["c", "a", "b"] ["c", "a", "b"] (defScope s_pick_bits) := ⟨rfl, rfl, rfl, by decide +kernel, rfl, by decide +kernel, by decide +kernel⟩
abbrev s_told_by_one : Stmt := top 17
theorem sc_told_by_one : FnScope ["word", "a", "high", "low", "one"] ["word", "a", "high", "low"] (defScope s_told_by_one) := ⟨rfl, rfl, rfl, by decide +kernel, rfl, by decide +kernel, by decide +kernel⟩
abbrev s_told_by_two : Stmt := top 18
theorem sc_told_by_two : FnScope ["word", "a", "b"] ["word", "a", "b"] (defScope s_told_by_two) := ⟨rfl, rfl, rfl, by decide +kernel, rfl, by decide +kernel, by decide +kernel⟩
abbrev s_operated : Stmt := top 19
theorem sc_operated : FnScope ["word", "values", "high", "low", "first", "others", "value"] ["word", "values", "high", "low"] (defScope s_operated) := ⟨rfl, rfl, rfl, by decide +kernel, rfl, by decide +kernel, by decide +kernel⟩
abbrev s_terms_in : Stmt := top 21
theorem sc_terms_in : FnScope ["term", "word", "things"] ["term"] (defScope s_terms_in) := ⟨rfl, rfl, rfl, by decide +kernel, rfl, by decide +kernel, by decide +kernel⟩
abbrev s_value_of_term : Stmt := top 22
theorem sc_value_of_term : FnScope ["term", "values", "word", "first", "rest", "inner", "high", "low", "one"] ["term", "values"] (defScope s_value_of_term) := ⟨rfl, rfl, rfl, by decide +kernel, rfl, by decide +kernel, by decide +kernel⟩
abbrev s_L_pot : Stmt := top 24
theorem sc_L_pot : FnScope ["_law_script", "_law_k", "_law_cell"] ["_law_script", "_law_k"] (defScope s_L_pot) := ⟨rfl, rfl, rfl, by decide +kernel, rfl, by decide +kernel, by decide +kernel⟩
abbrev s_L_take : Stmt := top 25
theorem sc_L_take : FnScope ["_law_pot_here", "_law_many", "_law_digit"] ["_law_pot_here", "_law_many"] (defScope s_L_take) := ⟨rfl, rfl, rfl, by decide +kernel, rfl, by decide +kernel, by decide +kernel⟩
abbrev s_L_words : Stmt := top 26
theorem sc_L_words : FnScope ["_law_words_here"] [] (defScope s_L_words) := ⟨rfl, rfl, rfl, by decide +kernel, rfl, by decide +kernel, by decide +kernel⟩
abbrev s_L_name : Stmt := top 27
theorem sc_L_name : FnScope ["_law_pot_here", "_law_taken", "_law_letters", "_law_found", "_law_k", "_law_letter"] ["_law_pot_here", "_law_taken"] (defScope s_L_name) := ⟨rfl, rfl, rfl, by decide +kernel, rfl, by decide +kernel, by decide +kernel⟩
abbrev s_L_names : Stmt := top 28
theorem sc_L_names : FnScope ["_law_pot_here", "_law_many", "_law_found", "_law_k"] ["_law_pot_here", "_law_many"] (defScope s_L_names) := ⟨rfl, rfl, rfl, by decide +kernel, rfl, by decide +kernel, by decide +kernel⟩
abbrev s_L_bits : Stmt := top 29
theorem sc_L_bits : FnScope ["_law_pot_here", "_law_width", "_law_signs", "_law_k"] ["_law_pot_here", "_law_width", "_law_signs"] (defScope s_L_bits) := ⟨rfl, rfl, rfl, by decide +kernel, rfl, by decide +kernel, by decide +kernel⟩
abbrev s_L_leaf : Stmt := top 30
theorem sc_L_leaf : FnScope ["_law_pot_here", "_law_widths", "_law_width", "_law_same", "_law_wider", "_law_way", "_law_name_here", "_law_low"] ["_law_pot_here", "_law_widths", "_law_width"] (defScope s_L_leaf) := ⟨rfl, rfl, rfl, by decide +kernel, rfl, by decide +kernel, by decide +kernel⟩
abbrev s_L_bit_term : Stmt := top 31
theorem sc_L_bit_term : FnScope ["_law_pot_here", "_law_widths", "_law_deep", "_law_room", "_law_way", "_law_width", "_law_first"] ["_law_pot_here", "_law_widths", "_law_deep", "_law_room"] (defScope s_L_bit_term) := ⟨rfl, rfl, rfl, by decide +kernel, rfl, by decide +kernel, by decide +kernel⟩
abbrev s_L_term : Stmt := top 32
theorem sc_L_term : FnScope ["_law_pot_here", "_law_widths", "_law_width", "_law_deep", "_law_room", "_law_way", "_law_bit", "_law_first", "_law_left", "_law_whole", "_law_low", "_law_word"] ["_law_pot_here", "_law_widths", "_law_width", "_law_deep", "_law_room"] (defScope s_L_term) := ⟨rfl, rfl, rfl, by decide +kernel, rfl, by decide +kernel, by decide +kernel⟩
abbrev s_L_values : Stmt := top 33
theorem sc_L_values : FnScope ["_law_pot_here", "_law_widths", "_law_signs", "_law_name_here"] ["_law_pot_here", "_law_widths", "_law_signs"] (defScope s_L_values) := ⟨rfl, rfl, rfl, by decide +kernel, rfl, by decide +kernel, by decide +kernel⟩
abbrev s_L_turned : Stmt := top 34
theorem sc_L_turned : FnScope ["_law_bit"] ["_law_bit"] (defScope s_L_turned) := ⟨rfl, rfl, rfl, by decide +kernel, rfl, by decide +kernel, by decide +kernel⟩
abbrev s_L_both : Stmt := top 35
theorem sc_L_both : FnScope ["_law_a", "_law_b"] ["_law_a", "_law_b"] (defScope s_L_both) := ⟨rfl, rfl, rfl, by decide +kernel, rfl, by decide +kernel, by decide +kernel⟩
abbrev s_L_either : Stmt := top 36
theorem sc_L_either : FnScope ["_law_a", "_law_b"] ["_law_a", "_law_b"] (defScope s_L_either) := ⟨rfl, rfl, rfl, by decide +kernel, rfl, by decide +kernel, by decide +kernel⟩
abbrev s_L_unlike : Stmt := top 37
theorem sc_L_unlike : FnScope ["_law_a", "_law_b"] ["_law_a", "_law_b"] (defScope s_L_unlike) := ⟨rfl, rfl, rfl, by decide +kernel, rfl, by decide +kernel, by decide +kernel⟩
abbrev s_L_most : Stmt := top 38
theorem sc_L_most : FnScope ["_law_a", "_law_b", "_law_c", "_law_found", "_law_sign"] ["_law_a", "_law_b", "_law_c"] (defScope s_L_most) := ⟨rfl, rfl, rfl, by decide +kernel, rfl, by decide +kernel, by decide +kernel⟩
abbrev s_L_along_bits : Stmt := top 39
theorem sc_L_along_bits : FnScope ["_law_word", "_law_a", "_law_b", "_law_found", "_law_borne", "_law_k"] ["_law_word", "_law_a", "_law_b"] (defScope s_L_along_bits) := ⟨rfl, rfl, rfl, by decide +kernel, rfl, by decide +kernel, by decide +kernel⟩
abbrev s_L_over : Stmt := top 40
theorem sc_L_over : FnScope ["_law_word", "_law_a", "_law_found", "_law_bit"] ["_law_word", "_law_a"] (defScope s_L_over) := ⟨rfl, rfl, rfl, by decide +kernel, rfl, by decide +kernel, by decide +kernel⟩
abbrev s_L_operated : Stmt := top 41
theorem sc_L_operated : FnScope ["_law_word", "_law_some", "_law_a", "_law_pairs", "_law_bit", "_law_one", "_law_other"] ["_law_word", "_law_some"] (defScope s_L_operated) := ⟨rfl, rfl, rfl, by decide +kernel, rfl, by decide +kernel, by decide +kernel⟩
abbrev s_L_value : Stmt := top 42
theorem sc_L_value : FnScope ["_law_term_here", "_law_values_here", "_law_word", "_law_inner", "_law_one"] ["_law_term_here", "_law_values_here"] (defScope s_L_value) := ⟨rfl, rfl, rfl, by decide +kernel, rfl, by decide +kernel, by decide +kernel⟩
abbrev s_L_great : Stmt := top 43
theorem sc_L_great : FnScope ["_law_pot_here", "_law_name_here", "_law_which", "_law_thing", "_law_k", "_law_row", "_law_pairs"] ["_law_pot_here", "_law_name_here"] (defScope s_L_great) := ⟨rfl, rfl, rfl, by decide +kernel, rfl, by decide +kernel, by decide +kernel⟩
abbrev s_law : Stmt := top 44
theorem sc_law : FnScope ["_law_script", "_law_k", "_law_pot_here", "_law_widths", "_law_terms", "_law_some", "_law_values_here", "_law_handed", "_law_term_here", "_law_name_here", "_law_turn"] ["_law_script"] (defScope s_law) := ⟨rfl, rfl, rfl, by decide +kernel, rfl, by decide +kernel, by decide +kernel⟩
end K24
/-! K24, part 4: the bits' defs of the program -/
namespace K24
open PySem PySem.Spec PyProof.Rows L2

/-- a def of the module under its name -/
structure Df (K : PySem.W.Frag) (mg : Str → Option Value) (x : Str) (st : Stmt) : Prop where
  ex : ∃ f fd, Fun K x x st f fd ∧ mg x = some (.ref f)
/-- .. with its promise -/
structure Cl (P : Program) (w : World) (K : PySem.W.Frag) (mg : Str → Option Value) (base : Heap) (x : Str) (k : Nat) (sp : Sp) : Prop where
  ex : ∃ f fd ps, FnOk P w K mg base CX0 k f fd ps sp ∧ mg x = some (.ref f) ∧ PySem.W.keepIn K (.ref f) = true ∧ Binds K fd ps []
/-- the built-in names that the module leaves alone, its constant -/
structure Bi (mg : Str → Option Value) : Prop where
  len : mg "len" = none
  zip : mg "zip" = none
  range : mg "range" = none
  dict : mg "dict" = none
  list : mg "list" = none
  max : mg "max" = none
  min : mg "min" = none
  int : mg "int" = none
  str : mg "str" = none
  divmod : mg "divmod" = none
  isinstance : mg "isinstance" = none
  tuple : mg "tuple" = none
  told : ∃ t, mg "TOLD" = some (.str "01" t)
section
variable {P : Program} {w : World} {K : PySem.W.Frag} {mg : Str → Option Value} {base : Heap}
theorem mk_cl {x : Str} {st : Stmt} {N ps : List Str} {k : Nat} {sp : Sp} (D : Df K mg x st) (S : FnScope N ps (defScope st))
    (hb : ∀ (kV doc pm : Value) (an : Option Addr) (cdv ct : Value) (us : List Value), us.length = ps.length → bindArgs (PySem.W.fnOf x x (defArgs st) (defBody st) (defScope st) .none kV doc pm an cdv ct) ⟨us, []⟩ = pure (ps.zip us))
    (len : ∀ vs H Q E, sp vs H Q E → vs.length = ps.length)
    (hbody : ∀ (f : Addr) (cdv : Value) (A : Around) (outer : List Env) (s : Shared) (H : Hp) (vs : List V) (Q : VK) (E : XK), Room k (A.deeper (envOfC x (defScope st) s.heap.objs.size f cdv)) → sp vs H Q E →
      ∃ t, PSs (cxOf CX0 P w K mg base N x (defScope st) f cdv A outer s H E).nox (defBody st) t ∧ t { nx := fun _ H' => Q .non H', rt := Q } (start N vs) H) : Cl P w K mg base x (k + 1) sp := by
  obtain ⟨f, fd, F, m⟩ := D.ex
  exact ⟨f, fd, ps, F.ok S len (fun cdv A outer s H vs Q E hr h => hbody f cdv A outer s H vs Q E hr h), m, F.kp, F.binds hb⟩
end
section
variable {X : Cx} {k j : Nat} {x : Str} {sp : Sp} {p pos : Pos} {e : Expr} {es : List Expr} {t : TA}
theorem pe_cl (c : Cl X.prog X.w X.K X.mg X.base x k sp) (hr : Room j X.A) (hk : k ≤ j) (ha : PA X (e :: es) t) (hg : Gl X x := by rfl)
    (hdb : (x == ("__debug__" : Str)) = false := by decide) (he : starEach (e :: es) X.env = (false, eval e X.env) :: starEach es X.env := by rfl) (hpl : (backTo pos (starEach es X.env)).any (·.1) = false := by rfl) :
    PE X (.Call (.Name x p) (e :: es) [] pos) (tCall sp [] E0 t) := by
  obtain ⟨f, fd, ps, F, m, kp, b⟩ := c.ex
  exact pe_call F (hr.mono hk) hg m kp b .nil pass0 ha hdb he hpl
end
/-- one bit as a value -/
abbrev vb (b : B) : V := .str (S [b])
abbrev vw (w : List B) : V := .str (S w)
theorem eq_bit (a b : B) : decide (vb a = vb b) = decide (a = b) := by
  cases a <;> cases b <;> rfl
def spNot : Sp := fun vs H Q _ => ∃ a, vs = [vb a] ∧ Q (vb (nt a)) H
def sp2 (f : B → B → B) : Sp := fun vs H Q _ => ∃ a b, vs = [vb a, vb b] ∧ Q (vb (f a b)) H
def sp3 (f : B → B → B → B) : Sp := fun vs H Q _ => ∃ a b c, vs = [vb a, vb b, vb c] ∧ Q (vb (f a b c)) H
section
variable {P : Program} {w : World} {K : PySem.W.Frag} {mg : Str → Option Value} {base : Heap}
theorem ok_not (D : Df K mg "not_bit" s_not_bit) : Cl P w K mg base "not_bit" 1 spNot := by
  refine mk_cl D sc_not_bit (fun _ _ _ _ _ _ us hl => match us, hl with | [_], _ => rfl) (fun vs H Q E h => ?_) (fun f cdv A outer s H vs Q E hr h => ?_)
  · obtain ⟨a, e, _⟩ := h
    rw [e]; rfl
  obtain ⟨a, e, q⟩ := h
  subst e
  refine ⟨_, pss_cons (ps_if (pt_cmpR op_eq (pv 0) pe_str (nomark _)) (pss_one (ps_ret pe_str)) pss_nil)
    (pss_one (ps_ret (pe_ifExp (pt_cmpR op_eq (pv 0) pe_str (nomark _)) pe_str pe_str))), ?_⟩
  cases a with
  | x => exact ⟨_, rfl, rfl, true, rfl, iteT q⟩
  | o => exact ⟨_, rfl, rfl, false, rfl, iteF ⟨_, rfl, rfl, true, rfl, iteT q⟩⟩
  | i => exact ⟨_, rfl, rfl, false, rfl, iteF ⟨_, rfl, rfl, false, rfl, iteF q⟩⟩
theorem ok_and (D : Df K mg "and_bit" s_and_bit) : Cl P w K mg base "and_bit" 1 (sp2 an) := by
  refine mk_cl D sc_and_bit (fun _ _ _ _ _ _ us hl => match us, hl with | [_, _], _ => rfl) (fun vs H Q E h => ?_) (fun f cdv A outer s H vs Q E hr h => ?_)
  · obtain ⟨a, b, e, _⟩ := h
    rw [e]; rfl
  obtain ⟨a, b, e, q⟩ := h
  subst e
  refine ⟨_, pss_cons (ps_if (PW.pt (pw_or (pt_cmpR op_eq (pv 0) pe_str (nomark _)) (pw_or1 (pt_cmpR op_eq (pv 1) pe_str (nomark _))))) (pss_one (ps_ret pe_str)) pss_nil)
    (pss_one (ps_ret (pe_ifExp (PW.pt (pw_and (pt_cmpR op_eq (pv 0) pe_str (nomark _)) (pw_and1 (pt_cmpR op_eq (pv 1) pe_str (nomark _))))) pe_str pe_str))), ?_⟩
  cases a <;> cases b
  case o.o | o.i | o.x => exact ⟨_, rfl, rfl, true, rfl, iteT (iteT q)⟩
  case i.o | x.o => exact ⟨_, rfl, rfl, false, rfl, iteF ⟨_, rfl, rfl, true, rfl, iteT q⟩⟩
  case i.i => exact ⟨_, rfl, rfl, false, rfl, iteF ⟨_, rfl, rfl, false, rfl, iteF ⟨_, rfl, rfl, true, rfl, iteT ⟨_, rfl, rfl, true, rfl, iteT q⟩⟩⟩⟩
  case i.x => exact ⟨_, rfl, rfl, false, rfl, iteF ⟨_, rfl, rfl, false, rfl, iteF ⟨_, rfl, rfl, true, rfl, iteT ⟨_, rfl, rfl, false, rfl, iteF q⟩⟩⟩⟩
  case x.i | x.x => exact ⟨_, rfl, rfl, false, rfl, iteF ⟨_, rfl, rfl, false, rfl, iteF ⟨_, rfl, rfl, false, rfl, iteF (iteF q)⟩⟩⟩
end
end K24
/-! K24, part 5: the texts' defs of the program -/
namespace K24
open PySem PySem.Spec PyProof.Rows L2
section
variable {P : Program} {w : World} {K : PySem.W.Frag} {mg : Str → Option Value} {base : Heap}
theorem ok_or (D : Df K mg "or_bit" s_or_bit) (CN : Cl P w K mg base "not_bit" 1 spNot) (CA : Cl P w K mg base "and_bit" 1 (sp2 an)) : Cl P w K mg base "or_bit" 2 (sp2 orr) := by
  refine mk_cl D sc_or_bit (fun _ _ _ _ _ _ us hl => match us, hl with | [_, _], _ => rfl) (fun vs H Q E h => ?_) (fun f cdv A outer s H vs Q E hr h => ?_)
  · obtain ⟨a, b, e, _⟩ := h
    rw [e]; rfl
  obtain ⟨a, b, e, q⟩ := h
  subst e
  exact ⟨_, pss_one (ps_ret (pe_cl CN hr (by decide) (pa_cons (pe_cl CA hr (by decide) (pa_cons (pe_cl CN hr (by decide) (pa_cons (pv 0) pa_nil)) (pa_cons (pe_cl CN hr (by decide) (pa_cons (pv 1) pa_nil)) pa_nil))) pa_nil))),
    ⟨_, rfl, a, rfl, _, rfl, b, rfl, nt a, nt b, rfl, an (nt a) (nt b), rfl, q⟩⟩
theorem ok_xor (D : Df K mg "xor_bit" s_xor_bit) : Cl P w K mg base "xor_bit" 1 (sp2 xr) := by
  refine mk_cl D sc_xor_bit (fun _ _ _ _ _ _ us hl => match us, hl with | [_, _], _ => rfl) (fun vs H Q E h => ?_) (fun f cdv A outer s H vs Q E hr h => ?_)
  · obtain ⟨a, b, e, _⟩ := h
    rw [e]; rfl
  obtain ⟨a, b, e, q⟩ := h
  subst e
  refine ⟨_, pss_cons (ps_if (PW.pt (pw_or (pt_cmpR op_eq (pv 0) pe_str (nomark _)) (pw_or1 (pt_cmpR op_eq (pv 1) pe_str (nomark _))))) (pss_one (ps_ret pe_str)) pss_nil)
    (pss_one (ps_ret (pe_ifExp (pt_cmpR op_eq (pv 0) (pv 1) (nomark _)) pe_str pe_str))), ?_⟩
  cases a <;> cases b
  case x.o | x.i | x.x => exact ⟨_, rfl, rfl, true, rfl, iteT (iteT q)⟩
  case o.x | i.x => exact ⟨_, rfl, rfl, false, rfl, iteF ⟨_, rfl, rfl, true, rfl, iteT q⟩⟩
  case o.o | i.i => exact ⟨_, rfl, rfl, false, rfl, iteF ⟨_, rfl, rfl, false, rfl, iteF ⟨_, rfl, _, rfl, rfl, true, rfl, iteT q⟩⟩⟩
  case o.i | i.o => exact ⟨_, rfl, rfl, false, rfl, iteF ⟨_, rfl, rfl, false, rfl, iteF ⟨_, rfl, _, rfl, rfl, false, rfl, iteF q⟩⟩⟩
theorem ok_most (D : Df K mg "most_bit" s_most_bit) : Cl P w K mg base "most_bit" 1 (sp3 ms) := by
  refine mk_cl D sc_most_bit (fun _ _ _ _ _ _ us hl => match us, hl with | [_, _, _], _ => rfl) (fun vs H Q E h => ?_) (fun f cdv A outer s H vs Q E hr h => ?_)
  · obtain ⟨a, b, c, e, _⟩ := h
    rw [e]; rfl
  obtain ⟨a, b, c, e, q⟩ := h
  subst e
  refine ⟨_, pss_cons (ps_if (pt_cmpR op_eq (pv 0) (pv 1) (nomark _)) (pss_one (ps_ret (pv 0))) pss_nil)
    (pss_cons (ps_if (pt_cmpR op_eq (pv 1) (pv 2) (nomark _)) (pss_one (ps_ret (pv 1))) pss_nil)
    (pss_one (ps_ret (pe_ifExp (pt_cmpR op_eq (pv 0) (pv 2) (nomark _)) (pv 2) pe_str)))), ?_⟩
  refine ⟨_, rfl, _, rfl, rfl, decide (a = b), congrArg V.bl (eq_bit a b), ite2 (fun h => ?_) (fun h => ?_)⟩
  · have e : a = b := of_decide_eq_true h
    unfold ms at q
    rw [if_pos e] at q
    exact ⟨_, rfl, q⟩
  have n1 : ¬ a = b := fun e => h (decide_eq_true e)
  refine ⟨_, rfl, _, rfl, rfl, decide (b = c), congrArg V.bl (eq_bit b c), ite2 (fun h2 => ?_) (fun h2 => ?_)⟩
  · have e : b = c := of_decide_eq_true h2
    unfold ms at q
    rw [if_neg n1, if_pos e] at q
    exact ⟨_, rfl, q⟩
  have n2 : ¬ b = c := fun e => h2 (decide_eq_true e)
  refine ⟨_, rfl, _, rfl, rfl, decide (a = c), congrArg V.bl (eq_bit a c), ite2 (fun h3 => ?_) (fun h3 => ?_)⟩
  · have e : a = c := of_decide_eq_true h3
    unfold ms at q
    rw [if_neg n1, if_neg n2, if_pos e] at q
    exact ⟨_, rfl, q⟩
  have n3 : ¬ a = c := fun e => h3 (decide_eq_true e)
  unfold ms at q
  rw [if_neg n1, if_neg n2, if_neg n3] at q
  exact q
theorem ok_mixed_bit (D : Df K mg "mixed_bit" s_mixed_bit) (T : Bi mg) : Cl P w K mg base "mixed_bit" 1 (sp2 mx) := by
  refine mk_cl D sc_mixed_bit (fun _ _ _ _ _ _ us hl => match us, hl with | [_, _], _ => rfl) (fun vs H Q E h => ?_) (fun f cdv A outer s H vs Q E hr h => ?_)
  · obtain ⟨a, b, e, _⟩ := h
    rw [e]; rfl
  obtain ⟨a, b, e, q⟩ := h
  subst e
  obtain ⟨t, mT⟩ := T.told
  refine ⟨_, pss_one (ps_ret (pe_ifExp (PW.pt (pw_and (pt_cmpR op_eq (pv 0) (pv 1) (nomark _)) (pw_and1 (pt_cmpR op_in_sign (pv 0) (pe_glob (v := .str "01") rfl mT ⟨t, rfl⟩) rfl)))) (pv 0) pe_str)), ?_⟩
  refine ⟨_, rfl, _, rfl, rfl, decide (a = b), congrArg V.bl (eq_bit a b), ite2 (fun h => ?_) (fun h => ?_)⟩
  · have e : a = b := of_decide_eq_true h
    subst e
    unfold mx at q
    rw [if_pos rfl] at q
    cases a with
    | o => exact ⟨_, rfl, 48, _, rfl, rfl, true, rfl, iteT ⟨_, rfl, q⟩⟩
    | i => exact ⟨_, rfl, 49, _, rfl, rfl, true, rfl, iteT ⟨_, rfl, q⟩⟩
    | x => exact ⟨_, rfl, 120, _, rfl, rfl, false, rfl, iteF q⟩
  · have n1 : ¬ a = b := fun e => h (decide_eq_true e)
    unfold mx at q
    rw [if_neg n1] at q
    exact iteF q
end

/-! ### a text made sign by sign of two texts -/
theorem join_bits (ws : List B) : Txt.join "" (ws.map fun b => S [b]) = S ws := by
  have e : (ws.map fun b => S [b]) = (ws.map fun b => [b.c]).map SX.S := by
    rw [List.map_map]
    rfl
  have e0 : ("" : Str) = SX.S [] := rfl
  rw [e, e0, SX.join_S]
  show SX.S (TL.joinL [] (ws.map fun b => [b.c])) = SX.S (ws.map B.c)
  congr 1
  clear e
  induction ws with
  | nil => rfl
  | cons b r ih =>
    cases r with
    | nil => rfl
    | cons c r =>
      show [b.c] ++ [] ++ TL.joinL [] ((c :: r).map fun b => [b.c]) = _
      rw [ih]
      · rfl
      all_goals rfl
theorem join_fits (ws : List B) (h : ws.length ≤ 1000) : ((ws.map fun b => S [b]).map (·.length)).sum + (ws.map fun b => S [b]).length * ("" : Str).length ≤ 16777216 := by
  have e : ((ws.map fun b => S [b]).map (·.length)).sum = ws.length := by
    clear h
    induction ws with
    | nil => rfl
    | cons b r ih =>
      rw [List.map_cons, List.map_cons, List.sum_cons, ih]
      show 1 + r.length = r.length + 1
      omega
  rw [e]
  show ws.length + _ * 0 ≤ _
  omega
theorem lc_zip {K : PySem.W.Frag} {u v : List B} (hl : u.length = v.length) (h8 : u.length ≤ 1000) {σ : L2.St} {vs : List Nat} {i j : Nat} {te : TE} {f : B → B → B} {H1 : Hp} {D : Addr} {Qd : Hp → Prop} (hD : H1 D = none)
    (hw : ∀ x y, wipe (((wipe σ vs).set i (some x)).set j (some y)) vs = wipe σ vs)
    (he : ∀ (a b : B) (H : Hp) (Q : VK), Q (vb (f a b)) H → te (((wipe σ vs).set i (some (vb a))).set j (some (vb b))) H Q)
    (hq : ∀ H', Evl.Ex H1 H' → H' D = some (.lst ((u.zipWith f v).map vb)) → Qd H') :
    ∃ W : Nat → Nat → Hp → Prop, (∃ m, W 0 m (upd H1 D (.lst []))) ∧ ∀ n m H, W n m H →
      ((ItzS (S u) (S v)).stop n H ∧ Qd H) ∨ ((ItzS (S u) (S v)).go n H ∧ ∃ Nx : Hp → Prop, (∀ H', Nx H' → ∃ m', m' < m ∧ W (n + 1) m' H') ∧ ∀ x H', (ItzS (S u) (S v)).yld n H x H' → gTup K 2 (gCons (gName i) (gCons (gName j) gNil)) x (wipe σ vs) H' fun σ2 H2 => wipe σ2 vs = wipe σ vs ∧ tYes σ2 H2 fun b H3 =>
        if b = true then te σ2 H3 fun y H4 => ∃ acc, H4 D = some (.lst acc) ∧ acc.length < sizeLine ∧ Nx (upd H4 D (.lst (acc ++ [y]))) else Nx H3) := by
  have hn : min (S u).cps.size (S v).cps.size = u.length := by rw [S_size, S_size]; omega
  refine lc_it walk_zipS (fun n H => H1 D = none ∧ Evl.Ex H1 H ∧ H D = some (.lst (((u.zipWith f v).take n).map vb))) ⟨hD, Evl.Ex.new hD, upd_same⟩ (fun _ _ _ _ => trivial) (fun n x H H' hlt p y => ?_) (fun H p => ?_)
  · obtain ⟨p0, p1, p2⟩ := p
    obtain ⟨T, c, d, e1, nT, e2, ec, ed⟩ := y
    subst e1 e2
    obtain ⟨a, ha, e3⟩ := S_at ec
    obtain ⟨b, hb, e4⟩ := S_at ed
    subst e3 e4
    refine ⟨T, [vb a, vb b], rfl, SqT.of upd_same, rfl, _, _, rfl, _, _, rfl, rfl, hw _ _, ?_⟩
    refine he a b (upd H T (.tup [vb a, vb b])) _ ?_
    have DT : D ≠ T := ne_of_none p2 nT
    have hz : (u.zipWith f v)[n]? = some (f a b) := by rw [List.getElem?_zipWith, ha, hb]
    refine ⟨_, by rw [upd_ne DT]; exact p2, ?_, p0, Evl.Ex.mut (p1.trans (Evl.Ex.new nT)) p0, ?_⟩
    · rw [List.length_map, List.length_take]
      have : n < u.length := by rw [hn] at hlt; exact hlt
      exact Nat.lt_of_le_of_lt (Nat.min_le_left _ _) (Nat.lt_trans this (Nat.lt_of_le_of_lt h8 (by decide)))
    · rw [upd_same, List.take_add_one, hz, List.map_append]
      rfl
  · obtain ⟨p0, p1, p2⟩ := p
    rw [hn, List.take_of_length_le (by rw [List.length_zipWith]; omega)] at p2
    exact hq H p1 p2
/-- one text handed back, the heap grown -/
def spW2 (f : List B → List B → List B) : Sp := fun vs H Q _ => ∃ a b : List B, vs = [vw a, vw b] ∧ a.length = b.length ∧ a.length ≤ 1000 ∧ ∀ H', Evl.Ex H H' → Q (vw (f a b)) H'
section
variable {P : Program} {w : World} {K : PySem.W.Frag} {mg : Str → Option Value} {base : Heap}
theorem ok_mixed (D : Df K mg "mixed" s_mixed) (T : Bi mg) (CM : Cl P w K mg base "mixed_bit" 1 (sp2 mx)) : Cl P w K mg base "mixed" 2 (spW2 fun a b => a.zipWith mx b) := by
  refine mk_cl D sc_mixed (fun _ _ _ _ _ _ us hl => match us, hl with | [_, _], _ => rfl) (fun vs H Q E h => ?_) (fun f cdv A outer s H vs Q E hr h => ?_)
  · obtain ⟨a, b, e, _⟩ := h
    rw [e]; rfl
  obtain ⟨a, b, e, hl, h8, q⟩ := h
  subst e
  refine ⟨_, pss_one (ps_ret (pe_join pe_str (pe_lc (own := [("sign", 2), ("there", 3)]) (g := gTup K 2 (gCons (gName 2) (gCons (gName 3) gNil))) (tt := tYes) rfl sc_mixed.nd (pi_zipS rfl T.zip (pa_cons (pv 0) (pa_cons (pv 1) pa_nil)))
    (blkOk_by (own := [("sign", 2), ("there", 3)]) (N := ["one", "other", "sign", "there"]) (sc := defScope s_mixed) (by decide +kernel))
    (fun _ _ _ _ _ => pg_tup rfl (pgs_cons (pg_name (i := 2) sc_mixed.nd rfl (Or.inl rfl)) (pgs_cons (pg_name (i := 3) sc_mixed.nd rfl (Or.inl rfl)) pgs_nil)))
    (fun _ _ _ _ _ => pts_nil) (fun _ _ _ _ _ => pe_cl CM hr (by decide) (pa_cons (pv 2) (pa_cons (pv 3) pa_nil)))))), ?_⟩
  refine ⟨⟨_, rfl⟩, _, rfl, _, rfl, S a, S b, rfl, fun L hL => lc_zip hl h8 hL (fun _ _ => rfl) (fun a b H Q q => ⟨_, rfl, _, rfl, a, b, rfl, q⟩) (fun H' ex e => ?_)⟩
  refine ⟨_, L, (a.zipWith mx b).map fun b => S [b], rfl, rfl, .inl (SqL.of (by rw [e, List.map_map]; rfl)), join_fits _ (by rw [List.length_zipWith]; omega), ?_⟩
  rw [join_bits]
  exact q H' ex
end
end K24
/-! K24, part 6: the texts' defs of the program, further -/
namespace K24
open PySem PySem.Spec PyProof.Rows L2
theorem sz100 {n : Nat} (h : n ≤ 1000) : n ≤ sizeLine := Nat.le_trans h (by decide)
theorem S_sz {a : List B} (h : a.length ≤ 1000) : (S a).length ≤ sizeLine := by rw [S_len]; exact sz100 h
theorem prs_at {a b : List B} {n : Nat} {x y : B} (h1 : a.reverse[n]? = some x) (h2 : b.reverse[n]? = some y) : (prs a b)[n]? = some (x, y) := by
  unfold prs
  rw [List.getElem?_zip_eq_some]
  exact ⟨h1, h2⟩
theorem fold_next {α β : Type} {f : β → α → β} {b0 : β} {l : List α} {n : Nat} {p : α} (h : l[n]? = some p) : (l.take (n + 1)).foldl f b0 = f ((l.take n).foldl f b0) p := by
  rw [List.take_add_one, h, List.foldl_append]
  rfl
theorem S_cons (b : B) (w : List B) : S [b] ++ S w = S (b :: w) := S_app [b] w
/-- one bit handed back, the heap grown -/
def spB2 (f : List B → List B → B) : Sp := fun vs H Q _ => ∃ a b : List B, vs = [vw a, vw b] ∧ a.length = b.length ∧ a.length ≤ 1000 ∧ ∀ H', Evl.Ex H H' → Q (vb (f a b)) H'
def spB1 (f : List B → B) : Sp := fun vs H Q _ => ∃ a : List B, vs = [vw a] ∧ a.length ≤ 1000 ∧ Q (vb (f a)) H
/-- a def of two bits, by its address -/
def Bf (P : Program) (w : World) (K : PySem.W.Frag) (mg : Str → Option Value) (base : Heap) (fa : Addr) (g : B → B → B) : Prop :=
  ∃ k fd ps, k ≤ 2 ∧ FnOk P w K mg base CX0 k fa fd ps (sp2 g) ∧ PySem.W.keepIn K (.ref fa) = true ∧ Binds K fd ps []
def tCallG (F : Addr → (B → B → B) → Prop) (i : Nat) (t : TA) : TE := fun σ H Q => ∃ fa g, σ[i]? = some (some (.ref fa)) ∧ F fa g ∧ t σ H fun vs H1 => sp2 g vs H1 Q E0
theorem pe_callG2 {X : Cx} {i : Nat} {x : Str} {p pos : Pos} {e : Expr} {es : List Expr} {t : TA} (hr : Room 2 X.A) (hN : X.N[i]? = some x) (hv : Vis X.env.scope x) (ha : PA X (e :: es) t)
    (hdb : (x == ("__debug__" : Str)) = false := by decide) (hcd : (x == ("__classdict__" : Str)) = false := by decide)
    (he : starEach (e :: es) X.env = (false, eval e X.env) :: starEach es X.env := by rfl) (hpl : (backTo pos (starEach es X.env)).any (·.1) = false := by rfl) :
    PE X (.Call (.Name x p) (e :: es) [] pos) (tCallG (Bf X.prog X.w X.K X.mg X.base) i t) := by
  refine ⟨fun pins s σ H Q I h => ?_⟩
  obtain ⟨fa, g, h1, ⟨k, fd, ps, hk, F, kp, b⟩, h2⟩ := h
  exact (pe_callL (i := i) (E := E0) F (hr.mono hk) hN hv kp b .nil pass0 ha hdb hcd he hpl).run pins s σ H Q I ⟨h1, by simpa using h2⟩
def spBB (F : Addr → (B → B → B) → Prop) : Sp := fun vs H Q _ => ∃ (fa : Addr) (g : B → B → B) (a b : List B), vs = [.ref fa, vw a, vw b] ∧ F fa g ∧ a.length = b.length ∧ a.length ≤ 1000 ∧ ∀ H', Evl.Ex H H' → Q (vw (a.zipWith g b)) H'
section
variable {P : Program} {w : World} {K : PySem.W.Frag} {mg : Str → Option Value} {base : Heap}
theorem ok_bbb (D : Df K mg "bit_by_bit" s_bit_by_bit) (T : Bi mg) :
    Cl P w K mg base "bit_by_bit" 3 (spBB (Bf P w K mg base)) := by
  refine mk_cl D sc_bit_by_bit (fun _ _ _ _ _ _ us hl => match us, hl with | [_, _, _], _ => rfl) (fun vs H Q E h => ?_) (fun f cdv A outer s H vs Q E hr h => ?_)
  · obtain ⟨fa, g, a, b, e, _⟩ := h
    rw [e]; rfl
  obtain ⟨fa, g, a, b, e, hF, hl, h8, q⟩ := h
  subst e
  refine ⟨_, pss_one (ps_ret (pe_join pe_str (pe_lc (own := [("one", 3), ("other", 4)]) (g := gTup K 2 (gCons (gName 3) (gCons (gName 4) gNil))) (tt := tYes) (te := tCallG (Bf P w K mg base) 0 (tCons (tVar 3) (tCons (tVar 4) tNil))) rfl sc_bit_by_bit.nd (pi_zipS rfl T.zip (pa_cons (pv 1) (pa_cons (pv 2) pa_nil)))
    (blkOk_by (own := [("one", 3), ("other", 4)]) (N := ["rule", "a", "b", "one", "other"]) (sc := defScope s_bit_by_bit) (by decide +kernel))
    (fun _ _ _ _ _ => pg_tup rfl (pgs_cons (pg_name (i := 3) sc_bit_by_bit.nd rfl (Or.inl rfl)) (pgs_cons (pg_name (i := 4) sc_bit_by_bit.nd rfl (Or.inl rfl)) pgs_nil)))
    (fun _ _ _ _ _ => pts_nil) (fun _ _ _ _ _ => pe_callG2 (i := 0) hr (by rfl) (by first | exact Or.inl rfl | exact Or.inr (Or.inl rfl) | exact Or.inr (Or.inr rfl)) (pa_cons (pv 3) (pa_cons (pv 4) pa_nil)))))), ?_⟩
  refine ⟨⟨_, rfl⟩, _, rfl, _, rfl, S a, S b, rfl, fun L hL => lc_zip hl h8 hL (fun _ _ => rfl) (fun a b H Q q => ⟨fa, g, rfl, hF, _, rfl, _, rfl, a, b, rfl, q⟩) (fun H' ex e => ?_)⟩
  refine ⟨_, L, (a.zipWith g b).map fun b => S [b], rfl, rfl, .inl (SqL.of (by rw [e, List.map_map]; rfl)), join_fits _ (by rw [List.length_zipWith]; omega), ?_⟩
  rw [join_bits]
  exact q H' ex
theorem ok_plus (D : Df K mg "plus_bits" s_plus_bits) (T : Bi mg) (CX : Cl P w K mg base "xor_bit" 1 (sp2 xr)) (CM : Cl P w K mg base "most_bit" 1 (sp3 ms)) : Cl P w K mg base "plus_bits" 2 (spW2 plusW) := by
  refine mk_cl D sc_plus_bits (fun _ _ _ _ _ _ us hl => match us, hl with | [_, _], _ => rfl) (fun vs H Q E h => ?_) (fun f cdv A outer s H vs Q E hr h => ?_)
  · obtain ⟨a, b, e, _⟩ := h
    rw [e]; rfl
  obtain ⟨a, b, e, hl, h8, q⟩ := h
  subst e
  have nd := sc_plus_bits.nd
  refine ⟨_, pss_cons (ps_set (i := 2) nd rfl (Or.inl rfl) pe_str) (pss_cons (ps_set (i := 3) nd rfl (Or.inl rfl) pe_str)
    (pss_cons (ps_for PassesOwn.never rfl (pi_zipS rfl T.zip (pa_cons (pe_revS (pv 0)) (pa_cons (pe_revS (pv 1)) pa_nil))) (pg_tup rfl (pgs_cons (pg_name (i := 4) nd rfl (Or.inl rfl)) (pgs_cons (pg_name (i := 5) nd rfl (Or.inl rfl)) pgs_nil)))
      (pss_cons (ps_set (i := 2) nd rfl (Or.inl rfl) (pe_op op_add_str (pe_cl CX hr (by decide) (pa_cons (pe_cl CX hr (by decide) (pa_cons (pv 4) (pa_cons (pv 5) pa_nil))) (pa_cons (pv 3) pa_nil))) (pv 2)))
      (pss_one (ps_set (i := 3) nd rfl (Or.inl rfl) (pe_cl CM hr (by decide) (pa_cons (pv 4) (pa_cons (pv 5) (pa_cons (pv 3) pa_nil))))))))
    (pss_one (ps_ret (pv 2))))), ?_⟩
  refine ⟨_, rfl, S a, rfl, S_sz h8, _, rfl, S b, rfl, S_sz (by omega), S a.reverse, S b.reverse, by rw [S_rev, S_rev], ?_⟩
  have hn : min (S a.reverse).cps.size (S b.reverse).cps.size = a.length := by rw [S_size, S_size, List.length_reverse, List.length_reverse]; omega
  refine for_it walk_zipS (fun n σ H' => ∃ y4 y5, σ = [some (vw a), some (vw b), some (vw (((prs a b).take n).foldl plusS ([], .o)).1), some (vb (((prs a b).take n).foldl plusS ([], .o)).2), y4, y5] ∧ Evl.Ex H H')
    ⟨none, none, rfl, Evl.Ex.refl H⟩ (fun _ _ _ _ _ => trivial) (fun n x σ H1 H2 hlt p y => ?_) (fun σ H1 p => ?_)
  · obtain ⟨y4, y5, e, ex⟩ := p
    subst e
    obtain ⟨t, c, d, e1, nT, e2, ec, ed⟩ := y
    subst e1 e2
    obtain ⟨u, hu, e3⟩ := S_at ec
    obtain ⟨v, hv, e4⟩ := S_at ed
    subst e3 e4
    rw [hn] at hlt
    refine ⟨t, [vb u, vb v], rfl, SqT.of upd_same, rfl, _, _, rfl, _, _, rfl, rfl, ?_⟩
    refine ⟨_, rfl, _, rfl, u, v, rfl, _, rfl, xr u v, _, rfl, _, rfl, _, _, rfl, rfl, ?_, _, rfl, _, rfl, _, rfl, u, v, _, rfl, ?_⟩
    · rw [S_len, S_len, plus_len]
      have := List.length_take_le n (prs a b)
      rw [List.length_take]
      show 1 + (0 + _) ≤ _
      have : min n (prs a b).length ≤ 1000 := Nat.le_trans (Nat.min_le_left _ _) (by omega)
      exact Nat.le_trans (by omega : 1 + (0 + min n (prs a b).length) ≤ 2000) (by decide)
    · refine ⟨some (vb u), some (vb v), ?_, ex.trans (Evl.Ex.new nT)⟩
      rw [S_cons, fold_next (prs_at hu hv)]
      rfl
  · obtain ⟨y4, y5, e, ex⟩ := p
    subst e
    rw [hn] at *
    refine ⟨_, rfl, ?_⟩
    have r := q H1 ex
    unfold plusW at r
    rw [List.take_of_length_le (by rw [prs_len hl]; omega)]
    exact r
end
end K24
/-! K24, part 7: the texts' defs of the program, further -/
namespace K24
open PySem PySem.Spec PyProof.Rows L2
theorem cut_part {a : List B} {h l : Nat} (h1 : l ≤ h) (h2 : h < a.length) : cutS (S a) (some ((a.length : Int) - 1 - (h : Int))) (some ((a.length : Int) - (l : Int))) = S (partW h l a) := by
  have e1 : ((a.length : Int) - 1 - (h : Int)) = ((a.length - 1 - h : Nat) : Int) := by omega
  have e2 : ((a.length : Int) - (l : Int)) = ((a.length - l : Nat) : Int) := by omega
  unfold cutS
  rw [e1, e2, HT.sIx_nat, HT.sIx_nat, S_len, Nat.min_eq_left (by omega), Nat.min_eq_left (by omega), S_tl, ← List.map_drop, ← List.map_take]
  unfold partW S
  rw [show a.length - l - (a.length - 1 - h) = h + 1 - l by omega]
/-- what an operator of one argument, of two tells -/
def T1 (word : Str) (a : List B) (hi lo : Int) (r : List B) : Prop :=
  (word = "not" ∧ r = a.map nt) ∨ (word = "any" ∧ r = [anyB a]) ∨ (word = "all" ∧ r = [allB a]) ∨ (word = "part" ∧ ∃ h l : Nat, hi = (h : Int) ∧ lo = (l : Int) ∧ l ≤ h ∧ h < a.length ∧ r = partW h l a)
def T2 (word : Str) (a b r : List B) : Prop :=
  (∃ o : Bin, word = o.w ∧ a.length = b.length ∧ r = o.f a b) ∨ (∃ c : Cmp, word = c.w ∧ a.length = b.length ∧ r = [c.f a b]) ∨ (word = "join" ∧ r = a ++ b)
def spT1 : Sp := fun vs H Q _ => ∃ (word : Str) (a r : List B) (hi lo : Int), vs = [.str word, vw a, .int hi, .int lo] ∧ a.length ≤ 1000 ∧ T1 word a hi lo r ∧ ∀ H', Evl.Ex H H' → Q (vw r) H'
def spT2 : Sp := fun vs H Q _ => ∃ (word : Str) (a b r : List B), vs = [.str word, vw a, vw b] ∧ a.length ≤ 1000 ∧ b.length ≤ 1000 ∧ T2 word a b r ∧ ∀ H', Evl.Ex H H' → Q (vw r) H'
def spP : Sp := fun vs H Q _ => ∃ c a b : List B, vs = [vw c, vw a, vw b] ∧ c.length = 1 ∧ a.length = b.length ∧ a.length ≤ 1000 ∧ ∀ H', Evl.Ex H H' → Q (vw (pickW c a b)) H'
section
variable {P : Program} {w : World} {K : PySem.W.Frag} {mg : Str → Option Value} {base : Heap}
theorem ok_less (D : Df K mg "less_bit" s_less_bit) (T : Bi mg) (CN : Cl P w K mg base "not_bit" 1 spNot) (CM : Cl P w K mg base "most_bit" 1 (sp3 ms)) : Cl P w K mg base "less_bit" 2 (spB2 lessB) := by
  refine mk_cl D sc_less_bit (fun _ _ _ _ _ _ us hl => match us, hl with | [_, _], _ => rfl) (fun vs H Q E h => ?_) (fun f cdv A outer s H vs Q E hr h => ?_)
  · obtain ⟨a, b, e, _⟩ := h
    rw [e]; rfl
  obtain ⟨a, b, e, hl, h8, q⟩ := h
  subst e
  have nd := sc_less_bit.nd
  refine ⟨_, pss_cons (ps_set (i := 2) nd rfl (Or.inl rfl) pe_str)
    (pss_cons (ps_for PassesOwn.never rfl (pi_zipS rfl T.zip (pa_cons (pe_revS (pv 0)) (pa_cons (pe_revS (pv 1)) pa_nil))) (pg_tup rfl (pgs_cons (pg_name (i := 3) nd rfl (Or.inl rfl)) (pgs_cons (pg_name (i := 4) nd rfl (Or.inl rfl)) pgs_nil)))
      (pss_one (ps_set (i := 2) nd rfl (Or.inl rfl) (pe_cl CM hr (by decide) (pa_cons (pe_cl CN hr (by decide) (pa_cons (pv 3) pa_nil)) (pa_cons (pv 4) (pa_cons (pv 2) pa_nil)))))))
    (pss_one (ps_ret (pv 2)))), ?_⟩
  refine ⟨_, rfl, S a, rfl, S_sz h8, _, rfl, S b, rfl, S_sz (by omega), S a.reverse, S b.reverse, by rw [S_rev, S_rev], ?_⟩
  have hn : min (S a.reverse).cps.size (S b.reverse).cps.size = a.length := by rw [S_size, S_size, List.length_reverse, List.length_reverse]; omega
  refine for_it walk_zipS (fun n σ H' => ∃ y3 y4, σ = [some (vw a), some (vw b), some (vb (((prs a b).take n).foldl lessS .o)), y3, y4] ∧ Evl.Ex H H')
    ⟨none, none, rfl, Evl.Ex.refl H⟩ (fun _ _ _ _ _ => trivial) (fun n x σ H1 H2 hlt p y => ?_) (fun σ H1 p => ?_)
  · obtain ⟨y4, y5, e, ex⟩ := p
    subst e
    obtain ⟨t, c, d, e1, nT, e2, ec, ed⟩ := y
    subst e1 e2
    obtain ⟨u, hu, e3⟩ := S_at ec
    obtain ⟨v, hv, e4⟩ := S_at ed
    subst e3 e4
    refine ⟨t, [vb u, vb v], rfl, SqT.of upd_same, rfl, _, _, rfl, _, _, rfl, rfl, ?_⟩
    refine ⟨_, rfl, u, rfl, _, rfl, _, rfl, nt u, v, _, rfl, ?_⟩
    refine ⟨some (vb u), some (vb v), ?_, ex.trans (Evl.Ex.new nT)⟩
    rw [fold_next (prs_at hu hv)]
    rfl
  · obtain ⟨y4, y5, e, ex⟩ := p
    subst e
    rw [hn] at *
    refine ⟨_, rfl, ?_⟩
    have r := q H1 ex
    unfold lessB at r
    rw [List.take_of_length_le (by rw [prs_len hl]; omega)]
    exact r
theorem ok_any (D : Df K mg "any_bit" s_any_bit) (CO : Cl P w K mg base "or_bit" 2 (sp2 orr)) : Cl P w K mg base "any_bit" 3 (spB1 anyB) := by
  refine mk_cl D sc_any_bit (fun _ _ _ _ _ _ us hl => match us, hl with | [_], _ => rfl) (fun vs H Q E h => ?_) (fun f cdv A outer s H vs Q E hr h => ?_)
  · obtain ⟨a, e, _⟩ := h
    rw [e]; rfl
  obtain ⟨a, e, h8, q⟩ := h
  subst e
  have nd := sc_any_bit.nd
  refine ⟨_, pss_cons (ps_set (i := 1) nd rfl (Or.inl rfl) pe_str)
    (pss_cons (ps_for PassesOwn.never rfl (pi_str (pv 0)) (pg_name (i := 2) nd rfl (Or.inl rfl))
      (pss_one (ps_set (i := 1) nd rfl (Or.inl rfl) (pe_cl CO hr (by decide) (pa_cons (pv 1) (pa_cons (pv 2) pa_nil))))))
    (pss_one (ps_ret (pv 1)))), ?_⟩
  refine ⟨_, rfl, S a, rfl, ?_⟩
  refine for_it walk_str (fun n σ H' => ∃ y, σ = [some (vw a), some (vb ((a.take n).foldl orr .o)), y] ∧ H' = H) ⟨none, rfl, rfl⟩ (fun _ _ _ _ _ => trivial) (fun n x σ H1 H2 hlt p y => ?_) (fun σ H1 p => ?_)
  · obtain ⟨y1, e, e2⟩ := p
    obtain ⟨e3, c, ec, ex⟩ := y
    subst e e2 e3 ex
    obtain ⟨u, hu, e4⟩ := S_at ec
    subst e4
    refine ⟨_, rfl, _, rfl, _, u, rfl, some (vb u), ?_, rfl⟩
    rw [fold_next hu]
    rfl
  · obtain ⟨y1, e, e2⟩ := p
    subst e e2
    refine ⟨_, rfl, ?_⟩
    rw [S_size, List.take_length]
    exact q
theorem ok_all (D : Df K mg "all_bit" s_all_bit) (CA : Cl P w K mg base "and_bit" 1 (sp2 an)) : Cl P w K mg base "all_bit" 3 (spB1 allB) := by
  refine mk_cl D sc_all_bit (fun _ _ _ _ _ _ us hl => match us, hl with | [_], _ => rfl) (fun vs H Q E h => ?_) (fun f cdv A outer s H vs Q E hr h => ?_)
  · obtain ⟨a, e, _⟩ := h
    rw [e]; rfl
  obtain ⟨a, e, h8, q⟩ := h
  subst e
  have nd := sc_all_bit.nd
  refine ⟨_, pss_cons (ps_set (i := 1) nd rfl (Or.inl rfl) pe_str)
    (pss_cons (ps_for PassesOwn.never rfl (pi_str (pv 0)) (pg_name (i := 2) nd rfl (Or.inl rfl))
      (pss_one (ps_set (i := 1) nd rfl (Or.inl rfl) (pe_cl CA hr (by decide) (pa_cons (pv 1) (pa_cons (pv 2) pa_nil))))))
    (pss_one (ps_ret (pv 1)))), ?_⟩
  refine ⟨_, rfl, S a, rfl, ?_⟩
  refine for_it walk_str (fun n σ H' => ∃ y, σ = [some (vw a), some (vb ((a.take n).foldl an .i)), y] ∧ H' = H) ⟨none, rfl, rfl⟩ (fun _ _ _ _ _ => trivial) (fun n x σ H1 H2 hlt p y => ?_) (fun σ H1 p => ?_)
  · obtain ⟨y1, e, e2⟩ := p
    obtain ⟨e3, c, ec, ex⟩ := y
    subst e e2 e3 ex
    obtain ⟨u, hu, e4⟩ := S_at ec
    subst e4
    refine ⟨_, rfl, _, rfl, _, u, rfl, some (vb u), ?_, rfl⟩
    rw [fold_next hu]
    rfl
  · obtain ⟨y1, e, e2⟩ := p
    subst e e2
    refine ⟨_, rfl, ?_⟩
    rw [S_size, List.take_length]
    exact q
theorem ok_pick (D : Df K mg "pick_bits" s_pick_bits) (CM : Cl P w K mg base "mixed" 2 (spW2 fun a b => a.zipWith mx b)) : Cl P w K mg base "pick_bits" 3 spP := by
  refine mk_cl D sc_pick_bits (fun _ _ _ _ _ _ us hl => match us, hl with | [_, _, _], _ => rfl) (fun vs H Q E h => ?_) (fun f cdv A outer s H vs Q E hr h => ?_)
  · obtain ⟨c, a, b, e, _⟩ := h
    rw [e]; rfl
  obtain ⟨c, a, b, e, hc, hl, h8, q⟩ := h
  subst e
  refine ⟨_, pss_cons (ps_if (pt_cmpR op_eq (pv 0) pe_str (nomark _)) (pss_one (ps_ret (pe_cl CM hr (by decide) (pa_cons (pv 1) (pa_cons (pv 2) pa_nil))))) pss_nil)
    (pss_one (ps_ret (pe_ifExp (pt_cmpR op_eq (pv 0) pe_str (nomark _)) (pv 1) (pv 2)))), ?_⟩
  obtain ⟨d, ed⟩ : ∃ d, c = [d] := by
    match c, hc with
    | [d], _ => exact ⟨d, rfl⟩
  subst ed
  cases d with
  | x => exact ⟨_, rfl, rfl, true, rfl, iteT ⟨_, rfl, _, rfl, a, b, rfl, hl, h8, fun H' ex => q H' ex⟩⟩
  | i => exact ⟨_, rfl, rfl, false, rfl, iteF ⟨_, rfl, rfl, true, rfl, iteT ⟨_, rfl, q H (Evl.Ex.refl H)⟩⟩⟩
  | o => exact ⟨_, rfl, rfl, false, rfl, iteF ⟨_, rfl, rfl, false, rfl, iteF ⟨_, rfl, q H (Evl.Ex.refl H)⟩⟩⟩
end
end K24
/-! K24, part 8: told_by_one, told_by_two, read -/
namespace K24
open PySem PySem.Spec PyProof.Rows L2
theorem lc_bits {u : List B} (h8 : u.length ≤ 1000) {σ : L2.St} {vs : List Nat} {i : Nat} {te : TE} {f : B → B} {H1 : Hp} {D : Addr} {Qd : Hp → Prop} (hD : H1 D = none)
    (hw : ∀ x, wipe ((wipe σ vs).set i (some x)) vs = wipe σ vs)
    (he : ∀ (a : B) (H : Hp) (Q : VK), Q (vb (f a)) H → te ((wipe σ vs).set i (some (vb a))) H Q)
    (hq : ∀ H', Evl.Ex H1 H' → H' D = some (.lst ((u.map f).map vb)) → Qd H') :
    ∃ W : Nat → Nat → Hp → Prop, (∃ m, W 0 m (upd H1 D (.lst []))) ∧ ∀ n m H, W n m H →
      ((Its (S u)).stop n H ∧ Qd H) ∨ ((Its (S u)).go n H ∧ ∃ Nx : Hp → Prop, (∀ H', Nx H' → ∃ m', m' < m ∧ W (n + 1) m' H') ∧ ∀ x H', (Its (S u)).yld n H x H' → gName i x (wipe σ vs) H' fun σ2 H2 => wipe σ2 vs = wipe σ vs ∧ tYes σ2 H2 fun b H3 =>
        if b = true then te σ2 H3 fun y H4 => ∃ acc, H4 D = some (.lst acc) ∧ acc.length < sizeLine ∧ Nx (upd H4 D (.lst (acc ++ [y]))) else Nx H3) := by
  refine lc_it walk_str (fun n H => H1 D = none ∧ Evl.Ex H1 H ∧ H D = some (.lst (((u.map f).take n).map vb))) ⟨hD, Evl.Ex.new hD, upd_same⟩ (fun _ _ _ _ => trivial) (fun n x H H' hlt p y => ?_) (fun H p => ?_)
  · obtain ⟨p0, p1, p2⟩ := p
    obtain ⟨e2, c, ec, e1⟩ := y
    subst e1 e2
    obtain ⟨a, ha, e3⟩ := S_at ec
    subst e3
    refine ⟨hw _, ?_⟩
    refine he a H' _ ?_
    have hz : (u.map f)[n]? = some (f a) := by rw [List.getElem?_map, ha]; rfl
    refine ⟨_, p2, ?_, p0, Evl.Ex.mut p1 p0, ?_⟩
    · rw [List.length_map, List.length_take]
      have : n < u.length := by rw [S_size] at hlt; exact hlt
      exact Nat.lt_of_le_of_lt (Nat.min_le_left _ _) (Nat.lt_trans this (Nat.lt_of_le_of_lt h8 (by decide)))
    · rw [upd_same, List.take_add_one, hz, List.map_append]
      rfl
  · obtain ⟨p0, p1, p2⟩ := p
    rw [S_size, List.take_of_length_le (by rw [List.length_map]; omega)] at p2
    exact hq H p1 p2
def spRead : Sp := fun vs H Q _ => ∃ l : List G, vs = [.str (R l)] ∧ l.length ≤ 1000 ∧ Q (vw (l.map rd)) H
section
variable {P : Program} {w : World} {K : PySem.W.Frag} {mg : Str → Option Value} {base : Heap}
theorem ok_one (D : Df K mg "told_by_one" s_told_by_one) (T : Bi mg) (CN : Cl P w K mg base "not_bit" 1 spNot) (CY : Cl P w K mg base "any_bit" 3 (spB1 anyB)) (CL : Cl P w K mg base "all_bit" 3 (spB1 allB)) : Cl P w K mg base "told_by_one" 4 spT1 := by
  refine mk_cl D sc_told_by_one (fun _ _ _ _ _ _ us hl => match us, hl with | [_, _, _, _], _ => rfl) (fun vs H Q E h => ?_) (fun f cdv A outer s H vs Q E hr h => ?_)
  · obtain ⟨_, _, _, _, _, e, _⟩ := h
    rw [e]; rfl
  obtain ⟨wd, a, r, hi, lo, e, h8, t, q⟩ := h
  subst e
  have nd := sc_told_by_one.nd
  refine ⟨_, pss_cons (ps_if (pt_cmpR op_eq (pv 0) pe_str (nomark _)) (pss_one (ps_ret (pe_join pe_str (pe_lc (own := [("one", 4)]) (g := gName 4) (tt := tYes) rfl nd (pi_str (pv 1))
        (blkOk_by (own := [("one", 4)]) (N := ["word", "a", "high", "low", "one"]) (sc := defScope s_told_by_one) (by decide +kernel)) (fun _ _ _ _ _ => pg_name (i := 4) nd rfl (Or.inl rfl))
        (fun _ _ _ _ _ => pts_nil) (fun _ _ _ _ _ => pe_cl CN hr (by decide) (pa_cons (pv 4) pa_nil)))))) pss_nil)
    (pss_cons (ps_if (pt_cmpR op_eq (pv 0) pe_str (nomark _)) (pss_one (ps_ret (pe_cl CY hr (by decide) (pa_cons (pv 1) pa_nil)))) pss_nil)
    (pss_cons (ps_if (pt_cmpR op_eq (pv 0) pe_str (nomark _)) (pss_one (ps_ret (pe_cl CL hr (by decide) (pa_cons (pv 1) pa_nil)))) pss_nil)
    (pss_one (ps_ret (pe_slice sl_str (pv 1) (po_some (pe_op op_sub (pe_op op_sub (pe_callB call_len_str (by rfl) T.len PySem.boot_len (pa_cons (pv 1) pa_nil)) pe_int) (pv 2)))
      (po_some (pe_op op_sub (pe_callB call_len_str (by rfl) T.len PySem.boot_len (pa_cons (pv 1) pa_nil)) (pv 3)))))))), ?_⟩
  rcases t with ⟨ew, er⟩ | ⟨ew, er⟩ | ⟨ew, er⟩ | ⟨ew, h, l, eh, el, h1, h2, er⟩
  · subst ew er
    refine ⟨_, rfl, rfl, true, rfl, iteT ?_⟩
    refine ⟨⟨_, rfl⟩, _, rfl, S a, rfl, fun L hL => lc_bits h8 hL (fun _ => rfl) (fun b H Q q => ⟨_, rfl, b, rfl, q⟩) (fun H' ex e => ?_)⟩
    refine ⟨_, L, (a.map nt).map fun b => S [b], rfl, rfl, .inl (SqL.of (by rw [e, List.map_map (g := V.str)]; rfl)), join_fits _ (by rw [List.length_map]; exact h8), ?_⟩
    rw [join_bits]
    exact q H' ex
  · subst ew er
    exact ⟨_, rfl, rfl, false, rfl, iteF ⟨_, rfl, rfl, true, rfl, iteT ⟨_, rfl, a, rfl, h8, q H (Evl.Ex.refl H)⟩⟩⟩
  · subst ew er
    exact ⟨_, rfl, rfl, false, rfl, iteF ⟨_, rfl, rfl, false, rfl, iteF ⟨_, rfl, rfl, true, rfl, iteT ⟨_, rfl, a, rfl, h8, q H (Evl.Ex.refl H)⟩⟩⟩⟩
  · subst ew er eh el
    refine ⟨_, rfl, rfl, false, rfl, iteF ⟨_, rfl, rfl, false, rfl, iteF ⟨_, rfl, rfl, false, rfl, iteF ?_⟩⟩⟩
    refine ⟨_, rfl, _, rfl, S a, rfl, S_sz h8, _, _, rfl, rfl, _, rfl, _, _, rfl, rfl, _, rfl, _, rfl, S a, rfl, S_sz h8, _, rfl, _, _, rfl, rfl, _, rfl, S a, rfl, S_sz h8, ?_⟩
    rw [S_len, cut_part h1 h2]
    exact q H (Evl.Ex.refl H)
theorem Bf.of {x : Str} {k : Nat} {g : B → B → B} (hk : k ≤ 2) (C : Cl P w K mg base x k (sp2 g)) : ∃ fa, mg x = some (.ref fa) ∧ Bf P w K mg base fa g := by
  obtain ⟨f, fd, ps, F, m, kp, b⟩ := C.ex
  exact ⟨f, m, k, fd, ps, hk, F, kp, b⟩
theorem ok_two (D : Df K mg "told_by_two" s_told_by_two) (CP : Cl P w K mg base "plus_bits" 2 (spW2 plusW)) (CN : Cl P w K mg base "not_bit" 1 spNot) (CY : Cl P w K mg base "any_bit" 3 (spB1 anyB)) (CB : Cl P w K mg base "bit_by_bit" 3 (spBB (Bf P w K mg base)))
    (CE : Cl P w K mg base "less_bit" 2 (spB2 lessB)) (CA : Cl P w K mg base "and_bit" 1 (sp2 an)) (CO : Cl P w K mg base "or_bit" 2 (sp2 orr)) (CX : Cl P w K mg base "xor_bit" 1 (sp2 xr)) : Cl P w K mg base "told_by_two" 4 spT2 := by
  refine mk_cl D sc_told_by_two (fun _ _ _ _ _ _ us hl => match us, hl with | [_, _, _], _ => rfl) (fun vs H Q E h => ?_) (fun f cdv A outer s H vs Q E hr h => ?_)
  · obtain ⟨_, _, _, _, e, _⟩ := h
    rw [e]; rfl
  obtain ⟨wd, a, b, r, e, h8, h9, t, q⟩ := h
  subst e
  obtain ⟨fA, mA, bA⟩ := Bf.of (by decide) CA
  obtain ⟨fO, mO, bO⟩ := Bf.of (by decide) CO
  obtain ⟨fX, mX, bX⟩ := Bf.of (by decide) CX
  refine ⟨_, pss_cons (ps_if (pt_cmpR op_eq (pv 0) pe_str (nomark _)) (pss_one (ps_ret (pe_cl CP hr (by decide) (pa_cons (pv 1) (pa_cons (pv 2) pa_nil))))) pss_nil)
    (pss_cons (ps_if (pt_cmpR op_eq (pv 0) pe_str (nomark _)) (pss_one (ps_ret (pe_cl CN hr (by decide) (pa_cons (pe_cl CY hr (by decide) (pa_cons (pe_cl CB hr (by decide) (pa_cons (pe_glob (v := .ref fX) rfl mX rfl) (pa_cons (pv 1) (pa_cons (pv 2) pa_nil)))) pa_nil)) pa_nil)))) pss_nil)
    (pss_cons (ps_if (pt_cmpR op_eq (pv 0) pe_str (nomark _)) (pss_one (ps_ret (pe_cl CE hr (by decide) (pa_cons (pv 1) (pa_cons (pv 2) pa_nil))))) pss_nil)
    (pss_cons (ps_if (pt_cmpR op_eq (pv 0) pe_str (nomark _)) (pss_one (ps_ret (pe_op op_add_str (pv 1) (pv 2)))) pss_nil)
    (pss_cons (ps_if (pt_cmpR op_eq (pv 0) pe_str (nomark _)) (pss_one (ps_ret (pe_cl CB hr (by decide) (pa_cons (pe_glob (v := .ref fA) rfl mA rfl) (pa_cons (pv 1) (pa_cons (pv 2) pa_nil)))))) pss_nil)
    (pss_one (ps_ret (pe_cl CB hr (by decide) (pa_cons (pe_ifExp (pt_cmpR op_eq (pv 0) pe_str (nomark _)) (pe_glob (v := .ref fO) rfl mO rfl) (pe_glob (v := .ref fX) rfl mX rfl)) (pa_cons (pv 1) (pa_cons (pv 2) pa_nil)))))))))), ?_⟩
  rcases t with ⟨o, ew, hl, er⟩ | ⟨c, ew, hl, er⟩ | ⟨ew, er⟩
  · subst ew er
    cases o with
    | plus => exact ⟨_, rfl, rfl, true, rfl, iteT ⟨_, rfl, _, rfl, a, b, rfl, hl, h8, q⟩⟩
    | an => exact ⟨_, rfl, rfl, false, rfl, iteF ⟨_, rfl, rfl, false, rfl, iteF ⟨_, rfl, rfl, false, rfl, iteF ⟨_, rfl, rfl, false, rfl, iteF ⟨_, rfl, rfl, true, rfl, iteT ⟨_, rfl, _, rfl, fA, an, a, b, rfl, bA, hl, h8, q⟩⟩⟩⟩⟩⟩
    | orr => exact ⟨_, rfl, rfl, false, rfl, iteF ⟨_, rfl, rfl, false, rfl, iteF ⟨_, rfl, rfl, false, rfl, iteF ⟨_, rfl, rfl, false, rfl, iteF ⟨_, rfl, rfl, false, rfl, iteF ⟨_, rfl, rfl, true, rfl, iteT ⟨_, rfl, _, rfl, fO, orr, a, b, rfl, bO, hl, h8, q⟩⟩⟩⟩⟩⟩⟩
    | xr => exact ⟨_, rfl, rfl, false, rfl, iteF ⟨_, rfl, rfl, false, rfl, iteF ⟨_, rfl, rfl, false, rfl, iteF ⟨_, rfl, rfl, false, rfl, iteF ⟨_, rfl, rfl, false, rfl, iteF ⟨_, rfl, rfl, false, rfl, iteF ⟨_, rfl, _, rfl, fX, xr, a, b, rfl, bX, hl, h8, q⟩⟩⟩⟩⟩⟩⟩
  · subst ew er
    cases c with
    | same => exact ⟨_, rfl, rfl, false, rfl, iteF ⟨_, rfl, rfl, true, rfl, iteT ⟨_, rfl, _, rfl, fX, xr, a, b, rfl, bX, hl, h8, fun H' ex => ⟨a.zipWith xr b, rfl, by rw [List.length_zipWith]; omega, _, rfl, q H' ex⟩⟩⟩⟩
    | less => exact ⟨_, rfl, rfl, false, rfl, iteF ⟨_, rfl, rfl, false, rfl, iteF ⟨_, rfl, rfl, true, rfl, iteT ⟨_, rfl, _, rfl, a, b, rfl, hl, h8, q⟩⟩⟩⟩
  · subst ew er
    refine ⟨_, rfl, rfl, false, rfl, iteF ⟨_, rfl, rfl, false, rfl, iteF ⟨_, rfl, rfl, false, rfl, iteF ⟨_, rfl, rfl, true, rfl, iteT ⟨_, rfl, _, rfl, _, _, rfl, rfl, ?_, ?_⟩⟩⟩⟩⟩
    · rw [S_len, S_len]
      exact Nat.le_trans (Nat.add_le_add h8 h9) (by decide)
    · rw [S_app]
      exact q H (Evl.Ex.refl H)
/-- value.replace('z', 'x'): a token is out as soon as the parameter is bound -/
theorem ok_read (D : Df K mg "read" s_read) : Cl P w K mg base "read" 1 spRead := by
  obtain ⟨f, fd, F, m⟩ := D.ex
  obtain ⟨oc, od, kV, doc, pm, an', cdv, ct, osl, efd, lk, hcd⟩ := F.ex
  have bi : Binds K fd ["value"] [] := F.binds fun _ _ _ _ _ _ us hl => match us, hl with | [_], _ => rfl
  subst efd
  refine ⟨f, _, ["value"], fn_ofT lk hcd sc_read (by decide +kernel) (by decide) (fun vs H Q E h => ?_) (fun A outer s H vs Q E hr h => ?_), m, F.kp, bi⟩
  · obtain ⟨l, e, _⟩ := h
    rw [e]; rfl
  · obtain ⟨l, e, h8, q⟩ := h
    subst e
    refine ⟨_, CwR.psst_one (CwR.pst_ret (CwR.pet_replC (y := "z") (z := "x") (pv 0))), ?_⟩
    refine ⟨_, rfl, R l, rfl, ?_, ?_⟩
    · rw [R_len]
      show l.length + (l.length + 1) * 1 ≤ 16777216
      omega
    · rw [replaced]
      exact q
end
end K24
/-! K24, part 9: terms in the heap; operated, terms_in -/
namespace K24
open PySem PySem.Spec PyProof.Rows L2
/-! ### terms in the heap -/
/-- tuples stand -/
def Tk (H H' : Hp) : Prop := ∀ b xs, H b = some (.tup xs) → H' b = some (.tup xs)
theorem Tk.of {H H' : Hp} (e : Evl.Ex H H') : Tk H H' := fun b xs h => e b _ h
theorem Tk.trans {H H1 H2 : Hp} (a : Tk H H1) (b : Tk H1 H2) : Tk H H2 := fun c xs h => b c xs (a c xs h)
def word : Tm → Str
  | .is _ => "is" | .var _ => "of" | .nt _ => "not" | .uno u _ => u.w | .bin b _ _ => b.w | .cmp c _ _ => c.w | .join _ _ => "join" | .pick _ _ _ => "pick" | .part _ _ _ => "part"
def subs : Tm → List Tm
  | .is _ => [] | .var _ => [] | .nt t => [t] | .uno _ t => [t] | .bin _ s t => [s, t] | .cmp _ s t => [s, t] | .join s t => [s, t] | .pick c s t => [c, s, t] | .part t _ _ => [t]
/-- what stands behind the terms -/
def tail : Tm → List V
  | .part _ hi lo => [.int hi, .int lo]
  | .is w => [vw w]
  | .var n => [.str n]
  | _ => []
def At (H : Hp) : Tm → V → Prop
  | .is w, v => ∃ a, v = .ref a ∧ H a = some (.tup [.str "is", vw w])
  | .var n, v => ∃ a, v = .ref a ∧ H a = some (.tup [.str "of", .str n])
  | .nt t, v => ∃ a u, v = .ref a ∧ H a = some (.tup [.str "not", u]) ∧ At H t u
  | .uno o t, v => ∃ a u, v = .ref a ∧ H a = some (.tup [.str o.w, u]) ∧ At H t u
  | .bin o s t, v => ∃ a u1 u2, v = .ref a ∧ H a = some (.tup [.str o.w, u1, u2]) ∧ At H s u1 ∧ At H t u2
  | .cmp o s t, v => ∃ a u1 u2, v = .ref a ∧ H a = some (.tup [.str o.w, u1, u2]) ∧ At H s u1 ∧ At H t u2
  | .join s t, v => ∃ a u1 u2, v = .ref a ∧ H a = some (.tup [.str "join", u1, u2]) ∧ At H s u1 ∧ At H t u2
  | .pick c s t, v => ∃ a u u1 u2, v = .ref a ∧ H a = some (.tup [.str "pick", u, u1, u2]) ∧ At H c u ∧ At H s u1 ∧ At H t u2
  | .part t hi lo, v => ∃ a u, v = .ref a ∧ H a = some (.tup [.str "part", u, .int hi, .int lo]) ∧ At H t u
theorem At.mono {H H' : Hp} (k : Tk H H') : ∀ {t : Tm} {v : V}, At H t v → At H' t v
  | .is _, _, ⟨a, e, h⟩ => ⟨a, e, k _ _ h⟩
  | .var _, _, ⟨a, e, h⟩ => ⟨a, e, k _ _ h⟩
  | .nt _, _, ⟨a, u, e, h, x⟩ => ⟨a, u, e, k _ _ h, At.mono k x⟩
  | .uno _ _, _, ⟨a, u, e, h, x⟩ => ⟨a, u, e, k _ _ h, At.mono k x⟩
  | .bin _ _ _, _, ⟨a, u, u2, e, h, x, y⟩ => ⟨a, u, u2, e, k _ _ h, At.mono k x, At.mono k y⟩
  | .cmp _ _ _, _, ⟨a, u, u2, e, h, x, y⟩ => ⟨a, u, u2, e, k _ _ h, At.mono k x, At.mono k y⟩
  | .join _ _, _, ⟨a, u, u2, e, h, x, y⟩ => ⟨a, u, u2, e, k _ _ h, At.mono k x, At.mono k y⟩
  | .pick _ _ _, _, ⟨a, u, u2, u3, e, h, x, y, z⟩ => ⟨a, u, u2, u3, e, k _ _ h, At.mono k x, At.mono k y, At.mono k z⟩
  | .part _ _ _, _, ⟨a, u, e, h, x⟩ => ⟨a, u, e, k _ _ h, At.mono k x⟩
/-- all of them, at the values -/
def AtAll (H : Hp) (ts : List Tm) (us : List V) : Prop := us.length = ts.length ∧ ∀ (i : Nat) (t : Tm) (u : V), ts[i]? = some t → us[i]? = some u → At H t u
theorem atAll_nil {H : Hp} : AtAll H [] [] := ⟨rfl, fun i t u h => by simp at h⟩
theorem atAll_cons {H : Hp} {t : Tm} {u : V} {ts : List Tm} {us : List V} (h : At H t u) (r : AtAll H ts us) : AtAll H (t :: ts) (u :: us) := by
  refine ⟨by rw [List.length_cons, List.length_cons, r.1], fun i t' u' h1 h2 => ?_⟩
  cases i with
  | zero => cases h1; cases h2; exact h
  | succ i => exact r.2 i t' u' h1 h2
theorem At.open_ {H : Hp} {t : Tm} {v : V} (h : At H t v) : ∃ a us, v = .ref a ∧ H a = some (.tup (.str (word t) :: (us ++ tail t))) ∧ AtAll H (subs t) us := by
  cases t with
  | is w => obtain ⟨a, e, h⟩ := h; exact ⟨a, [], e, h, atAll_nil⟩
  | var w => obtain ⟨a, e, h⟩ := h; exact ⟨a, [], e, h, atAll_nil⟩
  | nt t => obtain ⟨a, u, e, h, x⟩ := h; exact ⟨a, [u], e, h, atAll_cons x atAll_nil⟩
  | uno o t => obtain ⟨a, u, e, h, x⟩ := h; exact ⟨a, [u], e, h, atAll_cons x atAll_nil⟩
  | bin o s t => obtain ⟨a, u, u2, e, h, x, y⟩ := h; exact ⟨a, [u, u2], e, h, atAll_cons x (atAll_cons y atAll_nil)⟩
  | cmp o s t => obtain ⟨a, u, u2, e, h, x, y⟩ := h; exact ⟨a, [u, u2], e, h, atAll_cons x (atAll_cons y atAll_nil)⟩
  | join s t => obtain ⟨a, u, u2, e, h, x, y⟩ := h; exact ⟨a, [u, u2], e, h, atAll_cons x (atAll_cons y atAll_nil)⟩
  | pick c s t => obtain ⟨a, u, u2, u3, e, h, x, y, z⟩ := h; exact ⟨a, [u, u2, u3], e, h, atAll_cons x (atAll_cons y (atAll_cons z atAll_nil))⟩
  | part t hi lo => obtain ⟨a, u, e, h, x⟩ := h; exact ⟨a, [u], e, h, atAll_cons x atAll_nil⟩
def leaf : Tm → Bool
  | .is _ => true | .var _ => true | _ => false
def isPart : Tm → Bool
  | .part _ _ _ => true | _ => false
theorem deep_sub {t s : Tm} (h : s ∈ subs t) : deep s < deep t := by
  cases t with
  | is w => cases h
  | var w => cases h
  | nt t => have e : s = t := by simpa [subs] using h
            subst e; exact Nat.lt_succ_self _
  | uno o t => have e : s = t := by simpa [subs] using h
               subst e; exact Nat.lt_succ_self _
  | part t hi lo => have e : s = t := by simpa [subs] using h
                    subst e; exact Nat.lt_succ_self _
  | bin o a b => have e : s = a ∨ s = b := by simpa [subs] using h
                 show deep s < max (deep a) (deep b) + 1
                 rcases e with e | e <;> subst e <;> omega
  | cmp o a b => have e : s = a ∨ s = b := by simpa [subs] using h
                 show deep s < max (deep a) (deep b) + 1
                 rcases e with e | e <;> subst e <;> omega
  | join a b => have e : s = a ∨ s = b := by simpa [subs] using h
                show deep s < max (deep a) (deep b) + 1
                rcases e with e | e <;> subst e <;> omega
  | pick c a b => have e : s = c ∨ s = a ∨ s = b := by simpa [subs] using h
                  show deep s < max (deep c) (max (deep a) (deep b)) + 1
                  rcases e with e | e | e <;> subst e <;> omega
theorem wt_sub {W : List (Str × Nat)} {t : Tm} {n : Nat} (w : Wt W t n) {s : Tm} (h : s ∈ subs t) : ∃ m, Wt W s m := by
  cases t with
  | is _ => cases h
  | var _ => cases h
  | nt t => have e : s = t := by simpa [subs] using h
            subst e; exact ⟨n, w⟩
  | uno o t => have e : s = t := by simpa [subs] using h
               subst e; exact w.2
  | part t hi lo => have e : s = t := by simpa [subs] using h
                    obtain ⟨_, _, m, _, q⟩ := w
                    subst e; exact ⟨m, q⟩
  | bin o a b => have e : s = a ∨ s = b := by simpa [subs] using h
                 rcases e with e | e <;> subst e
                 · exact ⟨n, w.1⟩
                 · exact ⟨n, w.2⟩
  | cmp o a b => have e : s = a ∨ s = b := by simpa [subs] using h
                 obtain ⟨_, m, w1, w2⟩ := w
                 rcases e with e | e <;> subst e
                 · exact ⟨m, w1⟩
                 · exact ⟨m, w2⟩
  | join a b => have e : s = a ∨ s = b := by simpa [subs] using h
                obtain ⟨_, m, k, _, w1, w2⟩ := w
                rcases e with e | e <;> subst e
                · exact ⟨m, w1⟩
                · exact ⟨k, w2⟩
  | pick c a b => have e : s = c ∨ s = a ∨ s = b := by simpa [subs] using h
                  rcases e with e | e | e <;> subst e
                  · exact ⟨1, w.1⟩
                  · exact ⟨n, w.2.1⟩
                  · exact ⟨n, w.2.2⟩
/-! ### operators on lists of texts -/
def Op (wd : Str) (ws : List (List B)) (hi lo : Int) (r : List B) : Prop :=
  (∃ a, ws = [a] ∧ T1 wd a hi lo r) ∨ (∃ a b, ws = [a, b] ∧ T2 wd a b r) ∨ (wd = "pick" ∧ ∃ c a b, ws = [c, a, b] ∧ c.length = 1 ∧ a.length = b.length ∧ r = pickW c a b)
def bnds : Tm → Int × Int
  | .part _ hi lo => (hi, lo)
  | _ => (0, 0)
theorem op_of {W : List (Str × Nat)} {E : VE} (f : Fits E W) {t : Tm} {n : Nat} (w : Wt W t n) (h : leaf t = false) : Op (word t) ((subs t).map (ev E)) (bnds t).1 (bnds t).2 (ev E t) := by
  cases t with
  | is _ => cases h
  | var _ => cases h
  | nt t => exact .inl ⟨_, rfl, .inl ⟨rfl, rfl⟩⟩
  | uno o t => cases o with
    | any => exact .inl ⟨_, rfl, .inr (.inl ⟨rfl, rfl⟩)⟩
    | all => exact .inl ⟨_, rfl, .inr (.inr (.inl ⟨rfl, rfl⟩))⟩
  | part t hi lo =>
    obtain ⟨h0, _, m, h1, w1⟩ := w
    exact .inl ⟨_, rfl, .inr (.inr (.inr ⟨rfl, hi, lo, rfl, rfl, h0, by rw [ev_len f w1]; exact h1, rfl⟩))⟩
  | bin o a b => exact .inr (.inl ⟨_, _, rfl, .inl ⟨o, rfl, (ev_len f w.1).trans (ev_len f w.2).symm, rfl⟩⟩)
  | cmp o a b =>
    obtain ⟨_, m, w1, w2⟩ := w
    exact .inr (.inl ⟨_, _, rfl, .inr (.inl ⟨o, rfl, (ev_len f w1).trans (ev_len f w2).symm, rfl⟩)⟩)
  | join a b => exact .inr (.inl ⟨_, _, rfl, .inr (.inr ⟨rfl, rfl⟩)⟩)
  | pick c a b => exact .inr (.inr ⟨rfl, _, _, _, rfl, ev_len f w.1, (ev_len f w.2.1).trans (ev_len f w.2.2).symm, rfl⟩)
/-- a comprehension over a list whose turns only grow the heap -/
theorem lc_vals {K : PySem.W.Frag} {a : Addr} {xs ys : List V} (hl : ys.length = xs.length) (h8 : xs.length ≤ 1000) {σ : L2.St} {vs : List Nat} {i : Nat} {te : TE} {H1 : Hp} {D : Addr} {Qd : Hp → Prop} (hs : SqL K H1 a xs) (hD : H1 D = none)
    (hw : ∀ x, wipe ((wipe σ vs).set i (some x)) vs = wipe σ vs)
    (he : ∀ (n : Nat) (x y : V), xs[n]? = some x → ys[n]? = some y → ∀ H, Evl.Ex H1 H → ∀ Q : VK, (∀ H', Evl.Ex H H' → Q y H') → te ((wipe σ vs).set i (some x)) H Q)
    (hq : ∀ H', Evl.Ex H1 H' → H' D = some (.lst ys) → Qd H') :
    ∃ W : Nat → Nat → Hp → Prop, (∃ m, W 0 m (upd H1 D (.lst []))) ∧ ∀ n m H, W n m H →
      ((Itl K a).stop n H ∧ Qd H) ∨ ((Itl K a).go n H ∧ ∃ Nx : Hp → Prop, (∀ H', Nx H' → ∃ m', m' < m ∧ W (n + 1) m' H') ∧ ∀ x H', (Itl K a).yld n H x H' → gName i x (wipe σ vs) H' fun σ2 H2 => wipe σ2 vs = wipe σ vs ∧ tYes σ2 H2 fun b H3 =>
        if b = true then te σ2 H3 fun y H4 => ∃ acc, H4 D = some (.lst acc) ∧ acc.length < sizeLine ∧ Nx (upd H4 D (.lst (acc ++ [y]))) else Nx H3) := by
  refine lc_it walk_list (fun n H => H1 D = none ∧ Evl.Ex H1 H ∧ H D = some (.lst (ys.take n))) ⟨hD, Evl.Ex.new hD, upd_same⟩ (fun n H _ p => Evl.ex_l p.2.1 hs) (fun n x H H' hlt p y => ?_) (fun H p => ?_)
  · obtain ⟨p0, p1, p2⟩ := p
    obtain ⟨e2, ex⟩ := y
    subst e2
    have hy : ys[n]? = some (ys[n]'(by omega)) := List.getElem?_eq_getElem (by omega)
    refine ⟨hw _, ?_⟩
    refine he n x _ ex hy H' p1 _ fun H2 e2 => ⟨_, e2 _ _ p2, ?_, p0, Evl.Ex.mut (p1.trans e2) p0, ?_⟩
    · rw [List.length_take]
      exact Nat.lt_of_le_of_lt (Nat.min_le_left _ _) (Nat.lt_trans hlt (Nat.lt_of_le_of_lt h8 (by decide)))
    · rw [upd_same, List.take_add_one, hy]
      rfl
  · obtain ⟨p0, p1, p2⟩ := p
    rw [List.take_of_length_le (by omega)] at p2
    exact hq H p1 p2
section
variable {X : Cx}
theorem pgs_starred {e : Expr} {es : List Expr} {t : TG} {u : TGs} {sp : Pos} (h1 : PG X e t) (h2 : PGs X es u)
    (hs : (assignEach (.Starred e sp :: es) X.env).map (·.2) = assign e X.env :: (assignEach es X.env).map (·.2) := by rfl) : PGs X (.Starred e sp :: es) (gCons t u) := by
  refine ⟨fun pins s σ H vs us Q I r h => ?_⟩
  obtain ⟨v, vr, e1, h⟩ := h
  subst e1
  cases r with
  | cons r rr =>
    rw [hs]
    exact assignInOrder_cons (thn (h1.run pins s σ H _ _ _ I r h) fun _ s1 h4 => let ⟨σ1, H1, I1, q1⟩ := h4; h2.run pins s1 σ1 H1 _ _ Q I1 rr q1)
end
end K24
/-! K24, part 10: operated, terms_in -/
namespace K24
open PySem PySem.Spec PyProof.Rows L2
def spOp (K : PySem.W.Frag) : Sp := fun vs H Q _ => ∃ (wd : Str) (l : Addr) (ws : List (List B)) (r : List B) (hi lo : Int), vs = [.str wd, .ref l, .int hi, .int lo] ∧ SqL K H l (ws.map vw) ∧ (∀ a ∈ ws, a.length ≤ 1000) ∧ Op wd ws hi lo r ∧
  ∀ H', Evl.Ex H H' → Q (vw r) H'
structure DfO (K : PySem.W.Frag) (mg : Str → Option Value) : Prop where
  ex : ∃ f fd, FunD K "operated" "operated" (defArgs s_operated) (defBody s_operated) (defScope s_operated) [] [("high", .int 0), ("low", .int 0)] f fd ∧ mg "operated" = some (.ref f)
structure ClO (P : Program) (w : World) (K : PySem.W.Frag) (mg : Str → Option Value) (base : Heap) (k : Nat) : Prop where
  ex : ∃ f fd, FnOk P w K mg base CX0 k f fd ["word", "values", "high", "low"] (spOp K) ∧ mg "operated" = some (.ref f) ∧ PySem.W.keepIn K (.ref f) = true ∧
    (∃ ds, Vals [.int 0, .int 0] ds ∧ Binds K fd ["word", "values", "high", "low"] ds) ∧ KBn K fd ["word", "values", "high", "low"] 2 ["low", "high"] (fun us ws => us ++ ws.reverse) (fun vs zs => vs ++ zs.reverse)
theorem dp_strs {K : PySem.W.Frag} {H : Hp} : ∀ ws : List (List B), DpAll K H (ws.map vw) (ws.map fun w => PyData.str (S w))
  | [] => .nil
  | w :: ws => .cons (.str _) (dp_strs ws)
theorem vals_rev : ∀ {xs : List V} {us : List Value}, Vals xs us → Vals xs.reverse us.reverse
  | _, _, .nil => .nil
  | _, _, .cons r t => by
    rw [List.reverse_cons, List.reverse_cons]
    exact (vals_rev t).append (.cons r .nil)
theorem c_lt (b : B) : b.c < 1114112 := by cases b <;> decide
theorem lay_strs : ∀ ws : List (List B), PyData.canLayAll0 (ws.map fun w => PyData.str (S w)) = true
  | [] => by simp [PyData.canLayAll0]
  | w :: ws => by
    have ih := lay_strs ws
    rw [List.map_cons]
    simp only [PyData.canLayAll0, PyData.canLay0, ih, Bool.and_true]
    unfold PyData.strOk
    simp [S, c_lt]
theorem dep_strs : ∀ ws : List (List B), PyData.depthAll (ws.map fun w => PyData.str (S w)) ≤ 1
  | [] => by simp [PyData.depthAll]
  | w :: ws => by
    have ih := dep_strs ws
    rw [List.map_cons]
    simp only [PyData.depthAll, PyData.depth]
    omega
theorem shaped_strs (ws : List (List B)) : SeqAt.shaped (.list (ws.map fun w => PyData.str (S w))) = true := by
  have h1 := dep_strs ws
  have h2 : PyData.depth (.list (ws.map fun w => PyData.str (S w))) ≤ 64 := by
    simp only [PyData.depth]
    omega
  show (PyData.canLay0 _ && decide (PyData.depth _ ≤ 64)) = true
  rw [Bool.and_eq_true]
  exact ⟨by simp only [PyData.canLay0]; exact lay_strs ws, decide_eq_true h2⟩
theorem t2_pick {wd : Str} {a b r : List B} (t : T2 wd a b r) : decide (V.str wd = V.str "pick") = false := by
  rcases t with ⟨o, e, _⟩ | ⟨c, e, _⟩ | ⟨e, _⟩
  · subst e; cases o <;> rfl
  · subst e; cases c <;> rfl
  · subst e; rfl
section
variable {P : Program} {w : World} {K : PySem.W.Frag} {mg : Str → Option Value} {base : Heap}
theorem ok_op (D : DfO K mg) (CR : Cl P w K mg base "read" 1 spRead) (C1 : Cl P w K mg base "told_by_one" 4 spT1) (CP : Cl P w K mg base "pick_bits" 3 spP) (C2 : Cl P w K mg base "told_by_two" 4 spT2) : ClO P w K mg base 5 := by
  obtain ⟨f, fd, F, m⟩ := D.ex
  have b1 := F.binds0 (ps := ["word", "values", "high", "low"]) 2 (by decide) rfl (fun Dd doc pm an cdv ct us ks h1 h2 => match us, h1, ks, h2 with
    | [_, _], _, [_, _], _ => ⟨_, _, _, _, _, _, rfl, rfl, ⟨_, _, _, _, _, _, rfl, rfl, rfl⟩⟩)
  have b2 : KBn K fd ["word", "values", "high", "low"] 2 ["low", "high"] (fun us ws => us ++ ws.reverse) (fun vs zs => vs ++ zs.reverse) := by
    obtain ⟨oc, od, dV, kV, doc, pm, an', cdv, ct, osl, efd, _, _, hD, _⟩ := F.ex
    rcases hD with ⟨_, e⟩ | ⟨e, _⟩
    · subst e efd
      refine ⟨fun s us ws _ h1 h2 => ?_, fun r1 r2 => r1.append (vals_rev r2)⟩
      match us, h1, ws, h2 with
      | [_, _], _, [_, _], _ => exact .of_eq rfl
    · exact absurd rfl e
  refine ⟨f, fd, ?_, m, F.kp, b1, b2⟩
  have nd := sc_operated.nd
  refine F.ok sc_operated (fun vs H Q E h => ?_) (fun cdv A outer s H vs Q E hr h => ?_)
  · obtain ⟨_, _, _, _, _, _, e, _⟩ := h
    rw [e]; rfl
  obtain ⟨wd, l, ws, r, hi, lo, e, hS, hz, hO, q⟩ := h
  subst e
  have hu : A.units + 3 + 64 < cLine := hr.units
  refine ⟨_, pss_cons (ps_asg (pe_lc (own := [("value", 6)]) (g := gName 6) (tt := tYes) rfl nd (pi_list (pv 1)) (blkOk_by (own := [("value", 6)]) (N := ["word", "values", "high", "low", "first", "others", "value"]) (sc := defScope s_operated) (by decide +kernel))
        (fun _ _ _ _ _ => pg_name (i := 6) nd rfl (Or.inl rfl)) (fun _ _ _ _ _ => pts_nil) (fun _ _ _ _ _ => pe_cl CR hr (by decide) (pa_cons (pv 6) pa_nil)))
      (pg_star rfl (pgs_cons (pg_name (i := 4) nd rfl (Or.inl rfl)) (pgs_starred (pg_name (i := 5) nd rfl (Or.inl rfl)) pgs_nil))))
    (pss_cons (ps_if (pt_cmpR (op_eqD hr.units) (pv 5) (pe_lst pa_nil) (nomark _)) (pss_one (ps_ret (pe_cl C1 hr (by decide) (pa_cons (pv 0) (pa_cons (pv 4) (pa_cons (pv 2) (pa_cons (pv 3) pa_nil))))))) pss_nil)
    (pss_cons (ps_if (pt_cmpR op_eq (pv 0) pe_str (nomark _)) (pss_one (ps_ret (pe_cl CP hr (by decide) (pa_cons (pv 4) (pa_cons (pe_ix ix_list (pv 5) pe_int (fun _ _ => rfl)) (pa_cons (pe_ix ix_list (pv 5) pe_int (fun _ _ => rfl)) pa_nil)))))) pss_nil)
    (pss_one (ps_ret (pe_cl C2 hr (by decide) (pa_cons (pv 0) (pa_cons (pv 4) (pa_cons (pe_ix ix_list (pv 5) pe_int (fun _ _ => rfl)) pa_nil)))))))), ?_⟩
  have h8 : ws.length ≤ 3 := by
    rcases hO with ⟨a, e, _⟩ | ⟨a, b, e, _⟩ | ⟨_, c, a, b, e, _⟩
    all_goals (rw [e]; simp)
  refine ⟨_, rfl, l, rfl, ⟨_, hS⟩, fun L hL => lc_vals (ys := ws.map vw) (xs := ws.map vw) rfl (by rw [List.length_map]; omega) hS hL (fun _ => rfl) (fun n x y hx hy H1 e1 Q q => ?_) (fun H1 e1 hL1 => ?_)⟩
  · rw [hx] at hy
    cases hy
    rw [List.getElem?_map] at hx
    cases ha : ws[n]? with
    | none => rw [ha] at hx; cases hx
    | some a =>
      rw [ha] at hx
      cases hx
      refine ⟨_, rfl, a.map B.g, ?_, ?_, ?_⟩
      · rw [← S_R]
        rfl
      · rw [List.length_map]
        exact hz a (List.mem_of_getElem? ha)
      · rw [rd_map]
        exact q H1 (Evl.Ex.refl H1)
  · have z0 : (0 : Nat) ≤ sizeLine := Nat.zero_le _
    rcases hO with ⟨a, e, t⟩ | ⟨a, b, e, t⟩ | ⟨ew, c, a, b, e, hc, hl, er⟩
    · subst e
      refine ⟨L, [vw a], rfl, .inr (SqL.of hL1), (show 1 < 2 by decide), (show 2 ≤ 2 by decide), fun p hp => ⟨vw a, [.ref p], rfl, .ref p, [], rfl, rfl, ?_⟩⟩
      have e2 := Evl.Ex.new (o := .lst []) hp
      refine ⟨.ref p, rfl, z0, fun p2 hp2 => ⟨.list [], .list [], .lst (xs := []) (SqL.of (by rw [upd_ne (ne_of_none upd_same hp2)]; exact upd_same)) .nil, .lst (xs := []) (SqL.of upd_same) .nil, rfl, rfl, true, rfl, iteT ?_⟩⟩
      have e3 := Evl.Ex.new (o := .lst []) hp2
      exact ⟨_, rfl, _, rfl, _, rfl, _, rfl, wd, a, r, hi, lo, rfl, hz a (List.mem_singleton.mpr rfl), t, fun H' e4 => q H' (e1.trans (e2.trans (e3.trans e4)))⟩
    · subst e
      refine ⟨L, [vw a, vw b], rfl, .inr (SqL.of hL1), (show 1 < 2 by decide), (show 2 ≤ 3 by decide), fun p hp => ⟨vw a, [.ref p], rfl, .ref p, [], rfl, rfl, ?_⟩⟩
      have e2 := Evl.Ex.new (o := .lst [vw b]) hp
      refine ⟨.ref p, rfl, z0, fun p2 hp2 => ⟨.list [.str (S b)], .list [], .lst (xs := [vw b]) (SqL.of (by rw [upd_ne (ne_of_none upd_same hp2)]; exact upd_same)) (dp_strs [b]), .lst (xs := []) (SqL.of upd_same) .nil, shaped_strs [b], rfl, false, rfl, iteF ?_⟩⟩
      have e3 := Evl.Ex.new (o := .lst []) hp2
      have hp3 : upd (upd H1 p (.lst [vw b])) p2 (.lst []) p = some (.lst [vw b]) := e3 _ _ upd_same
      refine ⟨_, rfl, rfl, false, congrArg V.bl (t2_pick t), iteF ?_⟩
      exact ⟨_, rfl, _, rfl, _, rfl, p, _, _, _, rfl, rfl, SqL.of hp3, atI_nat (j := 0) rfl, wd, a, b, r, rfl, hz a (by simp), hz b (by simp), t, fun H' e4 => q H' (e1.trans (e2.trans (e3.trans e4)))⟩
    · subst e er ew
      refine ⟨L, [vw c, vw a, vw b], rfl, .inr (SqL.of hL1), (show 1 < 2 by decide), (show 2 ≤ 4 by decide), fun p hp => ⟨vw c, [.ref p], rfl, .ref p, [], rfl, rfl, ?_⟩⟩
      have e2 := Evl.Ex.new (o := .lst [vw a, vw b]) hp
      refine ⟨.ref p, rfl, z0, fun p2 hp2 => ⟨.list [.str (S a), .str (S b)], .list [], .lst (xs := [vw a, vw b]) (SqL.of (by rw [upd_ne (ne_of_none upd_same hp2)]; exact upd_same)) (dp_strs [a, b]), .lst (xs := []) (SqL.of upd_same) .nil, shaped_strs [a, b], rfl, false, rfl, iteF ?_⟩⟩
      have e3 := Evl.Ex.new (o := .lst []) hp2
      have hp3 : upd (upd H1 p (.lst [vw a, vw b])) p2 (.lst []) p = some (.lst [vw a, vw b]) := e3 _ _ upd_same
      refine ⟨_, rfl, rfl, true, rfl, iteT ?_⟩
      exact ⟨_, rfl, _, rfl, p, _, _, _, rfl, rfl, SqL.of hp3, atI_nat (j := 0) rfl, _, rfl, p, _, _, _, rfl, rfl, SqL.of hp3, atI_nat (j := 1) rfl, c, a, b, rfl, hc, hl, hz a (by simp), fun H' e4 => q H' (e1.trans (e2.trans (e3.trans e4)))⟩
end
end K24
/-! K24, part 11: terms_in, value_of_term -/
namespace K24
open PySem PySem.Spec PyProof.Rows L2
theorem gstar1 {K : PySem.W.Frag} {t : TGs} {a : Addr} {x : V} {rest : List V} {σ : L2.St} {H : Hp} {Q : L2.St → Hp → Prop} (h : SqT K H a (x :: rest) ∨ SqL K H a (x :: rest)) (hq : ∀ p, H p = none → t [x, .ref p] σ (upd H p (.lst rest)) Q) : gStar K 2 1 t (.ref a) σ H Q := by
  refine ⟨a, x :: rest, rfl, h, by decide, by rw [List.length_cons]; omega, fun p hp => ?_⟩
  have e : (x :: rest).length + 1 - 2 = rest.length := by rw [List.length_cons]; omega
  rw [e]
  show t ([x] ++ [.ref p] ++ rest.drop rest.length) σ (upd H p (.lst (rest.take rest.length))) Q
  rw [List.drop_length, List.take_length]
  exact hq p hp
theorem gstar2 {K : PySem.W.Frag} {t : TGs} {a : Addr} {x y : V} {rest : List V} {σ : L2.St} {H : Hp} {Q : L2.St → Hp → Prop} (h : SqT K H a (x :: y :: rest) ∨ SqL K H a (x :: y :: rest)) (hq : ∀ p, H p = none → t [x, y, .ref p] σ (upd H p (.lst rest)) Q) : gStar K 3 2 t (.ref a) σ H Q := by
  refine ⟨a, x :: y :: rest, rfl, h, by decide, by rw [List.length_cons, List.length_cons]; omega, fun p hp => ?_⟩
  have e : (x :: y :: rest).length + 1 - 3 = rest.length := by rw [List.length_cons, List.length_cons]; omega
  rw [e]
  show t ([x, y] ++ [.ref p] ++ rest.drop rest.length) σ (upd H p (.lst (rest.take rest.length))) Q
  rw [List.drop_length, List.take_length]
  exact hq p hp
theorem word_leaf {t : Tm} (h : leaf t = false) : inV (.str (word t)) [.str "is", .str "of"] = false := by
  cases t with
  | is _ => cases h
  | var _ => cases h
  | nt _ => rfl
  | uno o _ => cases o <;> rfl
  | bin o _ _ => cases o <;> rfl
  | cmp o _ _ => cases o <;> rfl
  | join _ _ => rfl
  | pick _ _ _ => rfl
  | part _ _ _ => rfl
theorem word_is {t : Tm} (h : leaf t = false) : decide (V.str (word t) = V.str "is") = false ∧ decide (V.str (word t) = V.str "of") = false := by
  cases t with
  | is _ => cases h
  | var _ => cases h
  | nt _ => exact ⟨rfl, rfl⟩
  | uno o _ => cases o <;> exact ⟨rfl, rfl⟩
  | bin o _ _ => cases o <;> exact ⟨rfl, rfl⟩
  | cmp o _ _ => cases o <;> exact ⟨rfl, rfl⟩
  | join _ _ => exact ⟨rfl, rfl⟩
  | pick _ _ _ => exact ⟨rfl, rfl⟩
  | part _ _ _ => exact ⟨rfl, rfl⟩
theorem word_part (t : Tm) : decide (V.str (word t) = V.str "part") = isPart t := by
  cases t with
  | is _ => rfl
  | var _ => rfl
  | nt _ => rfl
  | uno o _ => cases o <;> rfl
  | bin o _ _ => cases o <;> rfl
  | cmp o _ _ => cases o <;> rfl
  | join _ _ => rfl
  | pick _ _ _ => rfl
  | part _ _ _ => rfl
theorem tail_np {t : Tm} (h : leaf t = false) (hp : isPart t = false) : tail t = [] := by
  cases t <;> first | rfl | (cases h; done) | (cases hp; done)
theorem subs_ne {t : Tm} (h : leaf t = false) : ∃ s r, subs t = s :: r := by
  cases t with
  | is _ => cases h
  | var _ => cases h
  | nt _ => exact ⟨_, _, rfl⟩
  | uno o _ => exact ⟨_, _, rfl⟩
  | bin o _ _ => exact ⟨_, _, rfl⟩
  | cmp o _ _ => exact ⟨_, _, rfl⟩
  | join _ _ => exact ⟨_, _, rfl⟩
  | pick _ _ _ => exact ⟨_, _, rfl⟩
  | part _ _ _ => exact ⟨_, _, rfl⟩
def spTI : Sp := fun vs H Q _ => ∃ (a : Addr) (t : Tm) (us : List V), vs = [.ref a] ∧ leaf t = false ∧ H a = some (.tup (.str (word t) :: (us ++ tail t))) ∧ us.length = (subs t).length ∧
  ∀ H' l, Evl.Ex H H' → H' l = some (.lst us) → Q (.ref l) H'
section
variable {P : Program} {w : World} {K : PySem.W.Frag} {mg : Str → Option Value} {base : Heap}
theorem ok_ti (D : Df K mg "terms_in" s_terms_in) : Cl P w K mg base "terms_in" 1 spTI := by
  refine mk_cl D sc_terms_in (fun _ _ _ _ _ _ us hl => match us, hl with | [_], _ => rfl) (fun vs H Q E h => ?_) (fun f cdv A outer s H vs Q E hr h => ?_)
  · obtain ⟨_, _, _, e, _⟩ := h
    rw [e]; rfl
  obtain ⟨a, t, us, e, hlf, hA, hu, q⟩ := h
  subst e
  have nd := sc_terms_in.nd
  refine ⟨_, pss_cons (ps_asg (pv 0) (pg_star rfl (pgs_cons (pg_name (i := 1) nd rfl (Or.inl rfl)) (pgs_starred (pg_name (i := 2) nd rfl (Or.inl rfl)) pgs_nil))))
    (pss_cons (ps_if (pt_cmpR op_in_seq (pv 1) (pe_tup (pa_cons pe_str (pa_cons pe_str pa_nil))) rfl) (pss_one (ps_ret (pe_lst pa_nil))) pss_nil)
    (pss_one (ps_ret (pe_ifExp (pt_cmpR op_eq (pv 1) pe_str (nomark _)) (pe_slice sl_list (pv 2) po_none (po_some pe_int)) (pv 2))))), ?_⟩
  refine ⟨_, rfl, gstar1 (.inl (SqT.of hA)) fun p hp => ⟨_, _, rfl, _, _, rfl, rfl, ?_⟩⟩
  have e1 := Evl.Ex.new (o := .lst (us ++ tail t)) hp
  refine ⟨_, rfl, (show 2 ≤ sizeLine by decide), fun p2 hp2 => ⟨p2, _, rfl, .inr (SqT.of upd_same), rfl, rfl, false, congrArg V.bl (word_leaf hlf), iteF ?_⟩⟩
  have e2 := Evl.Ex.new (o := .tup [.str "is", .str "of"]) hp2
  refine ⟨_, rfl, rfl, isPart t, congrArg V.bl (word_part t), ?_⟩
  cases hpt : isPart t with
  | true =>
    refine iteT ⟨_, rfl, 1, rfl, p, us ++ tail t, rfl, SqL.of (e2 _ _ upd_same), fun p3 hp3 => ?_⟩
    refine q _ p3 (e1.trans (e2.trans (Evl.Ex.new hp3))) ?_
    rw [upd_same]
    obtain ⟨u, eu⟩ : ∃ u, us = [u] := by
      cases t with
      | part t hi lo =>
        match us, hu with
        | [u], _ => exact ⟨u, rfl⟩
      | _ => cases hpt
    subst eu
    have ec : cutV (([u] : List V) ++ tail t) none (some 1) = [u] := by
      unfold cutV
      rw [show HT.sIx (([u] : List V) ++ tail t).length (([u] : List V) ++ tail t).length (some 1) = min 1 (([u] : List V) ++ tail t).length from HT.sIx_nat _ _ 1, HT.sIx_none]
      rw [Nat.min_eq_left (by rw [List.length_append]; exact Nat.le_add_right 1 _)]
      rfl
    rw [ec]
  | false =>
    refine iteF ⟨_, rfl, ?_⟩
    refine q _ p (e1.trans e2) ?_
    rw [e2 _ _ upd_same, tail_np hlf hpt, List.append_nil]
end
end K24
/-! K24, part 12: value_of_term -/
namespace K24
open PySem PySem.Spec PyProof.Rows L2
/-- the dict of a set of values -/
def ekv (E : VE) : List (Key × V) := E.map fun p => (Sum.inr p.1, V.str (R p.2))
theorem val_ekv {E : VE} {x : Str} {l : List G} (h : E.lookup x = some l) : valV (ekv E) (Sum.inr x) = some (.str (R l)) := by
  induction E with
  | nil => cases h
  | cons p r ih =>
    obtain ⟨y, m⟩ := p
    show valV ((Sum.inr y, V.str (R m)) :: ekv r) (Sum.inr x) = _
    by_cases e : x = y
    · subst e
      rw [List.lookup_cons_self] at h
      cases h
      exact valV_pos rfl
    · rw [valV_neg (fun q => e (Sum.inr.inj q).symm)]
      have hb : (x == y) = false := beq_eq_false_iff_ne.mpr e
      rw [List.lookup_cons, hb] at h
      exact ih h
def spVal (n : Nat) : Sp := fun vs H Q _ => ∃ (v : V) (d : Addr) (t : Tm) (E : VE) (W : List (Str × Nat)) (m : Nat), vs = [v, .ref d] ∧ At H t v ∧ deep t ≤ n ∧ Wt W t m ∧ Fits E W ∧ H d = some (.dK (ekv E)) ∧
  ∀ H', Evl.Ex H H' → Q (vw (ev E t)) H'
theorem is_ne_of : decide (V.str ("of" : Str) = V.str "is") = false := rfl
theorem ev_short {E : VE} {W : List (Str × Nat)} (f : Fits E W) {t : Tm} {m : Nat} (w : Wt W t m) : (ev E t).length ≤ 1000 := by
  rw [ev_len f w]
  have := (wt_le w).2
  omega
section
variable {P : Program} {w : World} {K : PySem.W.Frag} {mg : Str → Option Value} {base : Heap}
theorem ok_val0 (D : Df K mg "value_of_term" s_value_of_term) : Cl P w K mg base "value_of_term" 6 (spVal 0) := by
  obtain ⟨f, fd, F, m⟩ := D.ex
  have no : ∀ vs H Q E, ¬ spVal 0 vs H Q E := fun vs H Q E h => by
    obtain ⟨v, d, t, E, W, m, _, _, hd, _⟩ := h
    have := deep_pos t
    omega
  exact ⟨f, fd, ["term", "values"], ⟨fun vs H Q E h => absurd h (no vs H Q E), fun A outer s H args us vs Q E _ _ _ _ h => absurd h (no vs H Q E)⟩, m, F.kp, F.binds fun _ _ _ _ _ _ us hl => match us, hl with | [_, _], _ => rfl⟩
theorem ok_val1 {n : Nat} (D : Df K mg "value_of_term" s_value_of_term) (CR : Cl P w K mg base "read" 1 spRead) (CT : Cl P w K mg base "terms_in" 1 spTI) (CO : ClO P w K mg base 5) (CV : Cl P w K mg base "value_of_term" (6 + n) (spVal n)) :
    Cl P w K mg base "value_of_term" (6 + n + 1) (spVal (n + 1)) := by
  refine mk_cl D sc_value_of_term (fun _ _ _ _ _ _ us hl => match us, hl with | [_, _], _ => rfl) (fun vs H Q E h => ?_) (fun f cdv A outer s H vs Q E hr h => ?_)
  · obtain ⟨_, _, _, _, _, _, e, _⟩ := h
    rw [e]; rfl
  obtain ⟨v, d, t, Ev, W, mm, e, hAt, hdp, hw, hf, hd, q⟩ := h
  subst e
  have nd := sc_value_of_term.nd
  obtain ⟨fo, fdo, FO, mO, kpO, ⟨ds, dsv, bO⟩, kbO⟩ := CO.ex
  refine ⟨_, pss_cons (ps_asg (pv 0) (pg_star rfl (pgs_cons (pg_name (i := 2) nd rfl (Or.inl rfl)) (pgs_cons (pg_name (i := 3) nd rfl (Or.inl rfl)) (pgs_starred (pg_name (i := 4) nd rfl (Or.inl rfl)) pgs_nil)))))
    (pss_cons (ps_if (pt_cmpR op_eq (pv 2) pe_str (nomark _)) (pss_one (ps_ret (pv 3))) pss_nil)
    (pss_cons (ps_if (pt_cmpR op_eq (pv 2) pe_str (nomark _)) (pss_one (ps_ret (pe_cl CR hr (by omega) (pa_cons (pe_dget (hu_of hr) (pv 1) (pv 3) (fun _ _ => rfl)) pa_nil)))) pss_nil)
    (pss_cons (ps_setLc (i := 5) (own := [("one", 8)]) (g := gName 8) (tt := tYes) rfl nd rfl rfl (sw_true rfl rfl rfl (by decide +kernel)) (pi_list (pe_cl CT hr (by omega) (pa_cons (pv 0) pa_nil)))
        (blkOk_by (own := [("one", 8)]) (N := ["term", "values", "word", "first", "rest", "inner", "high", "low", "one"]) (sc := defScope s_value_of_term) (by decide +kernel))
        (fun _ _ _ _ _ => pg_name (i := 8) nd rfl (Or.inl rfl)) (fun _ _ _ _ _ => pts_nil) (fun _ _ _ _ _ => pe_cl CV hr (Nat.le_refl _) (pa_cons (pv 8) (pa_cons (pv 1) pa_nil))))
    (pss_cons (ps_if (pt_cmpR op_eq (pv 2) pe_str (nomark _)) (pss_cons (ps_asg (pv 4) (pg_unl rfl (pgs_cons (pg_name (i := 6) nd rfl (Or.inl rfl)) (pgs_cons (pg_name (i := 7) nd rfl (Or.inl rfl)) pgs_nil))))
        (pss_one (ps_ret (pe_callN FO (hr.mono (by omega)) rfl mO kpO kbO pass0 (pa_cons (pv 2) (pa_cons (pv 5) pa_nil)) (pk_cons (pv 7) (pk_cons (pv 6) pk_nil)))))) pss_nil)
    (pss_one (ps_ret (pe_call FO (hr.mono (by omega)) rfl mO kpO bO dsv pass0 (pa_cons (pv 2) (pa_cons (pv 5) pa_nil))))))))), ?_⟩
  cases hlf : leaf t with
  | true =>
    cases t with
    | is ws =>
      obtain ⟨a, ea, hA⟩ := hAt
      subst ea
      refine ⟨_, rfl, gstar2 (.inl (SqT.of hA)) fun p hp => ⟨_, _, rfl, _, _, rfl, _, _, rfl, rfl, ?_⟩⟩
      exact ⟨_, rfl, rfl, true, rfl, iteT ⟨_, rfl, q _ (Evl.Ex.new hp)⟩⟩
    | var x =>
      obtain ⟨a, ea, hA⟩ := hAt
      subst ea
      obtain ⟨l, el, hl⟩ := hf x mm hw.1
      refine ⟨_, rfl, gstar2 (.inl (SqT.of hA)) fun p hp => ⟨_, _, rfl, _, _, rfl, _, _, rfl, rfl, ?_⟩⟩
      have e1 := Evl.Ex.new (o := .lst []) hp
      refine ⟨_, rfl, rfl, false, rfl, iteF ⟨_, rfl, rfl, true, rfl, iteT ?_⟩⟩
      refine ⟨_, rfl, _, rfl, d, _, rfl, ?_, l, rfl, ?_, ?_⟩
      · rw [← val_ekv el]
        exact DGet.k (k := Sum.inr x) (e1 _ _ hd)
      · have := hw.2.2
        omega
      · have r := q _ e1
        have ee : ev Ev (.var x) = l.map rd := by
          show (look Ev x).map rd = _
          unfold look
          rw [el]
          rfl
        rw [ee] at r
        exact r
    | _ => cases hlf
  | false =>
    obtain ⟨a, us, ea, hA, hus⟩ := hAt.open_
    subst ea
    obtain ⟨s0, sr, es⟩ := subs_ne hlf
    obtain ⟨u0, ur, eu⟩ : ∃ u0 ur, us = u0 :: ur := by
      have := hus.1
      rw [es] at this
      cases us with
      | nil => cases this
      | cons u r => exact ⟨u, r, rfl⟩
    have hA2 : H a = some (.tup (.str (word t) :: u0 :: (ur ++ tail t))) := by rw [hA, eu]; rfl
    obtain ⟨w1, w2⟩ := word_is hlf
    refine ⟨_, rfl, gstar2 (.inl (SqT.of hA2)) fun p hp => ⟨_, _, rfl, _, _, rfl, _, _, rfl, rfl, ?_⟩⟩
    have e1 := Evl.Ex.new (o := .lst (ur ++ tail t)) hp
    refine ⟨_, rfl, rfl, false, congrArg V.bl w1, iteF ⟨_, rfl, rfl, false, congrArg V.bl w2, iteF ?_⟩⟩
    refine ⟨_, rfl, a, t, us, rfl, hlf, e1 _ _ hA, hus.1, fun H1 l e2 hl => ⟨l, rfl, ⟨_, SqL.of hl⟩, fun L hL => ?_⟩⟩
    have hlen : ((subs t).map fun s => vw (ev Ev s)).length = us.length := by rw [List.length_map, hus.1]
    have h3 : us.length ≤ 1000 := by
      rw [hus.1]
      cases t <;> (simp [subs])
    refine lc_vals (K := K) (ys := (subs t).map fun s => vw (ev Ev s)) hlen h3 (SqL.of hl) hL (fun _ => rfl) (fun i x y hx hy H2 e3 Q2 q2 => ?_) (fun H2 e3 hL2 => ?_)
    · rw [List.getElem?_map] at hy
      cases hs : (subs t)[i]? with
      | none => rw [hs] at hy; cases hy
      | some sb =>
        rw [hs] at hy
        cases hy
        have hm := List.mem_of_getElem? hs
        obtain ⟨m2, wm⟩ := wt_sub hw hm
        have dd := deep_sub hm
        exact ⟨_, rfl, _, rfl, x, d, sb, Ev, W, m2, rfl, (hus.2 i sb x hs hx).mono (Tk.of (e1.trans (e2.trans e3))), by omega, wm, hf, (e1.trans (e2.trans e3)) _ _ hd, q2⟩
    · have hop := op_of hf hw hlf
      have hmap : ((subs t).map fun s => vw (ev Ev s)) = ((subs t).map (ev Ev)).map vw := by rw [List.map_map]; rfl
      have hz : ∀ z ∈ (subs t).map (ev Ev), z.length ≤ 1000 := fun z hz => by
        obtain ⟨sb, hm, ez⟩ := List.mem_map.mp hz
        obtain ⟨m2, wm⟩ := wt_sub hw hm
        rw [← ez]
        exact ev_short hf wm
      have eall := e1.trans (e2.trans e3)
      rw [hmap] at hL2
      refine ⟨_, rfl, rfl, isPart t, congrArg V.bl (word_part t), ?_⟩
      cases hpt : isPart t with
      | true =>
        refine iteT ?_
        cases t with
        | part t1 hi lo =>
          have eur : ur = [] := by
            have := hus.1
            rw [eu] at this
            have h0 : ur.length = 0 := by
              have h1 : ur.length + 1 = 1 := this
              omega
            exact List.length_eq_zero_iff.mp h0
          subst eur
          have hp2 : H2 p = some (.lst [.int hi, .int lo]) := (e2.trans e3) _ _ upd_same
          refine ⟨_, rfl, p, _, rfl, SqL.of hp2, rfl, _, _, rfl, _, _, rfl, rfl, ?_⟩
          refine ⟨_, rfl, _, rfl, _, rfl, _, rfl, rfl, rfl, ?_⟩
          exact ⟨_, L, _, _, hi, lo, rfl, SqL.of hL2, hz, hop, fun H' e4 => q H' (eall.trans e4)⟩
        | _ => cases hpt
      | false =>
        have eb : bnds t = (0, 0) := by cases t <;> first | rfl | cases hpt
        rw [eb] at hop
        refine iteF ⟨_, rfl, _, rfl, ?_⟩
        exact ⟨_, L, _, _, 0, 0, rfl, SqL.of hL2, hz, hop, fun H' e4 => q H' (eall.trans e4)⟩
theorem ok_val (D : Df K mg "value_of_term" s_value_of_term) (CR : Cl P w K mg base "read" 1 spRead) (CT : Cl P w K mg base "terms_in" 1 spTI) (CO : ClO P w K mg base 5) : ∀ n, Cl P w K mg base "value_of_term" (6 + n) (spVal n)
  | 0 => ok_val0 D
  | n + 1 => ok_val1 D CR CT CO (ok_val D CR CT CO n)
end
end K24
/-! K24, part 13: the law's own bits -/
namespace K24
open PySem PySem.Spec PyProof.Rows L2
def spL1 (f : B → B) : Sp := fun vs H Q _ => ∃ a, vs = [vb a] ∧ ∀ H', Evl.Ex H H' → Q (vb (f a)) H'
def spL2 (f : B → B → B) : Sp := fun vs H Q _ => ∃ a b, vs = [vb a, vb b] ∧ ∀ H', Evl.Ex H H' → Q (vb (f a b)) H'
def spL3 (f : B → B → B → B) : Sp := fun vs H Q _ => ∃ a b c, vs = [vb a, vb b, vb c] ∧ ∀ H', Evl.Ex H H' → Q (vb (f a b c)) H'
section
variable {P : Program} {w : World} {K : PySem.W.Frag} {mg : Str → Option Value} {base : Heap}
theorem ok_turned (D : Df K mg "_law_turned" s_L_turned) : Cl P w K mg base "_law_turned" 1 (spL1 nt) := by
  refine mk_cl D sc_L_turned (fun _ _ _ _ _ _ us hl => match us, hl with | [_], _ => rfl) (fun vs H Q E h => ?_) (fun f cdv A outer s H vs Q E hr h => ?_)
  · obtain ⟨_, e, _⟩ := h
    rw [e]; rfl
  obtain ⟨a, e, q⟩ := h
  subst e
  refine ⟨_, pss_one (ps_ret (pe_dget2 (hu_of hr) (pe_disp (pps_cons pe_str pe_str (pps_cons pe_str pe_str pps_nil)) (by rfl) (by rfl) (fun z => by cases z) (by decide)) (pv 0) pe_str ⟨by rfl, by rfl, by rfl, by rfl⟩)), ?_⟩
  refine fun p hp => ⟨upd_same, [(Sum.inr "0", .str "1"), (Sum.inr "1", .str "0")], rfl, by decide, p, rfl, ?_, _, rfl, ?_⟩
  · exact .inl ⟨_, .inl upd_same⟩
  · rw [upd_upd]
    refine ⟨_, DGet.k (k := Sum.inr (S [a])) upd_same, ?_⟩
    have r := q _ (Evl.Ex.new (o := .dK (mergeK [] [(Sum.inr "0", .str "1"), (Sum.inr "1", .str "0")])) hp)
    cases a <;> exact r
theorem ok_both (D : Df K mg "_law_both" s_L_both) (T : Bi mg) : Cl P w K mg base "_law_both" 1 (spL2 an) := by
  refine mk_cl D sc_L_both (fun _ _ _ _ _ _ us hl => match us, hl with | [_, _], _ => rfl) (fun vs H Q E h => ?_) (fun f cdv A outer s H vs Q E hr h => ?_)
  · obtain ⟨_, _, e, _⟩ := h
    rw [e]; rfl
  obtain ⟨a, b, e, q⟩ := h
  subst e
  refine ⟨_, pss_cons (ps_if (pt_cmpR op_in_seq pe_str (pe_lst (pa_cons (pv 0) (pa_cons (pv 1) pa_nil))) rfl) (pss_one (ps_ret pe_str)) pss_nil)
    (pss_one (ps_ret (pe_ix ix_list (pe_lst (pa_cons pe_str (pa_cons pe_str pa_nil))) (pe_callTy call_int1 (by rfl) T.int PyProof.Rows.boot_int (pa_cons (pe_and (pe_cmpR op_eq (pv 0) pe_str (nomark _)) (pe_one (pe_cmpR op_eq (pv 1) pe_str (nomark _)))) pa_nil)) (fun _ _ => rfl)))), ?_⟩
  have z2 : (2 : Nat) ≤ sizeLine := by decide
  refine ⟨_, rfl, _, rfl, z2, fun p hp => ⟨p, _, rfl, .inl (SqL.of upd_same), rfl, rfl, ?_⟩⟩
  have e1 := Evl.Ex.new (o := .lst [vb a, vb b]) hp
  by_cases h0 : a = .o ∨ b = .o
  · have er : an a b = .o := by rcases h0 with h | h <;> subst h <;> first | rfl | (cases a <;> rfl)
    rw [er] at q
    refine ⟨true, ?_, iteT (q _ e1)⟩
    rcases h0 with h | h <;> subst h <;> first | rfl | (cases a <;> rfl) | (cases b <;> rfl)
  · refine ⟨false, ?_, iteF ?_⟩
    · cases a <;> cases b <;> first | rfl | exact absurd (.inl rfl) h0 | exact absurd (.inr rfl) h0
    · refine ⟨z2, fun p2 hp2 => ?_⟩
      have e2 := Evl.Ex.new (o := .lst [.str "x", .str "1"]) hp2
      have hp3 : upd (upd H p (.lst [vb a, vb b])) p2 (.lst [.str "x", .str "1"]) p2 = some (.lst [.str "x", .str "1"]) := upd_same
      have r := q _ (e1.trans e2)
      cases a <;> cases b
      case o.o | o.i | o.x => exact absurd (.inl rfl) h0
      case i.o | x.o => exact absurd (.inr rfl) h0
      case i.i => exact ⟨_, rfl, rfl, true, rfl, iteT ⟨_, rfl, rfl, .inr ⟨true, rfl, p2, _, 1, _, rfl, rfl, SqL.of hp3, atI_nat (j := 1) rfl, r⟩⟩⟩
      case i.x => exact ⟨_, rfl, rfl, true, rfl, iteT ⟨_, rfl, rfl, .inr ⟨false, rfl, p2, _, 0, _, rfl, rfl, SqL.of hp3, atI_nat (j := 0) rfl, r⟩⟩⟩
      case x.i | x.x => exact ⟨_, rfl, rfl, false, rfl, iteF (.inr ⟨false, rfl, p2, _, 0, _, rfl, rfl, SqL.of hp3, atI_nat (j := 0) rfl, r⟩)⟩
theorem ok_either (D : Df K mg "_law_either" s_L_either) (CT : Cl P w K mg base "_law_turned" 1 (spL1 nt)) (CB : Cl P w K mg base "_law_both" 1 (spL2 an)) : Cl P w K mg base "_law_either" 2 (spL2 orr) := by
  refine mk_cl D sc_L_either (fun _ _ _ _ _ _ us hl => match us, hl with | [_, _], _ => rfl) (fun vs H Q E h => ?_) (fun f cdv A outer s H vs Q E hr h => ?_)
  · obtain ⟨_, _, e, _⟩ := h
    rw [e]; rfl
  obtain ⟨a, b, e, q⟩ := h
  subst e
  exact ⟨_, pss_one (ps_ret (pe_cl CT hr (by decide) (pa_cons (pe_cl CB hr (by decide) (pa_cons (pe_cl CT hr (by decide) (pa_cons (pv 0) pa_nil)) (pa_cons (pe_cl CT hr (by decide) (pa_cons (pv 1) pa_nil)) pa_nil))) pa_nil))),
    ⟨_, rfl, a, rfl, fun H1 e1 => ⟨_, rfl, b, rfl, fun H2 e2 => ⟨nt a, nt b, rfl, fun H3 e3 => ⟨an (nt a) (nt b), rfl, fun H4 e4 => q H4 (e1.trans (e2.trans (e3.trans e4)))⟩⟩⟩⟩⟩
end
end K24
/-! K24, part 14: the law's own bits, further -/
namespace K24
open PySem PySem.Spec PyProof.Rows L2
def two (a b s : B) : Bool := decide (a = s) && decide (b = s)
def twice (a b c s : B) : Bool := two a b s || two b c s || two a c s
theorem cnt_ok (a b c s : B) : decide ((1 : Int) < (([S [a], S [b], S [c]].countP (· == S [s]) : Nat) : Int)) = twice a b c s := by
  cases a <;> cases b <;> cases c <;> cases s <;> rfl
theorem most_ok (a b c : B) : ((([B.o, B.i].filter (twice a b c)).map vb) ++ [V.str "x"])[0]? = some (vb (ms a b c)) := by
  cases a <;> cases b <;> cases c <;> rfl
section
variable {P : Program} {w : World} {K : PySem.W.Frag} {mg : Str → Option Value} {base : Heap}
theorem ok_unlike (D : Df K mg "_law_unlike" s_L_unlike) (T : Bi mg) : Cl P w K mg base "_law_unlike" 1 (spL2 xr) := by
  refine mk_cl D sc_L_unlike (fun _ _ _ _ _ _ us hl => match us, hl with | [_, _], _ => rfl) (fun vs H Q E h => ?_) (fun f cdv A outer s H vs Q E hr h => ?_)
  · obtain ⟨_, _, e, _⟩ := h
    rw [e]; rfl
  obtain ⟨a, b, e, q⟩ := h
  subst e
  refine ⟨_, pss_one (ps_ret (pe_ix ix_list (pe_lst (pa_cons pe_str (pa_cons (pe_callTy call_str_int (by rfl) T.str PyProof.Rows.boot_str (pa_cons (pe_callTy call_int1 (by rfl) T.int PyProof.Rows.boot_int (pa_cons (pe_cmpR op_ne (pv 0) (pv 1) (nomark _)) pa_nil)) pa_nil)) pa_nil)))
    (pe_callTy call_int1 (by rfl) T.int PyProof.Rows.boot_int (pa_cons (pe_cmpR op_notIn_seq pe_str (pe_lst (pa_cons (pv 0) (pa_cons (pv 1) pa_nil))) rfl) pa_nil)) (fun _ _ => rfl))), ?_⟩
  have z2 : (2 : Nat) ≤ sizeLine := by decide
  cases a <;> cases b
  case o.o | i.i => exact ⟨_, rfl, _, rfl, rfl, .inr ⟨false, rfl, _, rfl, by decide, z2, fun p2 hp2 => ⟨_, rfl, _, rfl, z2, fun p hp => ⟨p, _, rfl, .inl (SqL.of upd_same), rfl, rfl, .inr ⟨true, rfl, p2, _, 1, _, rfl, rfl, SqL.of ((Evl.Ex.new hp) _ _ upd_same), atI_nat (j := 1) rfl, q _ ((Evl.Ex.new hp2).trans (Evl.Ex.new hp))⟩⟩⟩⟩⟩
  case o.i | i.o => exact ⟨_, rfl, _, rfl, rfl, .inr ⟨true, rfl, _, rfl, by decide, z2, fun p2 hp2 => ⟨_, rfl, _, rfl, z2, fun p hp => ⟨p, _, rfl, .inl (SqL.of upd_same), rfl, rfl, .inr ⟨true, rfl, p2, _, 1, _, rfl, rfl, SqL.of ((Evl.Ex.new hp) _ _ upd_same), atI_nat (j := 1) rfl, q _ ((Evl.Ex.new hp2).trans (Evl.Ex.new hp))⟩⟩⟩⟩⟩
  case o.x | i.x | x.o | x.i => exact ⟨_, rfl, _, rfl, rfl, .inr ⟨true, rfl, _, rfl, by decide, z2, fun p2 hp2 => ⟨_, rfl, _, rfl, z2, fun p hp => ⟨p, _, rfl, .inl (SqL.of upd_same), rfl, rfl, .inr ⟨false, rfl, p2, _, 0, _, rfl, rfl, SqL.of ((Evl.Ex.new hp) _ _ upd_same), atI_nat (j := 0) rfl, q _ ((Evl.Ex.new hp2).trans (Evl.Ex.new hp))⟩⟩⟩⟩⟩
  case x.x => exact ⟨_, rfl, _, rfl, rfl, .inr ⟨false, rfl, _, rfl, by decide, z2, fun p2 hp2 => ⟨_, rfl, _, rfl, z2, fun p hp => ⟨p, _, rfl, .inl (SqL.of upd_same), rfl, rfl, .inr ⟨false, rfl, p2, _, 0, _, rfl, rfl, SqL.of ((Evl.Ex.new hp) _ _ upd_same), atI_nat (j := 0) rfl, q _ ((Evl.Ex.new hp2).trans (Evl.Ex.new hp))⟩⟩⟩⟩⟩
theorem ok_lmost (D : Df K mg "_law_most" s_L_most) : Cl P w K mg base "_law_most" 1 (spL3 ms) := by
  refine mk_cl D sc_L_most (fun _ _ _ _ _ _ us hl => match us, hl with | [_, _, _], _ => rfl) (fun vs H Q E h => ?_) (fun f cdv A outer s H vs Q E hr h => ?_)
  · obtain ⟨_, _, _, e, _⟩ := h
    rw [e]; rfl
  obtain ⟨a, b, c, e, q⟩ := h
  subst e
  have nd := sc_L_most.nd
  refine ⟨_, pss_cons (ps_setLc (i := 3) (own := [("_law_sign", 4)]) (g := gName 4) (tt := tTest (tOp (rI0 fun i j => .bl (decide (j < i))) (tBM K "list" (rCntS K) (tLst (tCons (tVar 0) (tCons (tVar 1) (tCons (tVar 2) tNil)))) (tCons (tVar 4) tNil)) (tC (.int 1)))) rfl nd rfl rfl (sw_true rfl rfl rfl (by decide +kernel)) (pi_str pe_str)
        (blkOk_by (own := [("_law_sign", 4)]) (N := ["_law_a", "_law_b", "_law_c", "_law_found", "_law_sign"]) (sc := defScope s_L_most) (by decide +kernel))
        (fun _ _ _ _ _ => pg_name (i := 4) nd rfl (Or.inl rfl)) (fun _ _ _ _ _ => pts_one (pt_cmpR op_gt (pe_bm PySem.F.plainAttrs_list PySem.F.slot_list_count PySem.F.type_list_count mt_countS (pe_lst (pa_cons (pv 0) (pa_cons (pv 1) (pa_cons (pv 2) pa_nil)))) (pa_cons (pv 4) pa_nil)) pe_int (nomark _)))
        (fun _ _ _ _ _ => pv 4))
    (pss_one (ps_ret (pe_ix ix_list (pe_op op_cat (pv 3) (pe_lst (pa_cons pe_str pa_nil))) pe_int (fun _ _ => rfl)))), ?_⟩
  have z1 : (1 : Nat) ≤ sizeLine := by decide
  have z3 : (3 : Nat) ≤ sizeLine := by decide
  have zz : ∀ n : Nat, ((([B.o, B.i].take n).filter (twice a b c)).map vb).length ≤ 2 := fun n => by
    rw [List.length_map]
    exact Nat.le_trans (List.length_filter_le _ _) (by rw [List.length_take]; exact Nat.min_le_right _ _)
  refine ⟨S [.o, .i], rfl, fun L hL => ?_⟩
  refine lc_it walk_str (fun n H' => H L = none ∧ Evl.Ex H H' ∧ H' L = some (.lst ((([B.o, B.i].take n).filter (twice a b c)).map vb))) ⟨hL, Evl.Ex.new hL, upd_same⟩ (fun _ _ _ _ => trivial) (fun n x H1 H2 hlt p y => ?_) (fun H1 p => ?_)
  · obtain ⟨p0, p1, p2⟩ := p
    obtain ⟨e1, c', ec, ex⟩ := y
    subst e1 ex
    obtain ⟨u, hu, e3⟩ := S_at ec
    subst e3
    refine ⟨rfl, ?_⟩
    refine ⟨_, rfl, _, rfl, _, rfl, z3, fun p3 hp3 => ⟨.inl ⟨rfl, _, SqL.of upd_same⟩, _, rfl, p3, [S [a], S [b], S [c]], S [u], rfl, rfl, SqL.of upd_same, _, _, rfl, rfl, _, rfl, ?_⟩⟩
    have e4 := Evl.Ex.new (o := .lst [vb a, vb b, vb c]) hp3
    have step : (([B.o, B.i].take (n + 1)).filter (twice a b c)).map vb = (([B.o, B.i].take n).filter (twice a b c)).map vb ++ (if twice a b c u then [vb u] else []) := by
      rw [List.take_add_one, hu, List.filter_append, List.map_append]
      congr 1
      show (List.filter (twice a b c) [u]).map vb = _
      rw [List.filter_cons]
      cases twice a b c u <;> rfl
    rw [cnt_ok]
    cases ht : twice a b c u with
    | true =>
      rw [ht] at step
      refine iteT ⟨_, rfl, _, e4 _ _ p2, Nat.lt_of_le_of_lt (zz n) (by decide), p0, (Evl.Ex.mut (p1.trans e4) p0), ?_⟩
      rw [upd_same, step]
      rfl
    | false =>
      rw [ht] at step
      refine iteF ⟨p0, p1.trans e4, ?_⟩
      rw [step, e4 _ _ p2]
      show _ = some (HO.lst (_ ++ []))
      rw [List.append_nil]
  · obtain ⟨p0, p1, p2⟩ := p
    have e2 : H1 L = some (.lst (([B.o, B.i].filter (twice a b c)).map vb)) := p2
    refine ⟨_, rfl, z1, fun p3 hp3 => ⟨L, p3, _, _, rfl, rfl, (Evl.Ex.new hp3) _ _ e2, upd_same, ?_, fun p4 hp4 => ?_⟩⟩
    · exact Nat.le_trans (Nat.add_le_add (zz 2) (Nat.le_refl 1)) (by decide)
    · exact ⟨p4, _, 0, _, rfl, rfl, SqL.of upd_same, atI_nat (j := 0) (most_ok a b c), q _ (p1.trans ((Evl.Ex.new hp3).trans (Evl.Ex.new hp4)))⟩
end
end K24
/-! K24, part 15: the law's own bits along texts -/
namespace K24
open PySem PySem.Spec PyProof.Rows L2
inductive AW where
  | bin (o : Bin) | less
def AW.w : AW → Str
  | .bin o => o.w | .less => "less"
def AW.f : AW → List B → List B → List B
  | .bin o, a, b => o.f a b | .less, a, b => [lessB a b]
def AW.st : AW → List B × B → B × B → List B × B
  | .bin .an, q, p => (K24.an p.1 p.2 :: q.1, q.2)
  | .bin .orr, q, p => (K24.orr p.1 p.2 :: q.1, q.2)
  | .bin .xr, q, p => (K24.xr p.1 p.2 :: q.1, q.2)
  | .bin .plus, q, p => plusS q p
  | .less, q, p => (q.1, lessS q.2 p)
theorem zip_fold (f : B → B → B) : ∀ (ps : List (B × B)) (q : List B × B), (ps.foldl (fun q p => (f p.1 p.2 :: q.1, q.2)) q) = ((ps.map fun p => f p.1 p.2).reverse ++ q.1, q.2)
  | [], q => rfl
  | p :: ps, q => by
    rw [List.foldl_cons, zip_fold f ps, List.map_cons, List.reverse_cons, List.append_assoc]
    rfl
theorem zip_prs (f : B → B → B) {a b : List B} (h : a.length = b.length) : ((prs a b).map fun p => f p.1 p.2).reverse = a.zipWith f b := by
  unfold prs
  have e : ((a.reverse.zip b.reverse).map fun p => f p.1 p.2) = a.reverse.zipWith f b.reverse := by
    rw [List.zip, List.map_zipWith]
  rw [e, ← List.reverse_zipWith h, List.reverse_reverse]
theorem less_fold : ∀ (ps : List (B × B)) (q : List B × B), ps.foldl AW.less.st q = (q.1, ps.foldl lessS q.2)
  | [], q => rfl
  | p :: ps, q => by
    rw [List.foldl_cons, less_fold ps]
    rfl
theorem st_len (o : AW) (ps : List (B × B)) (q : List B × B) : (ps.foldl o.st q).1.length ≤ q.1.length + ps.length := by
  induction ps generalizing q with
  | nil => exact Nat.le_refl _
  | cons p r ih =>
    rw [List.foldl_cons]
    refine Nat.le_trans (ih _) ?_
    rw [List.length_cons]
    have : (o.st q p).1.length ≤ q.1.length + 1 := by
      cases o with
      | less => exact Nat.le_succ _
      | bin o => cases o <;> exact Nat.le_refl _
    omega
theorem bin_end (o : Bin) {a b : List B} (h : a.length = b.length) : ((prs a b).foldl (AW.bin o).st ([], .o)).1 = o.f a b := by
  cases o with
  | plus => rfl
  | an =>
    show ((prs a b).foldl (fun q p => (K24.an p.1 p.2 :: q.1, q.2)) ([], B.o)).1 = _
    rw [zip_fold, zip_prs _ h, List.append_nil]; rfl
  | orr =>
    show ((prs a b).foldl (fun q p => (K24.orr p.1 p.2 :: q.1, q.2)) ([], B.o)).1 = _
    rw [zip_fold, zip_prs _ h, List.append_nil]; rfl
  | xr =>
    show ((prs a b).foldl (fun q p => (K24.xr p.1 p.2 :: q.1, q.2)) ([], B.o)).1 = _
    rw [zip_fold, zip_prs _ h, List.append_nil]; rfl
theorem at_down {a : List B} {i : Nat} {u : B} (h : a.reverse[i]? = some u) : atI (S a).cps.toList ((a.length : Int) - 1 + (i : Nat) * (-1)) = some u.c := by
  have hi : i < a.length := by
    have := (List.getElem?_eq_some_iff.mp h).1
    rwa [List.length_reverse] at this
  have e : (a.length : Int) - 1 + (i : Nat) * (-1) = ((a.length - 1 - i : Nat) : Int) := by omega
  rw [e]
  refine atI_nat ?_
  rw [S_tl, List.getElem?_map, ← List.getElem?_reverse hi, h]
  rfl
def spAl : Sp := fun vs H Q _ => ∃ (o : AW) (a b : List B), vs = [.str o.w, vw a, vw b] ∧ a.length = b.length ∧ a.length ≤ 1000 ∧ ∀ H', Evl.Ex H H' → Q (vw (o.f a b)) H'
section
variable {P : Program} {w : World} {K : PySem.W.Frag} {mg : Str → Option Value} {base : Heap}
theorem ok_along (D : Df K mg "_law_along_bits" s_L_along_bits) (T : Bi mg) (CT : Cl P w K mg base "_law_turned" 1 (spL1 nt)) (CB : Cl P w K mg base "_law_both" 1 (spL2 an)) (CE : Cl P w K mg base "_law_either" 2 (spL2 orr)) (CU : Cl P w K mg base "_law_unlike" 1 (spL2 xr)) (CM : Cl P w K mg base "_law_most" 1 (spL3 ms)) :
    Cl P w K mg base "_law_along_bits" 3 spAl := by
  refine mk_cl D sc_L_along_bits (fun _ _ _ _ _ _ us hl => match us, hl with | [_, _, _], _ => rfl) (fun vs H Q E h => ?_) (fun f cdv A outer s H vs Q E hr h => ?_)
  · obtain ⟨_, _, _, e, _⟩ := h
    rw [e]; rfl
  obtain ⟨o, a, b, e, hl, h8, q⟩ := h
  subst e
  have nd := sc_L_along_bits.nd
  refine ⟨_, pss_cons (ps_set (i := 3) nd rfl (Or.inl rfl) pe_str) (pss_cons (ps_set (i := 4) nd rfl (Or.inl rfl) pe_str)
    (pss_cons (ps_for PassesOwn.never rfl (pi_range3 rfl T.range (pa_cons (pe_op op_sub (pe_callB call_len_str (by rfl) T.len PySem.boot_len (pa_cons (pv 1) pa_nil)) pe_int) (pa_cons (pe_un un_neg pe_int) (pa_cons (pe_un un_neg pe_int) pa_nil)))) (pg_name (i := 5) nd rfl (Or.inl rfl))
      (pss_one (ps_if (pt_cmpR op_eq (pv 0) pe_str (nomark _)) (pss_one (ps_set (i := 3) nd rfl (Or.inl rfl) (pe_op op_add_str (pe_cl CB hr (by decide) (pa_cons (pe_ix ix_str (pv 1) (pv 5) (fun _ _ => rfl)) (pa_cons (pe_ix ix_str (pv 2) (pv 5) (fun _ _ => rfl)) pa_nil))) (pv 3))))
      (pss_one (ps_if (pt_cmpR op_eq (pv 0) pe_str (nomark _)) (pss_one (ps_set (i := 3) nd rfl (Or.inl rfl) (pe_op op_add_str (pe_cl CE hr (by decide) (pa_cons (pe_ix ix_str (pv 1) (pv 5) (fun _ _ => rfl)) (pa_cons (pe_ix ix_str (pv 2) (pv 5) (fun _ _ => rfl)) pa_nil))) (pv 3))))
      (pss_one (ps_if (pt_cmpR op_eq (pv 0) pe_str (nomark _)) (pss_one (ps_set (i := 3) nd rfl (Or.inl rfl) (pe_op op_add_str (pe_cl CU hr (by decide) (pa_cons (pe_ix ix_str (pv 1) (pv 5) (fun _ _ => rfl)) (pa_cons (pe_ix ix_str (pv 2) (pv 5) (fun _ _ => rfl)) pa_nil))) (pv 3))))
      (pss_one (ps_if (pt_cmpR op_eq (pv 0) pe_str (nomark _)) (pss_cons (ps_set (i := 3) nd rfl (Or.inl rfl) (pe_op op_add_str (pe_cl CU hr (by decide) (pa_cons (pe_cl CU hr (by decide) (pa_cons (pe_ix ix_str (pv 1) (pv 5) (fun _ _ => rfl)) (pa_cons (pe_ix ix_str (pv 2) (pv 5) (fun _ _ => rfl)) pa_nil))) (pa_cons (pv 4) pa_nil))) (pv 3)))
          (pss_one (ps_set (i := 4) nd rfl (Or.inl rfl) (pe_cl CM hr (by decide) (pa_cons (pe_ix ix_str (pv 1) (pv 5) (fun _ _ => rfl)) (pa_cons (pe_ix ix_str (pv 2) (pv 5) (fun _ _ => rfl)) (pa_cons (pv 4) pa_nil)))))))
      (pss_one (ps_if (pt_cmpR op_eq (pv 0) pe_str (nomark _)) (pss_one (ps_set (i := 4) nd rfl (Or.inl rfl) (pe_cl CM hr (by decide) (pa_cons (pe_cl CT hr (by decide) (pa_cons (pe_ix ix_str (pv 1) (pv 5) (fun _ _ => rfl)) pa_nil)) (pa_cons (pe_ix ix_str (pv 2) (pv 5) (fun _ _ => rfl)) (pa_cons (pv 4) pa_nil))))))
        pss_nil)))))))))))
    (pss_one (ps_ret (pe_ix ix_list (pe_lst (pa_cons (pv 3) (pa_cons (pv 4) pa_nil))) (pe_callTy call_int1 (by rfl) T.int PyProof.Rows.boot_int (pa_cons (pe_cmpR op_eq (pv 0) pe_str (nomark _)) pa_nil)) (fun _ _ => rfl)))))), ?_⟩
  have z2 : (2 : Nat) ≤ sizeLine := by decide
  refine ⟨_, rfl, S a, rfl, S_sz h8, _, _, rfl, rfl, 1, rfl, 1, rfl, ((S a).length : Int) - 1, -1, -1, _, rfl, RgC.neg (by rw [S_len]; omega) (by rw [S_len]; omega) (by decide) (by decide), ?_⟩
  have hn : (((S a).length : Int) - 1 - (-1)).toNat = a.length := by rw [S_len]; omega
  rw [hn, S_len]
  refine for_it walk_rangeC (fun n σ H' => ∃ y5, σ = [some (.str o.w), some (vw a), some (vw b), some (vw (((prs a b).take n).foldl o.st ([], .o)).1), some (vb (((prs a b).take n).foldl o.st ([], .o)).2), y5] ∧ Evl.Ex H H')
    ⟨none, rfl, Evl.Ex.refl H⟩ (fun _ _ _ _ _ => trivial) (fun n x σ H1 H2 hlt p y => ?_) (fun σ H1 p => ?_)
  · obtain ⟨y5, e, ex⟩ := p
    obtain ⟨e1, e2⟩ := y
    subst e e1 e2
    obtain ⟨u, hu⟩ : ∃ u, a.reverse[n]? = some u := ⟨_, List.getElem?_eq_getElem (by rw [List.length_reverse]; exact hlt)⟩
    obtain ⟨v, hv⟩ : ∃ v, b.reverse[n]? = some v := ⟨_, List.getElem?_eq_getElem (by rw [List.length_reverse]; omega)⟩
    have hk := fold_next (f := o.st) (b0 := (([], .o) : List B × B)) (prs_at hu hv)
    have hc := at_down hu
    have hd := at_down hv
    rw [← hl] at hd
    have hz : (((prs a b).take n).foldl o.st ([], .o)).1.length ≤ 1000 := by
      refine Nat.le_trans (st_len o _ _) ?_
      rw [List.length_take]
      show 0 + _ ≤ _
      omega
    rw [hk]
    generalize ((prs a b).take n).foldl o.st ([], .o) = qq at hz ⊢
    obtain ⟨q1, q2⟩ := qq
    have hz1 : ∀ g : B, (S [g]).length + (S q1).length ≤ sizeLine := fun g => by
      rw [S_len, S_len]
      exact Nat.le_trans (Nat.add_le_add (Nat.le_refl 1) hz) (by decide)
    have ia : tOp rIxS (tVar 1) (tVar 5) = tOp rIxS (tVar 1) (tVar 5) := rfl
    cases o with
    | bin o =>
      cases o with
      | an =>
        refine ⟨_, rfl, rfl, true, rfl, iteT ?_⟩
        refine ⟨_, rfl, _, rfl, S a, _, _, rfl, rfl, S_sz h8, hc, _, rfl, _, rfl, S b, _, _, rfl, rfl, S_sz (by omega), hd, u, v, rfl, fun H3 e3 => ⟨_, rfl, _, _, rfl, rfl, hz1 _, ?_⟩⟩
        exact ⟨_, by rw [S_cons]; rfl, ex.trans e3⟩
      | orr =>
        refine ⟨_, rfl, rfl, false, rfl, iteF ⟨_, rfl, rfl, true, rfl, iteT ?_⟩⟩
        refine ⟨_, rfl, _, rfl, S a, _, _, rfl, rfl, S_sz h8, hc, _, rfl, _, rfl, S b, _, _, rfl, rfl, S_sz (by omega), hd, u, v, rfl, fun H3 e3 => ⟨_, rfl, _, _, rfl, rfl, hz1 _, ?_⟩⟩
        exact ⟨_, by rw [S_cons]; rfl, ex.trans e3⟩
      | xr =>
        refine ⟨_, rfl, rfl, false, rfl, iteF ⟨_, rfl, rfl, false, rfl, iteF ⟨_, rfl, rfl, true, rfl, iteT ?_⟩⟩⟩
        refine ⟨_, rfl, _, rfl, S a, _, _, rfl, rfl, S_sz h8, hc, _, rfl, _, rfl, S b, _, _, rfl, rfl, S_sz (by omega), hd, u, v, rfl, fun H3 e3 => ⟨_, rfl, _, _, rfl, rfl, hz1 _, ?_⟩⟩
        exact ⟨_, by rw [S_cons]; rfl, ex.trans e3⟩
      | plus =>
        refine ⟨_, rfl, rfl, false, rfl, iteF ⟨_, rfl, rfl, false, rfl, iteF ⟨_, rfl, rfl, false, rfl, iteF ⟨_, rfl, rfl, true, rfl, iteT ?_⟩⟩⟩⟩
        refine ⟨_, rfl, _, rfl, S a, _, _, rfl, rfl, S_sz h8, hc, _, rfl, _, rfl, S b, _, _, rfl, rfl, S_sz (by omega), hd, u, v, rfl, fun H3 e3 => ⟨_, rfl, _, _, rfl, fun H4 e4 => ⟨_, rfl, _, _, rfl, rfl, hz1 _, ?_⟩⟩⟩
        refine ⟨_, rfl, _, rfl, S a, _, _, rfl, rfl, S_sz h8, hc, _, rfl, _, rfl, S b, _, _, rfl, rfl, S_sz (by omega), hd, _, rfl, u, v, _, rfl, fun H5 e5 => ?_⟩
        exact ⟨_, by rw [S_cons]; rfl, ex.trans (e3.trans (e4.trans e5))⟩
    | less =>
      refine ⟨_, rfl, rfl, false, rfl, iteF ⟨_, rfl, rfl, false, rfl, iteF ⟨_, rfl, rfl, false, rfl, iteF ⟨_, rfl, rfl, false, rfl, iteF ⟨_, rfl, rfl, true, rfl, iteT ?_⟩⟩⟩⟩⟩
      refine ⟨_, rfl, _, rfl, S a, _, _, rfl, rfl, S_sz h8, hc, u, rfl, fun H3 e3 => ⟨_, rfl, _, rfl, S b, _, _, rfl, rfl, S_sz (by omega), hd, _, rfl, nt u, v, _, rfl, fun H5 e5 => ?_⟩⟩
      exact ⟨_, rfl, ex.trans (e3.trans e5)⟩
  · obtain ⟨y5, e, ex⟩ := p
    subst e
    rw [List.take_of_length_le (by rw [prs_len hl]; omega)]
    refine ⟨_, rfl, _, rfl, z2, fun p2 hp2 => ⟨_, rfl, rfl, ?_⟩⟩
    have e2 := ex.trans (Evl.Ex.new (o := .lst [vw ((prs a b).foldl o.st ([], .o)).1, vb ((prs a b).foldl o.st ([], .o)).2]) hp2)
    have r := q _ e2
    cases o with
    | bin o =>
      have hw : (fun w : Str => decide (V.str w = V.str "less")) (AW.bin o).w = false := by cases o <;> rfl
      refine .inr ⟨false, congrArg (fun z => [V.bl z]) hw, p2, _, 0, _, rfl, rfl, SqL.of upd_same, atI_nat (j := 0) rfl, ?_⟩
      rw [show AW.f (.bin o) a b = o.f a b from rfl, ← bin_end o hl] at r
      exact r
    | less =>
      refine .inr ⟨true, rfl, p2, _, 1, _, rfl, rfl, SqL.of upd_same, atI_nat (j := 1) rfl, ?_⟩
      have el : ((prs a b).foldl AW.less.st ([], .o)).2 = lessB a b := by rw [less_fold]; rfl
      rw [show AW.f .less a b = [lessB a b] from rfl, ← el] at r
      exact r
end
end K24
/-! K24, part 16: the law's own operators -/
namespace K24
open PySem PySem.Spec PyProof.Rows L2
theorem lc_bitsE {u : List B} (h8 : u.length ≤ 1000) {σ : L2.St} {vs : List Nat} {i : Nat} {te : TE} {f : B → B} {H1 : Hp} {D : Addr} {Qd : Hp → Prop} (hD : H1 D = none)
    (hw : ∀ x, wipe ((wipe σ vs).set i (some x)) vs = wipe σ vs)
    (he : ∀ (a : B) (H : Hp) (Q : VK), (∀ H', Evl.Ex H H' → Q (vb (f a)) H') → te ((wipe σ vs).set i (some (vb a))) H Q)
    (hq : ∀ H', Evl.Ex H1 H' → H' D = some (.lst ((u.map f).map vb)) → Qd H') :
    ∃ W : Nat → Nat → Hp → Prop, (∃ m, W 0 m (upd H1 D (.lst []))) ∧ ∀ n m H, W n m H →
      ((Its (S u)).stop n H ∧ Qd H) ∨ ((Its (S u)).go n H ∧ ∃ Nx : Hp → Prop, (∀ H', Nx H' → ∃ m', m' < m ∧ W (n + 1) m' H') ∧ ∀ x H', (Its (S u)).yld n H x H' → gName i x (wipe σ vs) H' fun σ2 H2 => wipe σ2 vs = wipe σ vs ∧ tYes σ2 H2 fun b H3 =>
        if b = true then te σ2 H3 fun y H4 => ∃ acc, H4 D = some (.lst acc) ∧ acc.length < sizeLine ∧ Nx (upd H4 D (.lst (acc ++ [y]))) else Nx H3) := by
  refine lc_it walk_str (fun n H => H1 D = none ∧ Evl.Ex H1 H ∧ H D = some (.lst (((u.map f).take n).map vb))) ⟨hD, Evl.Ex.new hD, upd_same⟩ (fun _ _ _ _ => trivial) (fun n x H H' hlt p y => ?_) (fun H p => ?_)
  · obtain ⟨p0, p1, p2⟩ := p
    obtain ⟨e2, c, ec, e1⟩ := y
    subst e1 e2
    obtain ⟨a, ha, e3⟩ := S_at ec
    subst e3
    refine ⟨hw _, ?_⟩
    refine he a H' _ fun H2 e2 => ?_
    have hz : (u.map f)[n]? = some (f a) := by rw [List.getElem?_map, ha]; rfl
    refine ⟨_, e2 _ _ p2, ?_, p0, Evl.Ex.mut (p1.trans e2) p0, ?_⟩
    · rw [List.length_map, List.length_take]
      have : n < u.length := by rw [S_size] at hlt; exact hlt
      exact Nat.lt_of_le_of_lt (Nat.min_le_left _ _) (Nat.lt_trans this (Nat.lt_of_le_of_lt h8 (by decide)))
    · rw [upd_same, List.take_add_one, hz, List.map_append]
      rfl
  · obtain ⟨p0, p1, p2⟩ := p
    rw [S_size, List.take_of_length_le (by rw [List.length_map]; omega)] at p2
    exact hq H p1 p2
theorem lc_pairs {K : PySem.W.Frag} {u v : List B} (hl : u.length = v.length) (h8 : u.length ≤ 1000) {p : Addr} {ts : List Addr} {σ : L2.St} {vs : List Nat} {i j : Nat} {te : TE} {f : B → B → B} {H1 : Hp} {D : Addr} {Qd : Hp → Prop} (hD : H1 D = none)
    (hp : SqL K H1 p (ts.map V.ref)) (ht : ts.length = u.length) (hps : Pairs (S u) (S v) H1 ts)
    (hw : ∀ x y, wipe (((wipe σ vs).set i (some x)).set j (some y)) vs = wipe σ vs)
    (he : ∀ (a b : B) (H : Hp) (Q : VK), (∀ H', Evl.Ex H H' → Q (vb (f a b)) H') → te (((wipe σ vs).set i (some (vb a))).set j (some (vb b))) H Q)
    (hq : ∀ H', Evl.Ex H1 H' → H' D = some (.lst ((u.zipWith f v).map vb)) → Qd H') :
    ∃ W : Nat → Nat → Hp → Prop, (∃ m, W 0 m (upd H1 D (.lst []))) ∧ ∀ n m H, W n m H →
      ((Itl K p).stop n H ∧ Qd H) ∨ ((Itl K p).go n H ∧ ∃ Nx : Hp → Prop, (∀ H', Nx H' → ∃ m', m' < m ∧ W (n + 1) m' H') ∧ ∀ x H', (Itl K p).yld n H x H' → gTup K 2 (gCons (gName i) (gCons (gName j) gNil)) x (wipe σ vs) H' fun σ2 H2 => wipe σ2 vs = wipe σ vs ∧ tYes σ2 H2 fun b H3 =>
        if b = true then te σ2 H3 fun y H4 => ∃ acc, H4 D = some (.lst acc) ∧ acc.length < sizeLine ∧ Nx (upd H4 D (.lst (acc ++ [y]))) else Nx H3) := by
  have hn : (ts.map V.ref).length = u.length := by rw [List.length_map, ht]
  refine lc_it walk_list (fun n H => H1 D = none ∧ Evl.Ex H1 H ∧ H D = some (.lst (((u.zipWith f v).take n).map vb))) ⟨hD, Evl.Ex.new hD, upd_same⟩ (fun n H _ q => Evl.ex_l q.2.1 hp) (fun n x H H' hlt q y => ?_) (fun H q => ?_)
  · obtain ⟨p0, p1, p2⟩ := q
    obtain ⟨e2, ex⟩ := y
    subst e2
    rw [hn] at hlt
    have hlv : n < v.length := by omega
    obtain ⟨a, ha⟩ : ∃ a, u[n]? = some a := ⟨_, List.getElem?_eq_getElem hlt⟩
    obtain ⟨b, hb⟩ : ∃ b, v[n]? = some b := ⟨_, List.getElem?_eq_getElem hlv⟩
    obtain ⟨t, htn⟩ : ∃ t, ts[n]? = some t := ⟨_, List.getElem?_eq_getElem (by omega)⟩
    rw [List.getElem?_map, htn] at ex
    cases ex
    have sa : (S u).cps[n]? = some a.c := by
      show ((u.map B.c).toArray)[n]? = _
      rw [List.getElem?_toArray, List.getElem?_map, ha]; rfl
    have sb : (S v).cps[n]? = some b.c := by
      show ((v.map B.c).toArray)[n]? = _
      rw [List.getElem?_toArray, List.getElem?_map, hb]; rfl
    refine ⟨t, [vb a, vb b], rfl, SqT.of (p1 _ _ (hps n t a.c b.c htn sa sb)), rfl, _, _, rfl, _, _, rfl, rfl, hw _ _, ?_⟩
    refine he a b H' _ fun H2 e2 => ?_
    have hz : (u.zipWith f v)[n]? = some (f a b) := by rw [List.getElem?_zipWith, ha, hb]
    refine ⟨_, e2 _ _ p2, ?_, p0, Evl.Ex.mut (p1.trans e2) p0, ?_⟩
    · rw [List.length_map, List.length_take]
      exact Nat.lt_of_le_of_lt (Nat.min_le_left _ _) (Nat.lt_trans hlt (Nat.lt_of_le_of_lt h8 (by decide)))
    · rw [upd_same, List.take_add_one, hz, List.map_append]
      rfl
  · obtain ⟨p0, p1, p2⟩ := q
    rw [hn, List.take_of_length_le (by rw [List.length_zipWith]; omega)] at p2
    exact hq H p1 p2
def spOv : Sp := fun vs H Q _ => ∃ (u : Uno) (a : List B), vs = [.str u.w, vw a] ∧ a.length ≤ 1000 ∧ ∀ H', Evl.Ex H H' → Q (vb (u.f a)) H'
def spLO (K : PySem.W.Frag) : Sp := fun vs H Q _ => ∃ (wd : Str) (l : Addr) (ws : List (List B)) (r : List B), vs = [.str wd, .ref l] ∧ SqL K H l (ws.map vw) ∧ (∀ a ∈ ws, a.length ≤ 1000) ∧ Op wd ws 0 0 r ∧ wd ≠ "part" ∧ ∀ H', Evl.Ex H H' → Q (vw r) H'
section
variable {P : Program} {w : World} {K : PySem.W.Frag} {mg : Str → Option Value} {base : Heap}
theorem ok_over (D : Df K mg "_law_over" s_L_over) (CB : Cl P w K mg base "_law_both" 1 (spL2 an)) (CE : Cl P w K mg base "_law_either" 2 (spL2 orr)) : Cl P w K mg base "_law_over" 3 spOv := by
  refine mk_cl D sc_L_over (fun _ _ _ _ _ _ us hl => match us, hl with | [_, _], _ => rfl) (fun vs H Q E h => ?_) (fun f cdv A outer s H vs Q E hr h => ?_)
  · obtain ⟨_, _, e, _⟩ := h
    rw [e]; rfl
  obtain ⟨o, a, e, h8, q⟩ := h
  subst e
  have nd := sc_L_over.nd
  refine ⟨_, pss_cons (ps_set (i := 2) nd rfl (Or.inl rfl) (pe_dget (hu_of hr) (pe_disp (pps_cons pe_str pe_str (pps_cons pe_str pe_str pps_nil)) (by rfl) (by rfl) (fun z => by cases z) (by decide)) (pv 0) (fun _ _ => rfl)))
    (pss_cons (ps_for PassesOwn.never rfl (pi_str (pv 1)) (pg_name (i := 3) nd rfl (Or.inl rfl))
      (pss_one (ps_set (i := 2) nd rfl (Or.inl rfl) (pe_ifExp (pt_cmpR op_eq (pv 0) pe_str (nomark _)) (pe_cl CE hr (by decide) (pa_cons (pv 2) (pa_cons (pv 3) pa_nil))) (pe_cl CB hr (by decide) (pa_cons (pv 2) (pa_cons (pv 3) pa_nil)))))))
    (pss_one (ps_ret (pv 2)))), ?_⟩
  refine fun p hp => ⟨upd_same, [(Sum.inr "any", .str "0"), (Sum.inr "all", .str "1")], rfl, by decide, _, rfl, ?_⟩
  rw [upd_upd]
  have e1 : Evl.Ex H (upd H p (.dK (mergeK [] [(Sum.inr "any", .str "0"), (Sum.inr "all", .str "1")]))) := Evl.Ex.new hp
  cases o with
  | any =>
    refine ⟨p, _, rfl, DGet.k (k := Sum.inr "any") upd_same, ?_⟩
    refine ⟨_, rfl, S a, rfl, ?_⟩
    refine for_it walk_str (fun n σ H' => ∃ y, σ = [some (.str "any"), some (vw a), some (vb ((a.take n).foldl orr .o)), y] ∧ Evl.Ex H H') ⟨none, rfl, e1⟩ (fun _ _ _ _ _ => trivial) (fun n x σ H1 H2 hlt p y => ?_) (fun σ H1 p => ?_)
    · obtain ⟨y1, e, e2⟩ := p
      obtain ⟨e3, c, ec, ex⟩ := y
      subst e e3 ex
      obtain ⟨u, hu, e4⟩ := S_at ec
      subst e4
      refine ⟨_, rfl, rfl, true, rfl, iteT ⟨_, rfl, _, rfl, _, u, rfl, fun H3 e3 => ⟨some (vb u), ?_, e2.trans e3⟩⟩⟩
      rw [fold_next hu]
      rfl
    · obtain ⟨y1, e, e2⟩ := p
      subst e
      refine ⟨_, rfl, ?_⟩
      rw [S_size, List.take_length]
      exact q _ e2
  | all =>
    refine ⟨p, _, rfl, DGet.k (k := Sum.inr "all") upd_same, ?_⟩
    refine ⟨_, rfl, S a, rfl, ?_⟩
    refine for_it walk_str (fun n σ H' => ∃ y, σ = [some (.str "all"), some (vw a), some (vb ((a.take n).foldl an .i)), y] ∧ Evl.Ex H H') ⟨none, rfl, e1⟩ (fun _ _ _ _ _ => trivial) (fun n x σ H1 H2 hlt p y => ?_) (fun σ H1 p => ?_)
    · obtain ⟨y1, e, e2⟩ := p
      obtain ⟨e3, c, ec, ex⟩ := y
      subst e e3 ex
      obtain ⟨u, hu, e4⟩ := S_at ec
      subst e4
      refine ⟨_, rfl, rfl, false, rfl, iteF ⟨_, rfl, _, rfl, _, u, rfl, fun H3 e3 => ⟨some (vb u), ?_, e2.trans e3⟩⟩⟩
      rw [fold_next hu]
      rfl
    · obtain ⟨y1, e, e2⟩ := p
      subst e
      refine ⟨_, rfl, ?_⟩
      rw [S_size, List.take_length]
      exact q _ e2
theorem ok_loper (D : Df K mg "_law_operated" s_L_operated) (T : Bi mg) (CT : Cl P w K mg base "_law_turned" 1 (spL1 nt)) (CO : Cl P w K mg base "_law_over" 3 spOv) (CA : Cl P w K mg base "_law_along_bits" 3 spAl) : Cl P w K mg base "_law_operated" 4 (spLO K) := by
  refine mk_cl D sc_L_operated (fun _ _ _ _ _ _ us hl => match us, hl with | [_, _], _ => rfl) (fun vs H Q E h => ?_) (fun f cdv A outer s H vs Q E hr h => ?_)
  · obtain ⟨_, _, _, _, e, _⟩ := h
    rw [e]; rfl
  obtain ⟨wd, l, ws, r, e, hs, hz, hop, hnp, q⟩ := h
  subst e
  have nd := sc_L_operated.nd
  refine ⟨_, pss_cons (ps_set (i := 2) nd rfl (Or.inl rfl) (pe_ix ix_list (pv 1) pe_int (fun _ _ => rfl)))
    (pss_cons (ps_if (pt_cmpR op_eq (pv 0) pe_str (nomark _)) (pss_one (ps_ret (pe_join pe_str (pe_lc (own := [("_law_bit", 4)]) (g := gName 4) (tt := tYes) rfl nd (pi_str (pv 2))
        (blkOk_by (own := [("_law_bit", 4)]) (N := ["_law_word", "_law_some", "_law_a", "_law_pairs", "_law_bit", "_law_one", "_law_other"]) (sc := defScope s_L_operated) (by decide +kernel)) (fun _ _ _ _ _ => pg_name (i := 4) nd rfl (Or.inl rfl))
        (fun _ _ _ _ _ => pts_nil) (fun _ _ _ _ _ => pe_cl CT hr (by decide) (pa_cons (pv 4) pa_nil)))))) pss_nil)
    (pss_cons (ps_if (pt_cmpR op_in_seq (pv 0) (pe_lst (pa_cons pe_str (pa_cons pe_str pa_nil))) rfl) (pss_one (ps_ret (pe_cl CO hr (by decide) (pa_cons (pv 0) (pa_cons (pv 2) pa_nil))))) pss_nil)
    (pss_cons (ps_if (pt_cmpR op_eq (pv 0) pe_str (nomark _)) (pss_one (ps_ret (pe_op op_add_str (pv 2) (pe_ix ix_list (pv 1) pe_int (fun _ _ => rfl))))) pss_nil)
    (pss_cons (ps_if (pt_cmpR op_eq (pv 0) pe_str (nomark _)) (pss_one (ps_ret (pe_cl CT hr (by decide) (pa_cons (pe_cl CO hr (by decide) (pa_cons pe_str (pa_cons (pe_cl CA hr (by decide) (pa_cons pe_str (pa_cons (pv 2) (pa_cons (pe_ix ix_list (pv 1) pe_int (fun _ _ => rfl)) pa_nil)))) pa_nil))) pa_nil)))) pss_nil)
    (pss_cons (ps_if (pt_cmpR op_eq (pv 0) pe_str (nomark _)) (pss_cons (ps_if (pt_cmpR op_ne (pv 2) pe_str (nomark _)) (pss_one (ps_ret (pe_ix ix_list (pv 1) (pe_op op_add pe_int (pe_callTy call_int1 (by rfl) T.int PyProof.Rows.boot_int (pa_cons (pe_cmpR op_eq (pv 2) pe_str (nomark _)) pa_nil))) (fun _ _ => rfl)))) pss_nil)
      (pss_cons (ps_set (i := 3) nd rfl (Or.inl rfl) (pe_lzip rfl rfl T.list rfl T.zip (pa_cons (pe_ix ix_list (pv 1) pe_int (fun _ _ => rfl)) (pa_cons (pe_ix ix_list (pv 1) pe_int (fun _ _ => rfl)) pa_nil))))
      (pss_one (ps_ret (pe_join pe_str (pe_lc (own := [("_law_one", 5), ("_law_other", 6)]) (g := gTup K 2 (gCons (gName 5) (gCons (gName 6) gNil))) (tt := tYes)
        (te := tOp (rIxL K) (tLst (tCons (tC (.str "x")) (tCons (tVar 5) tNil))) (tCB (fun xs H Q => (∃ i, xs = [V.int i] ∧ Q (V.int i) H) ∨ ∃ k, xs = [V.bl k] ∧ Q (V.int (if k = true then 1 else 0)) H) (tCons (tOp rEq (tVar 5) (tVar 6)) tNil))) rfl nd (pi_list (pv 3))
        (blkOk_by (own := [("_law_one", 5), ("_law_other", 6)]) (N := ["_law_word", "_law_some", "_law_a", "_law_pairs", "_law_bit", "_law_one", "_law_other"]) (sc := defScope s_L_operated) (by decide +kernel))
        (fun _ _ _ _ _ => pg_tup rfl (pgs_cons (pg_name (i := 5) nd rfl (Or.inl rfl)) (pgs_cons (pg_name (i := 6) nd rfl (Or.inl rfl)) pgs_nil)))
        (fun _ _ _ _ _ => pts_nil) (fun _ _ _ _ _ => pe_ix ix_list (pe_lst (pa_cons pe_str (pa_cons (pv 5) pa_nil))) (pe_callTy call_int1 (by rfl) T.int PyProof.Rows.boot_int (pa_cons (pe_cmpR op_eq (pv 5) (pv 6) (nomark _)) pa_nil)) (fun _ _ => rfl))))))) ) pss_nil)
    (pss_one (ps_ret (pe_cl CA hr (by decide) (pa_cons (pv 0) (pa_cons (pv 2) (pa_cons (pe_ix ix_list (pv 1) pe_int (fun _ _ => rfl)) pa_nil))))))))))), ?_⟩
  have z2 : (2 : Nat) ≤ sizeLine := by decide
  have el : ∀ (H' : Hp) (e : Evl.Ex H H'), SqL K H' l (ws.map vw) := fun H' e => Evl.ex_l e hs
  rcases hop with ⟨a, ew, t⟩ | ⟨a, b, ew, t⟩ | ⟨ep, c, a, b, ew, hc, hlen, er⟩
  · subst ew
    have h8 := hz a (by simp)
    refine ⟨_, rfl, l, _, 0, _, rfl, rfl, hs, atI_nat (j := 0) rfl, ?_⟩
    rcases t with ⟨e, er⟩ | ⟨e, er⟩ | ⟨e, er⟩ | ⟨e, _⟩
    · subst e er
      refine ⟨_, rfl, rfl, true, rfl, iteT ?_⟩
      refine ⟨⟨_, rfl⟩, _, rfl, S a, rfl, fun L hL => lc_bitsE h8 hL (fun _ => rfl) (fun b H Q q => ⟨_, rfl, b, rfl, q⟩) (fun H' ex e => ?_)⟩
      refine ⟨_, L, (a.map nt).map fun b => S [b], rfl, rfl, .inl (SqL.of (by rw [e, List.map_map (g := V.str)]; rfl)), join_fits _ (by rw [List.length_map]; exact h8), ?_⟩
      rw [join_bits]
      exact q H' ex
    · subst e er
      exact ⟨_, rfl, rfl, false, rfl, iteF ⟨_, rfl, z2, fun p hp => ⟨p, _, rfl, .inl (SqL.of upd_same), rfl, rfl, true, rfl, iteT ⟨_, rfl, _, rfl, .any, a, rfl, h8, fun H' e => q H' ((Evl.Ex.new hp).trans e)⟩⟩⟩⟩
    · subst e er
      exact ⟨_, rfl, rfl, false, rfl, iteF ⟨_, rfl, z2, fun p hp => ⟨p, _, rfl, .inl (SqL.of upd_same), rfl, rfl, true, rfl, iteT ⟨_, rfl, _, rfl, .all, a, rfl, h8, fun H' e => q H' ((Evl.Ex.new hp).trans e)⟩⟩⟩⟩
    · exact absurd e hnp
  · subst ew
    have h8 := hz a (by simp)
    have h9 := hz b (by simp)
    refine ⟨_, rfl, l, _, 0, _, rfl, rfl, hs, atI_nat (j := 0) rfl, ?_⟩
    rcases t with ⟨o, e, hlen, er⟩ | ⟨o, e, hlen, er⟩ | ⟨e, er⟩
    · subst e er
      have hal : ∀ H1, Evl.Ex H H1 → _ := fun H1 e1 => (⟨_, rfl, _, rfl, _, rfl, l, _, 1, _, rfl, rfl, el H1 e1, atI_nat (j := 1) rfl, .bin o, a, b, rfl, hlen, h8, fun H' e2 => q H' (e1.trans e2)⟩ : tCall spAl [] E0 (tCons (tVar 0) (tCons (tVar 2) (tCons (tOp (rIxL K) (tVar 1) (tC (.int 1))) tNil))) [some (.str o.w), some (.ref l), some (vw a), none, none, none, none] H1 Q)
      cases o with
      | an => exact ⟨_, rfl, rfl, false, rfl, iteF ⟨_, rfl, z2, fun p hp => ⟨p, _, rfl, .inl (SqL.of upd_same), rfl, rfl, false, rfl, iteF ⟨_, rfl, rfl, false, rfl, iteF ⟨_, rfl, rfl, false, rfl, iteF ⟨_, rfl, rfl, false, rfl, iteF (hal _ (Evl.Ex.new hp))⟩⟩⟩⟩⟩⟩
      | orr => exact ⟨_, rfl, rfl, false, rfl, iteF ⟨_, rfl, z2, fun p hp => ⟨p, _, rfl, .inl (SqL.of upd_same), rfl, rfl, false, rfl, iteF ⟨_, rfl, rfl, false, rfl, iteF ⟨_, rfl, rfl, false, rfl, iteF ⟨_, rfl, rfl, false, rfl, iteF (hal _ (Evl.Ex.new hp))⟩⟩⟩⟩⟩⟩
      | xr => exact ⟨_, rfl, rfl, false, rfl, iteF ⟨_, rfl, z2, fun p hp => ⟨p, _, rfl, .inl (SqL.of upd_same), rfl, rfl, false, rfl, iteF ⟨_, rfl, rfl, false, rfl, iteF ⟨_, rfl, rfl, false, rfl, iteF ⟨_, rfl, rfl, false, rfl, iteF (hal _ (Evl.Ex.new hp))⟩⟩⟩⟩⟩⟩
      | plus => exact ⟨_, rfl, rfl, false, rfl, iteF ⟨_, rfl, z2, fun p hp => ⟨p, _, rfl, .inl (SqL.of upd_same), rfl, rfl, false, rfl, iteF ⟨_, rfl, rfl, false, rfl, iteF ⟨_, rfl, rfl, false, rfl, iteF ⟨_, rfl, rfl, false, rfl, iteF (hal _ (Evl.Ex.new hp))⟩⟩⟩⟩⟩⟩
    · subst e er
      cases o with
      | less => exact ⟨_, rfl, rfl, false, rfl, iteF ⟨_, rfl, z2, fun p hp => ⟨p, _, rfl, .inl (SqL.of upd_same), rfl, rfl, false, rfl, iteF ⟨_, rfl, rfl, false, rfl, iteF ⟨_, rfl, rfl, false, rfl, iteF ⟨_, rfl, rfl, false, rfl, iteF
          ⟨_, rfl, _, rfl, _, rfl, l, _, 1, _, rfl, rfl, el _ (Evl.Ex.new hp), atI_nat (j := 1) rfl, .less, a, b, rfl, hlen, h8, fun H' e2 => q H' ((Evl.Ex.new hp).trans e2)⟩⟩⟩⟩⟩⟩⟩
      | same => exact ⟨_, rfl, rfl, false, rfl, iteF ⟨_, rfl, z2, fun p hp => ⟨p, _, rfl, .inl (SqL.of upd_same), rfl, rfl, false, rfl, iteF ⟨_, rfl, rfl, false, rfl, iteF ⟨_, rfl, rfl, true, rfl, iteT
          ⟨_, rfl, _, rfl, l, _, 1, _, rfl, rfl, el _ (Evl.Ex.new hp), atI_nat (j := 1) rfl, .bin .xr, a, b, rfl, hlen, h8, fun H1 e1 => ⟨.any, a.zipWith xr b, rfl, by rw [List.length_zipWith]; omega, fun H2 e2 => ⟨_, rfl, fun H3 e3 => q H3 ((Evl.Ex.new hp).trans (e1.trans (e2.trans e3)))⟩⟩⟩⟩⟩⟩⟩⟩
    · subst e er
      refine ⟨_, rfl, rfl, false, rfl, iteF ⟨_, rfl, z2, fun p hp => ⟨p, _, rfl, .inl (SqL.of upd_same), rfl, rfl, false, rfl, iteF ⟨_, rfl, rfl, true, rfl, iteT ⟨_, rfl, _, rfl, l, _, 1, _, rfl, rfl, el _ (Evl.Ex.new hp), atI_nat (j := 1) rfl, _, _, rfl, rfl, ?_, ?_⟩⟩⟩⟩⟩
      · rw [S_len, S_len]
        exact Nat.le_trans (Nat.add_le_add h8 h9) (by decide)
      · rw [S_app]
        exact q _ (Evl.Ex.new hp)
  · subst ew ep er
    have h8 := hz a (by simp)
    obtain ⟨d, ed⟩ : ∃ d, c = [d] := by
      match c, hc with
      | [d], _ => exact ⟨d, rfl⟩
    subst ed
    refine ⟨_, rfl, l, _, 0, _, rfl, rfl, hs, atI_nat (j := 0) rfl, ?_⟩
    refine ⟨_, rfl, rfl, false, rfl, iteF ⟨_, rfl, z2, fun p hp => ⟨p, _, rfl, .inl (SqL.of upd_same), rfl, rfl, false, rfl, iteF ⟨_, rfl, rfl, false, rfl, iteF ⟨_, rfl, rfl, false, rfl, iteF ⟨_, rfl, rfl, true, rfl, iteT ?_⟩⟩⟩⟩⟩⟩
    have e1 := Evl.Ex.new (o := .lst [.str "any", .str "all"]) hp
    cases d with
    | i => exact ⟨_, rfl, rfl, true, rfl, iteT ⟨_, rfl, _, rfl, rfl, .inr ⟨false, rfl, _, _, rfl, rfl, l, _, 1, _, rfl, rfl, el _ e1, atI_nat (j := 1) rfl, q _ e1⟩⟩⟩
    | o => exact ⟨_, rfl, rfl, true, rfl, iteT ⟨_, rfl, _, rfl, rfl, .inr ⟨true, rfl, _, _, rfl, rfl, l, _, 2, _, rfl, rfl, el _ e1, atI_nat (j := 2) rfl, q _ e1⟩⟩⟩
    | x =>
      refine ⟨_, rfl, rfl, false, rfl, iteF ?_⟩
      refine ⟨_, rfl, l, _, 1, _, rfl, rfl, el _ e1, atI_nat (j := 1) rfl, _, rfl, l, _, 2, _, rfl, rfl, el _ e1, atI_nat (j := 2) rfl, S a, S b, rfl, by rw [S_size, S_size, hlen], by rw [S_size]; exact h8, fun H2 p2 ts e2 _ hp2 hts hprs => ?_⟩
      rw [S_size] at hts
      refine ⟨⟨_, rfl⟩, _, rfl, p2, rfl, ⟨_, SqL.of hp2⟩, fun L hL => lc_pairs (f := mx) hlen h8 hL (SqL.of hp2) hts hprs (fun _ _ => rfl) (fun u v H3 Q3 q3 => ?_) (fun H' ex e => ?_)⟩
      · refine ⟨_, rfl, z2, fun p4 hp4 => ⟨_, rfl, _, rfl, rfl, .inr ⟨decide (u = v), congrArg (fun z => [V.bl z]) (eq_bit u v), p4, _, _, _, rfl, rfl, SqL.of upd_same, ?_, q3 _ (Evl.Ex.new hp4)⟩⟩⟩
        by_cases e : u = v
        · subst e
          rw [decide_eq_true rfl, show mx u u = u from if_pos rfl]
          exact atI_nat (j := 1) rfl
        · rw [decide_eq_false e, show mx u v = .x from if_neg e]
          exact atI_nat (j := 0) rfl
      · refine ⟨_, L, (a.zipWith mx b).map fun b => S [b], rfl, rfl, .inl (SqL.of (by rw [e, List.map_map (g := V.str)]; rfl)), join_fits _ (by rw [List.length_zipWith]; omega), ?_⟩
        rw [join_bits]
        exact q H' (e1.trans (e2.trans ex))
end
end K24
/-! K24, part 17: the law's own value of a term -/
namespace K24
open PySem PySem.Spec PyProof.Rows L2
/-- a comprehension over a tuple, some items left out -/
theorem lc_some {K : PySem.W.Frag} {a : Addr} {us ts ys : List V} (hl : ys.length = us.length) (h8 : us.length ≤ 1000) {σ : L2.St} {vs : List Nat} {i : Nat} {tt : TT} {te : TE} {H1 : Hp} {D : Addr} {Qd : Hp → Prop} (hs : SqT K H1 a (us ++ ts)) (hD : H1 D = none)
    (hw : ∀ x, wipe ((wipe σ vs).set i (some x)) vs = wipe σ vs)
    (ht : ∀ (n : Nat) (x : V), (us ++ ts)[n]? = some x → ∀ H, Evl.Ex H1 H → ∀ Q : Bool → Hp → Prop, Q (decide (n < us.length)) H → tt ((wipe σ vs).set i (some x)) H Q)
    (he : ∀ (n : Nat) (x y : V), us[n]? = some x → ys[n]? = some y → ∀ H, Evl.Ex H1 H → ∀ Q : VK, (∀ H', Evl.Ex H H' → Q y H') → te ((wipe σ vs).set i (some x)) H Q)
    (hq : ∀ H', Evl.Ex H1 H' → H' D = some (.lst ys) → Qd H') :
    ∃ W : Nat → Nat → Hp → Prop, (∃ m, W 0 m (upd H1 D (.lst []))) ∧ ∀ n m H, W n m H →
      ((Itt K a).stop n H ∧ Qd H) ∨ ((Itt K a).go n H ∧ ∃ Nx : Hp → Prop, (∀ H', Nx H' → ∃ m', m' < m ∧ W (n + 1) m' H') ∧ ∀ x H', (Itt K a).yld n H x H' → gName i x (wipe σ vs) H' fun σ2 H2 => wipe σ2 vs = wipe σ vs ∧ tt σ2 H2 fun b H3 =>
        if b = true then te σ2 H3 fun y H4 => ∃ acc, H4 D = some (.lst acc) ∧ acc.length < sizeLine ∧ Nx (upd H4 D (.lst (acc ++ [y]))) else Nx H3) := by
  refine lc_it walk_tup (fun n H => H1 D = none ∧ Evl.Ex H1 H ∧ H D = some (.lst (ys.take n))) ⟨hD, Evl.Ex.new hD, upd_same⟩ (fun n H _ p => Evl.ex_t p.2.1 hs) (fun n x H H' hlt p y => ?_) (fun H p => ?_)
  · obtain ⟨p0, p1, p2⟩ := p
    obtain ⟨e2, ex⟩ := y
    subst e2
    refine ⟨hw _, ?_⟩
    refine ht n x ex H' p1 _ ?_
    by_cases hn : n < us.length
    · rw [decide_eq_true hn]
      refine iteT ?_
      have hy : ys[n]? = some (ys[n]'(by omega)) := List.getElem?_eq_getElem (by omega)
      rw [List.getElem?_append_left hn] at ex
      refine he n x _ ex hy H' p1 _ fun H2 e2 => ⟨_, e2 _ _ p2, ?_, p0, Evl.Ex.mut (p1.trans e2) p0, ?_⟩
      · rw [List.length_take]
        exact Nat.lt_of_le_of_lt (Nat.min_le_left _ _) (Nat.lt_trans hn (Nat.lt_of_le_of_lt h8 (by decide)))
      · rw [upd_same, List.take_add_one, hy]
        rfl
    · rw [decide_eq_false hn]
      refine iteF ⟨p0, p1, ?_⟩
      rw [List.take_of_length_le (by omega)] at p2 ⊢
      exact p2
  · obtain ⟨p0, p1, p2⟩ := p
    rw [List.take_of_length_le (by rw [List.length_append]; omega)] at p2
    exact hq H p1 p2
theorem At.tup {H : Hp} {t : Tm} {v : V} (h : At H t v) : ∃ a xs, v = .ref a ∧ H a = some (.tup xs) := by
  obtain ⟨a, us, e, h, _⟩ := h.open_
  exact ⟨a, _, e, h⟩
theorem tail_int {t : Tm} (h : leaf t = false) : ∀ v ∈ tail t, ∃ i, v = .int i := by
  intro v hv
  cases t with
  | is _ => cases h
  | var _ => cases h
  | part _ hi lo =>
    have e : v = .int hi ∨ v = .int lo := by simpa [tail] using hv
    rcases e with e | e
    · exact ⟨_, e⟩
    · exact ⟨_, e⟩
  | _ => cases hv
theorem word_np {t : Tm} (h : isPart t = false) : word t ≠ "part" := by
  intro e
  have := word_part t
  rw [e, h] at this
  exact absurd this (by decide)
section
variable {P : Program} {w : World} {K : PySem.W.Frag} {mg : Str → Option Value} {base : Heap}
theorem ok_lval0 (D : Df K mg "_law_value" s_L_value) : Cl P w K mg base "_law_value" 5 (spVal 0) := by
  obtain ⟨f, fd, F, m⟩ := D.ex
  have no : ∀ vs H Q E, ¬ spVal 0 vs H Q E := fun vs H Q E h => by
    obtain ⟨v, d, t, E, W, m, _, _, hd, _⟩ := h
    have := deep_pos t
    omega
  exact ⟨f, fd, ["_law_term_here", "_law_values_here"], ⟨fun vs H Q E h => absurd h (no vs H Q E), fun A outer s H args us vs Q E _ _ _ _ h => absurd h (no vs H Q E)⟩, m, F.kp, F.binds fun _ _ _ _ _ _ us hl => match us, hl with | [_, _], _ => rfl⟩
theorem ok_lval1 {n : Nat} (D : Df K mg "_law_value" s_L_value) (T : Bi mg) (CO : Cl P w K mg base "_law_operated" 4 (spLO K)) (CV : Cl P w K mg base "_law_value" (5 + n) (spVal n)) :
    Cl P w K mg base "_law_value" (5 + n + 1) (spVal (n + 1)) := by
  refine mk_cl D sc_L_value (fun _ _ _ _ _ _ us hl => match us, hl with | [_, _], _ => rfl) (fun vs H Q E h => ?_) (fun f cdv A outer s H vs Q E hr h => ?_)
  · obtain ⟨_, _, _, _, _, _, e, _⟩ := h
    rw [e]; rfl
  obtain ⟨v, d, t, Ev, W, mm, e, hAt, hdp, hw, hf, hd, q⟩ := h
  subst e
  have nd := sc_L_value.nd
  refine ⟨_, pss_cons (ps_set (i := 2) nd rfl (Or.inl rfl) (pe_ix ix_tup (pv 0) pe_int (fun _ _ => rfl)))
    (pss_cons (ps_if (pt_cmpR op_eq (pv 2) pe_str (nomark _)) (pss_one (ps_ret (pe_ix ix_tup (pv 0) pe_int (fun _ _ => rfl)))) pss_nil)
    (pss_cons (ps_ifT (pv 2) (CwR.psst_one (CwR.pst_ret (CwR.pet_replC (y := "z") (z := "x") (pe_dget (hu_of hr) (pv 1) (pe_ix ix_tup (pv 0) pe_int (fun _ _ => rfl)) (fun _ _ => rfl))))))
    (pss_cons (ps_setLc (i := 3) (own := [("_law_one", 4)]) (g := gName 4) (tt := fun σ H Q => tCB (rIsi K) (tCons (tVar 4) (tCons (tC (.ty "tuple")) tNil)) σ H fun x H' => ∃ k, TruV K x H' k ∧ Q k H') rfl nd rfl rfl (sw_true rfl rfl rfl (by decide +kernel)) (pi_tup (pe_slice sl_tup (pv 0) (po_some pe_int) po_none))
        (blkOk_by (own := [("_law_one", 4)]) (N := ["_law_term_here", "_law_values_here", "_law_word", "_law_inner", "_law_one"]) (sc := defScope s_L_value) (by decide +kernel))
        (fun _ _ _ _ _ => pg_name (i := 4) nd rfl (Or.inl rfl)) (fun _ _ _ _ _ => pts_one (pt_truth (pe_callB call_isi (by rfl) T.isinstance PyProof.Rows.boot_isinstance (pa_cons (pv 4) (pa_cons (pe_bltn (by rfl) T.tuple (by rfl) rfl) pa_nil))) (fun _ => rfl)))
        (fun _ _ _ _ _ => pe_cl CV hr (Nat.le_refl _) (pa_cons (pv 4) (pa_cons (pv 1) pa_nil))))
    (pss_cons (ps_if (pt_cmpR op_eq (pv 2) pe_str (nomark _)) (pss_one (ps_ret (pe_slice sl_str (pe_ix ix_list (pv 3) pe_int (fun _ _ => rfl)) (po_some (pe_op op_sub (pe_op op_sub (pe_callB call_len_str (by rfl) T.len PySem.boot_len (pa_cons (pe_ix ix_list (pv 3) pe_int (fun _ _ => rfl)) pa_nil)) pe_int) (pe_ix ix_tup (pv 0) pe_int (fun _ _ => rfl))))
      (po_some (pe_op op_sub (pe_callB call_len_str (by rfl) T.len PySem.boot_len (pa_cons (pe_ix ix_list (pv 3) pe_int (fun _ _ => rfl)) pa_nil)) (pe_ix ix_tup (pv 0) pe_int (fun _ _ => rfl))))))) pss_nil)
    (pss_one (ps_ret (pe_cl CO hr (by omega) (pa_cons (pv 2) (pa_cons (pv 3) pa_nil))))))))), ?_⟩
  cases hlf : leaf t with
  | true =>
    cases t with
    | is ws =>
      obtain ⟨a, ea, hA⟩ := hAt
      subst ea
      refine ⟨_, rfl, a, _, 0, _, rfl, rfl, SqT.of hA, atI_nat (j := 0) rfl, ?_⟩
      exact ⟨_, rfl, rfl, true, rfl, iteT ⟨_, rfl, a, _, 1, _, rfl, rfl, SqT.of hA, atI_nat (j := 1) rfl, q _ (Evl.Ex.refl H)⟩⟩
    | var x =>
      obtain ⟨a, ea, hA⟩ := hAt
      subst ea
      obtain ⟨l, el, hl⟩ := hf x mm hw.1
      refine ⟨_, rfl, a, _, 0, _, rfl, rfl, SqT.of hA, atI_nat (j := 0) rfl, ?_⟩
      refine ⟨_, rfl, rfl, false, rfl, iteF ⟨_, rfl, rfl, true, rfl, iteT ?_⟩⟩
      refine ⟨_, rfl, _, rfl, a, _, 1, _, rfl, rfl, SqT.of hA, atI_nat (j := 1) rfl, d, _, rfl, ?_, R l, rfl, ?_, ?_⟩
      · rw [← val_ekv el]
        exact DGet.k (k := Sum.inr x) hd
      · have := hw.2.2
        rw [R_len]
        show l.length + (l.length + 1) * 1 ≤ 16777216
        omega
      · have r := q _ (Evl.Ex.refl H)
        have ee : ev Ev (.var x) = l.map rd := by
          show (look Ev x).map rd = _
          unfold look
          rw [el]
          rfl
        rw [ee] at r
        rw [replaced]
        exact r
    | _ => cases hlf
  | false =>
    obtain ⟨a, us, ea, hA, hus⟩ := hAt.open_
    subst ea
    obtain ⟨w1, w2⟩ := word_is hlf
    refine ⟨_, rfl, a, _, 0, _, rfl, rfl, SqT.of hA, atI_nat (j := 0) rfl, ?_⟩
    refine ⟨_, rfl, rfl, false, congrArg V.bl w1, iteF ⟨_, rfl, rfl, false, congrArg V.bl w2, iteF ?_⟩⟩
    have ec : cutV (V.str (word t) :: (us ++ tail t)) (some 1) none = us ++ tail t := by
      unfold cutV
      rw [show HT.sIx (V.str (word t) :: (us ++ tail t)).length 0 (some 1) = min 1 (V.str (word t) :: (us ++ tail t)).length from HT.sIx_nat _ _ 1, HT.sIx_none]
      rw [Nat.min_eq_left (by rw [List.length_cons]; omega)]
      show (us ++ tail t).take ((us ++ tail t).length + 1 - 1) = _
      rw [Nat.add_sub_cancel, List.take_length]
    refine ⟨_, rfl, 1, rfl, a, _, rfl, SqT.of hA, ?_, fun p hp => ?_⟩
    · rw [show HT.sIx (V.str (word t) :: (us ++ tail t)).length 0 (some 1) = min 1 (V.str (word t) :: (us ++ tail t)).length from HT.sIx_nat _ _ 1]
      rw [Nat.min_eq_left (by rw [List.length_cons]; omega)]
      exact fun z => absurd z.1 (by decide)
    rw [ec]
    have e2 : Evl.Ex H (upd H p (.tup (us ++ tail t))) := Evl.Ex.new hp
    refine ⟨p, rfl, ⟨_, SqT.of upd_same⟩, fun L hL => ?_⟩
    have hlen : ((subs t).map fun s => vw (ev Ev s)).length = us.length := by rw [List.length_map, hus.1]
    have h3 : us.length ≤ 1000 := by
      rw [hus.1]
      cases t <;> (simp [subs])
    refine lc_some (K := K) (i := 4) (vs := [4]) (tt := fun σ H Q => tCB (rIsi K) (tCons (tVar 4) (tCons (tC (.ty "tuple")) tNil)) σ H fun x H' => ∃ k, TruV K x H' k ∧ Q k H') (te := tCall (spVal n) [] E0 (tCons (tVar 4) (tCons (tVar 1) tNil))) (ys := (subs t).map fun s => vw (ev Ev s)) hlen h3 (SqT.of upd_same) hL (fun _ => rfl) (fun i x hx H2 e3 Q2 q2 => ?_) (fun i x y hx hy H2 e3 Q2 q2 => ?_) (fun H2 e3 hL2 => ?_)
    · by_cases hi : i < us.length
      · rw [List.getElem?_append_left hi] at hx
        obtain ⟨sb, hsb⟩ : ∃ sb, (subs t)[i]? = some sb := ⟨_, List.getElem?_eq_getElem (by rw [← hus.1]; exact hi)⟩
        obtain ⟨b, xs, eb, hb⟩ := (hus.2 i sb x hsb hx).tup
        subst eb
        rw [decide_eq_true hi] at q2
        exact ⟨_, rfl, _, _, _, _, true, rfl, .ty "tuple", .base (.tup ((e2.trans e3) _ _ hb)), kit_ty (by decide +kernel), true, rfl, q2⟩
      · rw [List.getElem?_append_right (by omega)] at hx
        obtain ⟨z, ez⟩ := tail_int hlf x (List.mem_of_getElem? hx)
        subst ez
        rw [decide_eq_false hi] at q2
        exact ⟨_, rfl, _, _, _, _, false, rfl, .ty "tuple", .base (.int z), kit_ty (by decide +kernel), false, rfl, q2⟩
    · rw [List.getElem?_map] at hy
      cases hs : (subs t)[i]? with
      | none => rw [hs] at hy; cases hy
      | some sb =>
        rw [hs] at hy
        cases hy
        have hm := List.mem_of_getElem? hs
        obtain ⟨m2, wm⟩ := wt_sub hw hm
        have dd := deep_sub hm
        exact ⟨_, rfl, _, rfl, x, d, sb, Ev, W, m2, rfl, (hus.2 i sb x hs hx).mono (Tk.of (e2.trans e3)), by omega, wm, hf, (e2.trans e3) _ _ hd, q2⟩
    · have hop := op_of hf hw hlf
      have hmap : ((subs t).map fun s => vw (ev Ev s)) = ((subs t).map (ev Ev)).map vw := by rw [List.map_map]; rfl
      have hz : ∀ z ∈ (subs t).map (ev Ev), z.length ≤ 1000 := fun z hz => by
        obtain ⟨sb, hm, ez⟩ := List.mem_map.mp hz
        obtain ⟨m2, wm⟩ := wt_sub hw hm
        rw [← ez]
        exact ev_short hf wm
      have eall := e2.trans e3
      rw [hmap] at hL2
      refine ⟨_, rfl, rfl, isPart t, congrArg V.bl (word_part t), ?_⟩
      cases hpt : isPart t with
      | true =>
        refine iteT ?_
        cases t with
        | part t1 hi lo =>
          obtain ⟨u, eu⟩ : ∃ u, us = [u] := by
            have := hus.1
            match us, this with
            | [u], _ => exact ⟨u, rfl⟩
          subst eu
          obtain ⟨hb1, hb2, m1, hb3, w1'⟩ := hw
          have hlen1 := ev_len hf w1'
          have h8 : (ev Ev t1).length ≤ 1000 := ev_short hf w1'
          have hA2 := eall _ _ hA
          refine ⟨_, rfl, L, _, 0, _, rfl, rfl, SqL.of hL2, atI_nat (j := 0) rfl, ?_⟩
          refine ⟨_, rfl, L, _, 0, _, rfl, rfl, SqL.of hL2, atI_nat (j := 0) rfl, S (ev Ev t1), rfl, S_sz h8, _, _, rfl, rfl, _, rfl, a, _, 2, _, rfl, rfl, SqT.of hA2, atI_nat (j := 2) rfl, _, _, rfl, rfl, ?_⟩
          refine ⟨_, rfl, _, rfl, L, _, 0, _, rfl, rfl, SqL.of hL2, atI_nat (j := 0) rfl, S (ev Ev t1), rfl, S_sz h8, _, rfl, a, _, 3, _, rfl, rfl, SqT.of hA2, atI_nat (j := 3) rfl, _, _, rfl, rfl, _, rfl, S (ev Ev t1), rfl, S_sz h8, ?_⟩
          rw [S_len, cut_part hb1 (by omega)]
          exact q _ eall
        | _ => cases hpt
      | false =>
        have eb : bnds t = (0, 0) := by cases t <;> first | rfl | cases hpt
        rw [eb] at hop
        refine iteF ⟨_, rfl, _, rfl, ?_⟩
        exact ⟨_, L, _, _, rfl, SqL.of hL2, hz, hop, word_np hpt, fun H' e4 => q H' (eall.trans e4)⟩
theorem ok_lval (D : Df K mg "_law_value" s_L_value) (T : Bi mg) (CO : Cl P w K mg base "_law_operated" 4 (spLO K)) : ∀ n, Cl P w K mg base "_law_value" (5 + n) (spVal n)
  | 0 => ok_lval0 D
  | n + 1 => ok_lval1 D T CO (ok_lval D T CO n)
end
end K24
/-! K24, part 18: the makers: the pot -/
namespace K24
open PySem PySem.Spec PyProof.Rows L2
/-- all stands, but what lies at these places -/
def Kp (ex : List Addr) (H H' : Hp) : Prop := ∀ b o, b ∉ ex → H b = some o → H' b = some o
theorem Kp.refl {ex : List Addr} (H : Hp) : Kp ex H H := fun _ _ _ h => h
theorem Kp.of {ex : List Addr} {H H' : Hp} (e : Evl.Ex H H') : Kp ex H H' := fun b o _ h => e b o h
theorem Kp.trans {ex : List Addr} {H H1 H2 : Hp} (a : Kp ex H H1) (b : Kp ex H1 H2) : Kp ex H H2 := fun c o n h => b c o n (a c o n h)
theorem Kp.mono {ex ex' : List Addr} {H H' : Hp} (h : ∀ b ∈ ex, b ∈ ex') (a : Kp ex H H') : Kp ex' H H' := fun b o n e => a b o (fun z => n (h b z)) e
theorem Kp.upd {ex : List Addr} {H H' : Hp} {p : Addr} {o : HO} (a : Kp ex H H') (h : p ∈ ex) : Kp ex H (L2.upd H' p o) := fun b u n e => by
  rw [upd_ne (fun z => n (by rw [z]; exact h))]
  exact a b u n e
theorem Kp.mut {ex : List Addr} {H H' : Hp} {p : Addr} {o : HO} (a : Kp ex H H') (h : H p = none) : Kp ex H (L2.upd H' p o) := fun b u n e => by
  rw [upd_ne (ne_of_none e h)]
  exact a b u n e
theorem Kp.pm {p r : Addr} {H H' : Hp} (a : Kp [p] H H') : Kp [p, r] H H' := a.mono fun b h => by rw [List.mem_singleton.mp h]; exact List.mem_cons_self ..
/-- a pot -/
def Pot (H : Hp) (p : Addr) : Prop := ∃ x y : Int, H p = some (.lst [.int x, .int y]) ∧ 0 ≤ x ∧ 0 ≤ y ∧ y < 2147483647
theorem Pot.ex {H H' : Hp} {p : Addr} (h : Pot H p) (e : Evl.Ex H H') : Pot H' p := by
  obtain ⟨x, y, h1, h2⟩ := h
  exact ⟨x, y, e _ _ h1, h2⟩
theorem Pot.some {H : Hp} {p : Addr} (h : Pot H p) : H p ≠ none := by
  obtain ⟨x, y, h1, h2⟩ := h
  rw [h1]; exact fun z => nomatch z
theorem Pot.ntup {H : Hp} {p : Addr} (h : Pot H p) : ∀ b xs, H b = Option.some (HO.tup xs) → b ≠ p := fun b xs e z => by
  obtain ⟨x, y, h1, h2⟩ := h
  rw [z, h1] at e; cases e
theorem Kp.tk {H H' : Hp} {p : Addr} (a : Kp [p] H H') (h : Pot H p) : Tk H H' := fun b xs e => a b _ (fun z => h.ntup b xs e (List.mem_singleton.mp z)) e
def spTake : Sp := fun vs H Q _ => ∃ (p : Addr) (m : Int), vs = [.ref p, .int m] ∧ 0 < m ∧ m ≤ 1000 ∧ Pot H p ∧ ∀ (d : Nat) H', (d : Int) < m → Kp [p] H H' → Pot H' p → Q (.int d) H'
def spPot (K : PySem.W.Frag) : Sp := fun vs H Q _ => ∃ (s : Addr) (xs : List Int) (k : Nat), vs = [.ref s, .int k] ∧ SqL K H s (xs.map V.int) ∧ xs.length ≤ 1000 ∧ k ≤ 1000 ∧ ∀ p H', H p = none → Evl.Ex H H' → Pot H' p → Q (.ref p) H'
section
variable {P : Program} {w : World} {K : PySem.W.Frag} {mg : Str → Option Value} {base : Heap}
theorem ok_take (D : Df K mg "_law_take" s_L_take) (T : Bi mg) : Cl P w K mg base "_law_take" 1 spTake := by
  refine mk_cl D sc_L_take (fun _ _ _ _ _ _ us hl => match us, hl with | [_, _], _ => rfl) (fun vs H Q E h => ?_) (fun f cdv A outer s H vs Q E hr h => ?_)
  · obtain ⟨_, _, e, _⟩ := h
    rw [e]; rfl
  obtain ⟨p, m, e, m0, m1, ⟨x, y, hp, hx, hy, hy2⟩, q⟩ := h
  subst e
  have nd := sc_L_take.nd
  refine ⟨_, pss_cons (ps_if (pt_cmpR op_gt (pe_ix ix_list (pv 0) pe_int (fun _ _ => rfl)) pe_int (nomark _))
      (pss_cons (ps_asg (pe_callB call_divmod (by rfl) T.divmod PyProof.Rows.boot_divmod (pa_cons (pe_ix ix_list (pv 0) pe_int (fun _ _ => rfl)) (pa_cons (pv 1) pa_nil))) (pg_tup rfl (pgs_cons (pg_sub (pv 0) pe_int set_list) (pgs_cons (pg_name (i := 2) nd rfl (Or.inl rfl)) pgs_nil))))
      (pss_one (ps_ret (pv 2)))) pss_nil)
    (pss_cons (ps_asg (pe_op op_mod (pe_op op_add (pe_op op_mul (pe_ix ix_list (pv 0) pe_int (fun _ _ => rfl)) pe_int) pe_int) pe_int) (pg_sub (pv 0) pe_int set_list))
    (pss_one (ps_ret (pe_op op_mod (pe_op op_fdiv (pe_op op_mod (pe_op op_mul (pe_ix ix_list (pv 0) pe_int (fun _ _ => rfl)) (pe_ix ix_list (pv 0) pe_int (fun _ _ => rfl))) pe_int) pe_int) (pv 1))))), ?_⟩
  have i0 : SqL K H p [.int x, .int y] := SqL.of hp
  refine ⟨_, rfl, p, _, 0, _, rfl, rfl, i0, atI_nat (j := 0) rfl, _, _, rfl, rfl, decide (0 < x), rfl, ite2 (fun h => ?_) (fun h => ?_)⟩
  · refine ⟨_, rfl, p, _, 0, _, rfl, rfl, i0, atI_nat (j := 0) rfl, _, rfl, x, m, rfl, ⟨m0, by omega⟩, fun t ht => ?_⟩
    have pt : p ≠ t := fun z => by rw [← z, hp] at ht; cases ht
    refine ⟨t, _, rfl, SqT.of upd_same, rfl, _, _, rfl, ?_⟩
    refine ⟨_, rfl, p, [.int x, .int y], 0, 0, rfl, rfl, by rw [upd_ne pt]; exact hp, rfl, ?_⟩
    refine ⟨_, _, rfl, rfl, _, rfl, ?_⟩
    have hd : 0 ≤ x % m := Int.emod_nonneg _ (by omega)
    have hd2 : x % m < m := Int.emod_lt_of_pos _ m0
    have e : x % m = ((x % m).toNat : Int) := by omega
    rw [e]
    refine q _ _ (by omega) (((Kp.of (Evl.Ex.new ht)) : Kp [p] H _).upd (List.mem_singleton.mpr rfl)) ⟨x / m, y, upd_same, Int.ediv_nonneg hx (by omega), hy, hy2⟩
  · refine ⟨_, rfl, p, _, 1, _, rfl, rfl, i0, atI_nat (j := 1) rfl, _, _, rfl, rfl, .inr (by decide), _, _, rfl, rfl, _, _, rfl, rfl, (by decide : (0 : Int) < 2147483629), ?_⟩
    refine ⟨_, rfl, p, [.int x, .int y], 1, 1, rfl, rfl, hp, rfl, ?_⟩
    obtain ⟨z, hz⟩ : ∃ z, (y * 39373 + 20011) % 2147483629 = z := ⟨_, rfl⟩
    have z0 : 0 ≤ z := by rw [← hz]; exact Int.emod_nonneg _ (by decide)
    have z1 : z < 2147483629 := by rw [← hz]; exact Int.emod_lt_of_pos _ (by decide)
    have hh : [V.int x, V.int y].set 1 ((fun i j => V.int (i % j)) (y * 39373 + 20011) 2147483629) = [.int x, .int z] := by
      show [V.int x, V.int ((y * 39373 + 20011) % 2147483629)] = _
      rw [hz]
    rw [hh]
    have i1 : SqL K (upd H p (.lst [.int x, .int z])) p [.int x, .int z] := SqL.of upd_same
    refine ⟨_, rfl, p, _, 1, _, rfl, rfl, i1, atI_nat (j := 1) rfl, _, rfl, p, _, 1, _, rfl, rfl, i1, atI_nat (j := 1) rfl, _, _, rfl, rfl, .inr ⟨by omega, by omega⟩, _, _, rfl, rfl, (by decide : (0 : Int) < 2147483563), _, _, rfl, rfl, ⟨by decide, by decide⟩, _, rfl, _, _, rfl, rfl, m0, ?_⟩
    have hd : 0 ≤ z * z % 2147483563 / 11 % m := Int.emod_nonneg _ (by omega)
    have hd2 : z * z % 2147483563 / 11 % m < m := Int.emod_lt_of_pos _ m0
    have e : z * z % 2147483563 / 11 % m = ((z * z % 2147483563 / 11 % m).toNat : Int) := by omega
    show Q (.int (z * z % 2147483563 / 11 % m)) _
    rw [e]
    exact q _ _ (by omega) ((Kp.refl H).upd (List.mem_singleton.mpr rfl)) ⟨x, z, upd_same, hx, z0, by omega⟩
theorem ok_pot (D : Df K mg "_law_pot" s_L_pot) (T : Bi mg) : Cl P w K mg base "_law_pot" 1 (spPot K) := by
  refine mk_cl D sc_L_pot (fun _ _ _ _ _ _ us hl => match us, hl with | [_, _], _ => rfl) (fun vs H Q E h => ?_) (fun f cdv A outer s H vs Q E hr h => ?_)
  · obtain ⟨_, _, _, e, _⟩ := h
    rw [e]; rfl
  obtain ⟨sc, xs, k, e, hs, hl, hk, q⟩ := h
  subst e
  have nd := sc_L_pot.nd
  refine ⟨_, pss_cons (ps_set (i := 2) nd rfl (Or.inl rfl) (pe_ifExp (pt_cmpR op_lt (pv 1) (pe_callB call_len_seq (by rfl) T.len PySem.boot_len (pa_cons (pv 0) pa_nil)) (nomark _)) (pe_ix ix_list (pv 0) (pv 1) (fun _ _ => rfl)) pe_int))
    (pss_one (ps_ret (pe_lst (pa_cons (pe_callB (call_max2 rfl) (by rfl) T.max PyProof.Rows.boot_max (pa_cons pe_int (pa_cons (pe_op op_sub (pv 2) (pe_op op_pow pe_int pe_int)) pa_nil)))
      (pa_cons (pe_op op_mod (pe_op op_add (pe_op op_add (pe_op op_mul (pe_op op_mod (pv 2) pe_int) pe_int) (pe_op op_mul pe_int (pv 1))) pe_int) pe_int) pa_nil))))), ?_⟩
  have fin : ∀ (c : Int) (σ : L2.St), σ = [some (.ref sc), some (.int k), some (.int c)] → tLst (tCons (tCB (fun xs H Q => ∃ i j, xs = [.int i, .int j] ∧ Q (.int (if j > i then j else i)) H) (tCons (tC (.int 0)) (tCons (tOp (rI0 fun i j => .int (i - j)) (tVar 2) (tOp (rI CPow fun i j => .int (i ^ j.toNat)) (tC (.int 10)) (tC (.int 18)))) tNil)))
      (tCons (tOp (rI (fun _ j => 0 < j) fun i j => .int (i % j)) (tOp (rI0 fun i j => .int (i + j)) (tOp (rI0 fun i j => .int (i + j)) (tOp (rI CMul fun i j => .int (i * j)) (tOp (rI (fun _ j => 0 < j) fun i j => .int (i % j)) (tVar 2) (tC (.int 2147483629))) (tC (.int 48271))) (tOp (rI CMul fun i j => .int (i * j)) (tC (.int 7919)) (tVar 1))) (tC (.int 101))) (tC (.int 2147483647))) tNil)) σ H Q := fun c σ e => by
    subst e
    refine ⟨_, rfl, _, _, rfl, rfl, ⟨by decide, by decide, by decide⟩, _, _, rfl, rfl, _, _, rfl, _, rfl, _, _, rfl, rfl, (by decide : (0 : Int) < 2147483629), _, _, rfl, rfl, .inr (by decide), _, rfl, _, _, rfl, rfl, .inl (by decide), _, _, rfl, rfl, _, _, rfl, rfl, _, _, rfl, rfl, (by decide : (0 : Int) < 2147483647), (by decide : (2 : Nat) ≤ sizeLine), fun p hp => ?_⟩
    refine q p _ hp (Evl.Ex.new hp) ⟨_, _, upd_same, ?_, Int.emod_nonneg _ (by decide), Int.emod_lt_of_pos _ (by decide)⟩
    split
    · rename_i h; exact Int.le_of_lt h
    · exact Int.le_refl _
  have hlen : (xs.map V.int).length = xs.length := List.length_map _
  refine ⟨_, rfl, _, rfl, sc, _, rfl, .inl hs, _, _, rfl, rfl, decide ((k : Int) < ((xs.map V.int).length : Nat)), rfl, ite2 (fun h => ?_) (fun h => ?_)⟩
  · have hk2 : k < xs.length := by
      have := of_decide_eq_true h
      rw [hlen] at this
      omega
    have hx : (xs.map V.int)[k]? = some (.int xs[k]) := by rw [List.getElem?_map, List.getElem?_eq_getElem hk2]; rfl
    refine ⟨_, rfl, _, rfl, sc, _, k, _, rfl, rfl, hs, atI_nat (j := k) hx, ?_⟩
    exact fin _ _ rfl
  · exact fin _ _ rfl
end
end K24
/-! K24, part 19: the makers: names -/
namespace K24
open PySem PySem.Spec PyProof.Rows L2
section
variable {X : Cx} {k j : Nat} {x : Str} {sp : Sp} {p pos : Pos}
theorem pe_cl0 (c : Cl X.prog X.w X.K X.mg X.base x k sp) (hr : Room j X.A) (hk : k ≤ j) (hg : Gl X x := by rfl)
    (hdb : (x == ("__debug__" : Str)) = false := by decide) :
    PE X (.Call (.Name x p) [] [] pos) (tCall sp [] E0 tNil) := by
  obtain ⟨f, fd, ps, F, m, kp, b⟩ := c.ex
  exact pe_call0 F (hr.mono hk) hg m kp b .nil pass0 hdb
end
def LT : Str := "abcdefghijklmnopqrstuvwxyz"
def lts : List Nat := LT.cps.toList
theorem lts_len : lts.length = 26 := by decide
theorem lts_nd : lts.Nodup := by decide
def let0 (c : Nat) : Str := ⟨#[c]⟩ ++ "0"
theorem let0_inj {c d : Nat} (h : let0 c = let0 d) : c = d := by
  have e : (#[c, 48] : Array Nat) = #[d, 48] := congrArg Str.cps h
  have e2 : ([c, 48] : List Nat) = [d, 48] := congrArg Array.toList e
  injection e2
theorem pigeon {α : Type} [DecidableEq α] : ∀ (L : List α) (T : List α), L.Nodup → (∀ x ∈ L, x ∈ T) → L.length ≤ T.length
  | [], T, _, _ => Nat.zero_le _
  | x :: L, T, nd, h => by
    have hx := h x (by simp)
    rw [List.nodup_cons] at nd
    have ih := pigeon L (T.erase x) nd.2 fun y hy => (List.mem_erase_of_ne (fun e => nd.1 (by rw [← e]; exact hy))).mpr (h y (List.mem_cons_of_mem _ hy))
    rw [List.length_erase_of_mem hx] at ih
    have : 0 < T.length := List.length_pos_of_mem hx
    rw [List.length_cons]
    omega
theorem ok_app {a b : Str} (h : PyData.strOk a = true) (h2 : PyData.strOk b = true) : PyData.strOk (a ++ b) = true := by
  unfold PyData.strOk at h h2 ⊢
  show (a.cps ++ b.cps).all _ = true
  rw [Array.all_append, h, h2]
  rfl
theorem one_ok {c : Nat} (h : c < 1114112) : PyData.strOk ⟨#[c]⟩ = true := by
  unfold PyData.strOk
  simp [h]
theorem lt_lt : ∀ c ∈ lts, c < 1114112 := by decide
theorem lt_lt2 : ∀ c ∈ (LT ++ "0123456789" : Str).cps.toList, c < 1114112 := by decide
theorem lt_ok : ∀ c ∈ lts, PyData.strOk ⟨#[c]⟩ = true := fun c h => one_ok (lt_lt c h)
theorem lt_ok2 : ∀ c ∈ (LT ++ "0123456789" : Str).cps.toList, PyData.strOk ⟨#[c]⟩ = true := fun c h => one_ok (lt_lt2 c h)
theorem let0_ok : ∀ c ∈ lts, PyData.strOk (let0 c) = true := fun c h => ok_app (lt_ok c h) (one_ok (c := 48) (by decide))
def freeL (nm : List Str) : List Str := (lts.map let0).filter fun x => !nm.contains x
theorem freeL_ne {nm : List Str} (h : nm.length ≤ 20) : ∃ x r, freeL nm = x :: r ∧ x ∉ nm ∧ PyData.strOk x = true := by
  cases e : freeL nm with
  | nil =>
    exfalso
    have hs : ∀ x ∈ lts.map let0, x ∈ nm := fun x hx => by
      apply Classical.byContradiction
      intro hn
      have hm : x ∈ freeL nm := List.mem_filter.mpr ⟨hx, by simpa using hn⟩
      rw [e] at hm
      cases hm
    have hnd : (lts.map let0).Nodup := by
      have h0 := lts_nd
      unfold List.Nodup at h0 ⊢
      rw [List.pairwise_map]
      exact h0.imp fun h z => h (let0_inj z)
    have := pigeon _ _ hnd hs
    rw [List.length_map, lts_len] at this
    omega
  | cons x r =>
    refine ⟨x, r, rfl, ?_⟩
    have hm : x ∈ freeL nm := by rw [e]; exact List.mem_cons_self ..
    have hm2 := (List.mem_filter.mp hm).2
    obtain ⟨c, hc, e2⟩ := List.mem_map.mp (List.mem_filter.mp hm).1
    exact ⟨by simpa using hm2, by rw [← e2]; exact let0_ok c hc⟩
theorem inV_strs (x : Str) : ∀ nm : List Str, inV (.str x) (nm.map V.str) = nm.contains x
  | [] => rfl
  | y :: nm => by
    have ih := inV_strs x nm
    rw [List.map_cons]
    show (eqV (.str y) (.str x) || inV (.str x) (nm.map V.str)) = _
    rw [ih, List.contains_cons]
    congr 1
    show (y == x) = (x == y)
    exact BEq.comm
theorem flat_strs : ∀ nm : List Str, (nm.map V.str).all flatV = true
  | [] => rfl
  | y :: nm => by
    rw [List.map_cons, List.all_cons, flat_strs nm]
    rfl
def ttF (K : PySem.W.Frag) : TT := tTest (tOp (rIn K true) (tOp (fun x y H Q => ∃ i j, x = .str i ∧ y = .str j ∧ i.length + j.length ≤ sizeLine ∧ Q (.str (i ++ j)) H) (tVar 5) (tC (.str "0"))) (tVar 1))
def teF : TE := tOp (fun x y H Q => ∃ i j, x = .str i ∧ y = .str j ∧ i.length + j.length ≤ sizeLine ∧ Q (.str (i ++ j)) H) (tVar 5) (tC (.str "0"))
theorem free_pick {K : PySem.W.Frag} {p t : Addr} {nm : List Str} {fd : Str} {y4 : Option V} {H5 : Hp} {Q : VK} (ht : H5 t = some (.lst (nm.map V.str))) (hz : nm.length ≤ 20) (q : ∀ x H', x ∉ nm → PyData.strOk x = true → Evl.Ex H5 H' → Q (.str x) H') :
    tOp (rIxL K) (tLc (iStr (tVar 2)) (gName 5) (ttF K) teF [5]) (tC (.int 0)) [some (.ref p), some (.ref t), some (.str LT), some (.str fd), y4, none] H5 Q := by
  have hsz : ∀ c : Nat, (⟨#[c]⟩ : Str).length + ("0" : Str).length ≤ sizeLine := fun c => (by decide : (2 : Nat) ≤ sizeLine)
  refine ⟨_, rfl, LT, rfl, fun L hL => ?_⟩
  refine lc_it (vs := [5]) (g := gName 5) (tt := ttF K) (te := teF) walk_str (fun n H' => H5 L = none ∧ Evl.Ex H5 H' ∧ H' L = some (.lst ((((lts.take n).map let0).filter fun x => !nm.contains x).map V.str))) ⟨hL, Evl.Ex.new hL, upd_same⟩ (fun _ _ _ _ => trivial) (fun n x H1 H2 hlt pv y => ?_) (fun H1 pv => ?_)
  · obtain ⟨p0, p1, p2⟩ := pv
    obtain ⟨e1, c, ec, ex⟩ := y
    subst e1 ex
    have hc : lts[n]? = some c := by
      show LT.cps.toList[n]? = _
      rw [Array.getElem?_toList]; exact ec
    have step : (((lts.take (n + 1)).map let0).filter fun x => !nm.contains x).map V.str = (((lts.take n).map let0).filter fun x => !nm.contains x).map V.str ++ (if (!nm.contains (let0 c)) = true then [V.str (let0 c)] else []) := by
      rw [List.take_add_one, hc, List.map_append, List.filter_append, List.map_append]
      congr 1
      show (List.filter _ [let0 c]).map V.str = _
      rw [List.filter_cons]
      cases (!nm.contains (let0 c)) <;> rfl
    refine ⟨rfl, ?_⟩
    refine ⟨_, rfl, _, _, rfl, rfl, hsz c, _, rfl, t, _, rfl, .inl (SqL.of (p1 _ _ ht)), rfl, flat_strs nm, !nm.contains (let0 c), congrArg (fun b => V.bl (!b)) (inV_strs (let0 c) nm), ?_⟩
    cases hb : (!nm.contains (let0 c)) with
    | true =>
      rw [hb] at step
      refine iteT ⟨_, rfl, _, _, rfl, rfl, hsz c, _, p2, ?_, p0, Evl.Ex.mut p1 p0, ?_⟩
      · rw [List.length_map]
        refine Nat.lt_of_le_of_lt (List.length_filter_le _ _) ?_
        rw [List.length_map, List.length_take, lts_len]
        exact Nat.lt_of_le_of_lt (Nat.min_le_right _ _) (by decide)
      · rw [upd_same, step]
        rfl
    | false =>
      rw [hb] at step
      refine iteF ⟨p0, p1, ?_⟩
      rw [step, p2]
      show _ = some (HO.lst (_ ++ []))
      rw [List.append_nil]
  · obtain ⟨p0, p1, p2⟩ := pv
    have e : (lts.take LT.cps.size) = lts := List.take_length
    rw [e] at p2
    obtain ⟨x, r, ex, hx, hok⟩ := freeL_ne hz
    have p3 : H1 L = some (.lst ((freeL nm).map V.str)) := p2
    rw [ex] at p3
    exact ⟨L, _, 0, _, rfl, rfl, SqL.of p3, atI_nat (j := 0) rfl, q x H1 hx hok p1⟩
def spWords : Sp := fun vs H Q _ => vs = [] ∧ ∀ (q : Addr) (ws : List Str) H', Evl.Ex H H' → H' q = some (.lst (ws.map V.str)) → Q (.ref q) H'
def spName : Sp := fun vs H Q _ => ∃ (p t : Addr) (nm : List Str), vs = [.ref p, .ref t] ∧ Pot H p ∧ H t = some (.lst (nm.map V.str)) ∧ t ≠ p ∧ nm.length ≤ 20 ∧ ∀ (x : Str) H', x ∉ nm → PyData.strOk x = true → Kp [p] H H' → Pot H' p → Q (.str x) H'
section
variable {P : Program} {w : World} {K : PySem.W.Frag} {mg : Str → Option Value} {base : Heap}
theorem ok_words (D : Df K mg "_law_words" s_L_words) : Cl P w K mg base "_law_words" 1 spWords := by
  refine mk_cl D sc_L_words (fun _ _ _ _ _ _ us hl => match us, hl with | [], _ => rfl) (fun vs H Q E h => ?_) (fun f cdv A outer s H vs Q E hr h => ?_)
  · rw [h.1]; rfl
  obtain ⟨e, q⟩ := h
  subst e
  have nd := sc_L_words.nd
  refine ⟨_, pss_cons (ps_set (i := 0) nd rfl (Or.inl rfl) (pe_lst (pa_cons pe_str (pa_cons pe_str (pa_cons pe_str (pa_cons pe_str (pa_cons pe_str (pa_cons pe_str (pa_cons pe_str (pa_cons pe_str (pa_cons pe_str (pa_cons pe_str (pa_cons pe_str (pa_cons pe_str pa_nil))))))))))))))
    (pss_one (ps_ret (pe_op op_cat (pv 0) (pe_lst (pa_cons pe_str (pa_cons pe_str (pa_cons pe_str (pa_cons pe_str (pa_cons pe_str pa_nil))))))))), ?_⟩
  have z12 : (12 : Nat) ≤ sizeLine := by decide
  have z5 : (5 : Nat) ≤ sizeLine := by decide
  refine ⟨z12, fun p hp => ⟨_, rfl, z5, fun p2 hp2 => ⟨p, p2, _, _, rfl, rfl, (Evl.Ex.new hp2) _ _ upd_same, upd_same, (by decide : (17 : Nat) ≤ sizeLine), fun p3 hp3 => ?_⟩⟩⟩
  exact q p3 ["not", "and", "or", "xor", "plus", "same", "less", "any", "all", "pick", "join", "part", "is", "of", "at", "filters", "later"] _ ((Evl.Ex.new hp).trans ((Evl.Ex.new hp2).trans (Evl.Ex.new hp3))) upd_same
theorem ok_name (D : Df K mg "_law_name" s_L_name) (T : Bi mg) (CT : Cl P w K mg base "_law_take" 1 spTake) (CW : Cl P w K mg base "_law_words" 1 spWords) : Cl P w K mg base "_law_name" 2 spName := by
  refine mk_cl D sc_L_name (fun _ _ _ _ _ _ us hl => match us, hl with | [_, _], _ => rfl) (fun vs H Q E h => ?_) (fun f cdv A outer s H vs Q E hr h => ?_)
  · obtain ⟨_, _, _, e, _⟩ := h
    rw [e]; rfl
  obtain ⟨p, t, nm, e, hp, ht, htp, hz, q⟩ := h
  subst e
  have nd := sc_L_name.nd
  refine ⟨_, pss_cons (ps_set (i := 2) nd rfl (Or.inl rfl) pe_str)
    (pss_cons (ps_set (i := 3) nd rfl (Or.inl rfl) (pe_ix ix_str (pv 2) (pe_cl CT hr (by decide) (pa_cons (pv 0) (pa_cons pe_int pa_nil))) (fun _ _ => rfl)))
    (pss_cons (ps_for PassesOwn.never rfl (pi_range1 rfl T.range (pa_cons (pe_cl CT hr (by decide) (pa_cons (pv 0) (pa_cons (pe_ix ix_list (pe_lst (pa_cons pe_int (pa_cons pe_int (pa_cons pe_int pa_nil)))) (pe_cl CT hr (by decide) (pa_cons (pv 0) (pa_cons pe_int pa_nil))) (fun _ _ => rfl)) pa_nil))) pa_nil)) (pg_name (i := 4) nd rfl (Or.inl rfl))
      (pss_one (ps_set (i := 3) nd rfl (Or.inl rfl) (pe_op op_add_str (pv 3) (pe_ix ix_str (pe_op op_add_str (pv 2) pe_str) (pe_cl CT hr (by decide) (pa_cons (pv 0) (pa_cons pe_int pa_nil))) (fun _ _ => rfl))))))
    (pss_cons (ps_if (PW.pt (pw_or (pt_cmpR op_in_seq (pv 3) (pv 1) rfl) (pw_or1 (pt_cmpR op_in_seq (pv 3) (pe_cl0 CW hr (by decide)) rfl))))
      (pss_one (ps_set (i := 3) nd rfl (Or.inl rfl) (pe_ix ix_list (pe_lc (own := [("_law_letter", 5)]) (g := gName 5) (tt := ttF K) (te := teF) rfl nd (pi_str (pv 2))
          (blkOk_by (own := [("_law_letter", 5)]) (N := ["_law_pot_here", "_law_taken", "_law_letters", "_law_found", "_law_k", "_law_letter"]) (sc := defScope s_L_name) (by decide +kernel))
          (fun _ _ _ _ _ => pg_name (i := 5) nd rfl (Or.inl rfl)) (fun _ _ _ _ _ => pts_one (pt_cmpR op_notIn_seq (pe_op op_add_str (pv 5) pe_str) (pv 1) rfl)) (fun _ _ _ _ _ => pe_op op_add_str (pv 5) pe_str)) pe_int (fun _ _ => rfl)))) pss_nil)
    (pss_one (ps_ret (pv 3)))))), ?_⟩
  have letsAt : ∀ d : Nat, (d : Int) < 26 → ∃ c, atI LT.cps.toList (d : Int) = some c ∧ PyData.strOk ⟨#[c]⟩ = true := fun d hd => by
    have h : d < lts.length := by rw [lts_len]; omega
    exact ⟨_, atI_nat (List.getElem?_eq_getElem h), lt_ok _ (List.getElem_mem h)⟩
  have lets2 : ∀ d : Nat, (d : Int) < 36 → ∃ c, atI (LT ++ "0123456789" : Str).cps.toList (d : Int) = some c ∧ PyData.strOk ⟨#[c]⟩ = true := fun d hd => by
    have h : d < (LT ++ "0123456789" : Str).cps.toList.length := by rw [show (LT ++ "0123456789" : Str).cps.toList.length = 36 from by decide]; omega
    exact ⟨_, atI_nat (List.getElem?_eq_getElem h), lt_ok2 _ (List.getElem_mem h)⟩
  have z26 : LT.length ≤ sizeLine := by decide
  have z36 : (LT ++ "0123456789" : Str).length ≤ sizeLine := by decide
  refine ⟨_, rfl, _, rfl, p, 26, rfl, by decide, by decide, hp, fun d H1 hd k1 P1 => ?_⟩
  obtain ⟨c, hc, hcok⟩ := letsAt d hd
  refine ⟨LT, _, c, rfl, rfl, z26, hc, ?_⟩
  refine ⟨_, rfl, (by decide : (3 : Nat) ≤ sizeLine), fun b hb => ⟨_, rfl, p, 3, rfl, by decide, by decide, P1.ex (Evl.Ex.new hb), fun d2 H2 hd2 k2 P2 => ?_⟩⟩
  have hbp : b ≠ p := fun z => P1.some (by rw [← z]; exact hb)
  have h2b : H2 b = some (.lst [.int 1, .int 2, .int 8]) := k2 _ _ (fun z => hbp (List.mem_singleton.mp z)) upd_same
  have k02 : Kp [p] H H2 := k1.trans ((Kp.of (Evl.Ex.new hb)).trans k2)
  have hm : ∃ m : Nat, atI [V.int 1, V.int 2, V.int 8] (d2 : Int) = some (.int m) ∧ 0 < m ∧ m ≤ 8 := by
    have h3 : d2 = 0 ∨ d2 = 1 ∨ d2 = 2 := by omega
    rcases h3 with e | e | e <;> subst e
    · exact ⟨1, rfl, by decide, by decide⟩
    · exact ⟨2, rfl, by decide, by decide⟩
    · exact ⟨8, rfl, by decide, by decide⟩
  obtain ⟨m, hm, hm0, hm8⟩ := hm
  refine ⟨b, _, _, _, rfl, rfl, SqL.of h2b, hm, p, m, rfl, by omega, by omega, P2, fun d3 H3 hd3 k3 P3 => ?_⟩
  have k03 : Kp [p] H H3 := k02.trans k3
  refine ⟨_, rfl, by omega, by omega, ?_⟩
  refine for_it walk_range (fun n σ H' => ∃ (fd : Str) (y4 : _), σ = [some (.ref p), some (.ref t), some (.str LT), some (.str fd), y4, none] ∧ fd.length ≤ 1 + n ∧ PyData.strOk fd = true ∧ Kp [p] H H' ∧ Pot H' p) ⟨⟨#[c]⟩, none, rfl, Nat.le_refl _, hcok, k03, P3⟩ (fun _ _ _ _ _ => trivial) (fun n x σ H4 H5 hlt pv y => ?_) (fun σ H4 pv => ?_)
  · obtain ⟨fd, y4, e, hfd, hfok, k4, P4⟩ := pv
    obtain ⟨e1, e2⟩ := y
    subst e e1 e2
    refine ⟨_, rfl, _, rfl, _, _, rfl, rfl, z36, _, rfl, p, 36, rfl, by decide, by decide, P4, fun d5 H6 hd5 k5 P5 => ?_⟩
    obtain ⟨c5, hc5, hok5⟩ := lets2 d5 hd5
    refine ⟨_, _, c5, rfl, rfl, z36, hc5, _, _, rfl, rfl, ?_, ?_⟩
    · refine Nat.le_trans (Nat.add_le_add hfd (Nat.le_refl 1)) (Nat.le_trans (by omega : 1 + n + 1 ≤ 100) (by decide))
    · refine ⟨_, _, rfl, ?_, ok_app hfok hok5, k4.trans k5, P5⟩
      show ((fd ++ (⟨#[c5]⟩ : Str)).length) ≤ _
      rw [show (fd ++ (⟨#[c5]⟩ : Str)).length = fd.length + 1 from by show (fd.cps ++ #[c5]).size = _; rw [Array.size_append]; rfl]
      omega
  · obtain ⟨fd, y4, e, hfd, hfok, k4, P4⟩ := pv
    subst e
    have h4t : H4 t = some (.lst (nm.map V.str)) := k4 _ _ (fun z => htp (List.mem_singleton.mp z)) ht
    have fin : ∀ (x : Str) (H5 : Hp), x ∉ nm → PyData.strOk x = true → Kp [p] H4 H5 → Pot H5 p → Q (.str x) H5 := fun x H5 hx hok k5 P5 => q x H5 hx hok (k4.trans k5) P5
    refine ⟨_, rfl, _, rfl, t, _, rfl, .inl (SqL.of h4t), rfl, flat_strs nm, nm.contains fd, congrArg V.bl (inV_strs fd nm), ?_⟩
    cases hb : nm.contains fd with
    | true =>
      refine iteT (iteT ?_)
      exact free_pick h4t hz fun x H5 hx hok e5 => ⟨_, rfl, fin x H5 hx hok (Kp.of e5) (P4.ex e5)⟩
    | false =>
      refine iteF ⟨_, rfl, rfl, fun q2 ws H5 e5 hq2 => ⟨q2, _, rfl, .inl (SqL.of hq2), rfl, flat_strs ws, ws.contains fd, congrArg V.bl (inV_strs fd ws), ?_⟩⟩
      cases ws.contains fd with
      | true =>
        refine iteT ?_
        exact free_pick (e5 _ _ h4t) hz fun x H6 hx hok e6 => ⟨_, rfl, fin x H6 hx hok (Kp.of (e5.trans e6)) (P4.ex (e5.trans e6))⟩
      | false =>
        exact iteF ⟨_, rfl, fin fd H5 (fun z => by rw [List.contains_iff_mem.mpr z] at hb; cases hb) hfok (Kp.of e5) (P4.ex e5)⟩
end
end K24
/-! K24, part 20: the makers: names, bits -/
namespace K24
open PySem PySem.Spec PyProof.Rows L2
theorem join_signs (ws : List G) : Txt.join "" (ws.map fun b => R [b]) = R ws := by
  have e : (ws.map fun b => R [b]) = (ws.map fun b => [b.c]).map SX.S := by
    rw [List.map_map]
    rfl
  have e0 : ("" : Str) = SX.S [] := rfl
  rw [e, e0, SX.join_S]
  show SX.S (TL.joinL [] (ws.map fun b => [b.c])) = SX.S (ws.map G.c)
  congr 1
  clear e
  induction ws with
  | nil => rfl
  | cons b r ih =>
    cases r with
    | nil => rfl
    | cons c r =>
      show [b.c] ++ [] ++ TL.joinL [] ((c :: r).map fun b => [b.c]) = _
      rw [ih]
      · rfl
      all_goals rfl
theorem signs_fit (ws : List G) (h : ws.length ≤ 1000) : ((ws.map fun b => R [b]).map (·.length)).sum + (ws.map fun b => R [b]).length * ("" : Str).length ≤ 16777216 := by
  have e : ((ws.map fun b => R [b]).map (·.length)).sum = ws.length := by
    clear h
    induction ws with
    | nil => rfl
    | cons b r ih =>
      rw [List.map_cons, List.map_cons, List.sum_cons, ih]
      show 1 + r.length = r.length + 1
      omega
  rw [e]
  show ws.length + _ * 0 ≤ _
  omega
theorem R_at {l : List G} {d : Nat} {g : G} (h : l[d]? = some g) : (R l).cps.toList[d]? = some g.c := by
  show (l.map G.c)[d]? = _
  rw [List.getElem?_map, h]; rfl
def spNames : Sp := fun vs H Q _ => ∃ (p : Addr) (m : Nat), vs = [.ref p, .int m] ∧ m ≤ 20 ∧ Pot H p ∧ ∀ (q : Addr) (nm : List Str) H', nm.Nodup → (∀ x ∈ nm, PyData.strOk x = true) → nm.length = m → H q = none → Kp [p] H H' → Pot H' p → H' q = some (.lst (nm.map V.str)) → Q (.ref q) H'
def spBits : Sp := fun vs H Q _ => ∃ (p : Addr) (n : Nat) (sg : List G), vs = [.ref p, .int n, .str (R sg)] ∧ n ≤ 1000 ∧ 0 < sg.length ∧ sg.length ≤ 1000 ∧ Pot H p ∧ ∀ (l : List G) H', l.length = n → (∀ g ∈ l, g ∈ sg) → Kp [p] H H' → Pot H' p → Q (.str (R l)) H'
section
variable {P : Program} {w : World} {K : PySem.W.Frag} {mg : Str → Option Value} {base : Heap}
theorem ok_names (D : Df K mg "_law_names" s_L_names) (T : Bi mg) (CN : Cl P w K mg base "_law_name" 2 spName) : Cl P w K mg base "_law_names" 3 spNames := by
  refine mk_cl D sc_L_names (fun _ _ _ _ _ _ us hl => match us, hl with | [_, _], _ => rfl) (fun vs H Q E h => ?_) (fun f cdv A outer s H vs Q E hr h => ?_)
  · obtain ⟨_, _, e, _⟩ := h
    rw [e]; rfl
  obtain ⟨p, m, e, hm, hp, q⟩ := h
  subst e
  have nd := sc_L_names.nd
  refine ⟨_, pss_cons (ps_set (i := 2) nd rfl (Or.inl rfl) (pe_lst pa_nil))
    (pss_cons (ps_for PassesOwn.never rfl (pi_range1 rfl T.range (pa_cons (pv 1) pa_nil)) (pg_name (i := 3) nd rfl (Or.inl rfl))
      (pss_one (ps_expr (pe_bm PySem.F.plainAttrs_list PySem.F.slot_list_append PySem.F.type_list_append mt_append (pv 2) (pa_cons (pe_cl CN hr (by decide) (pa_cons (pv 0) (pa_cons (pv 2) pa_nil))) pa_nil)))))
    (pss_one (ps_ret (pv 2)))), ?_⟩
  refine ⟨(by decide : (0 : Nat) ≤ sizeLine), fun b hb => ?_⟩
  have hbp : b ≠ p := fun z => hp.some (by rw [← z]; exact hb)
  refine ⟨_, rfl, _, rfl, by omega, by omega, ?_⟩
  refine for_it walk_range (fun n σ H' => ∃ (nm : List Str) (y : _), σ = [some (.ref p), some (.int m), some (.ref b), y] ∧ nm.Nodup ∧ (∀ x ∈ nm, PyData.strOk x = true) ∧ nm.length = n ∧ Kp [p] H H' ∧ Pot H' p ∧ H' b = some (.lst (nm.map V.str))) ⟨[], none, rfl, List.nodup_nil, (fun g h => by cases h), rfl, Kp.of (Evl.Ex.new hb), hp.ex (Evl.Ex.new hb), upd_same⟩ (fun _ _ _ _ _ => trivial) (fun n x σ H4 H5 hlt pv y => ?_) (fun σ H4 pv => ?_)
  · obtain ⟨nm, y3, e, hnd, hok, hnl, k4, P4, hb4⟩ := pv
    obtain ⟨e1, e2⟩ := y
    subst e e1 e2
    refine ⟨_, rfl, .inl ⟨rfl, _, SqL.of hb4⟩, _, rfl, _, rfl, p, b, nm, rfl, P4, hb4, hbp, by omega, fun x H6 hx hxok k5 P5 => ?_⟩
    have hb6 : H6 b = some (.lst (nm.map V.str)) := k5 _ _ (fun z => hbp (List.mem_singleton.mp z)) hb4
    refine ⟨b, _, _, rfl, rfl, hb6, ?_, nm ++ [x], _, rfl, ?_, ?_, ?_, (k4.trans k5).mut hb, ?_, ?_⟩
    · rw [List.length_map, hnl]
      exact Nat.lt_of_lt_of_le hlt (Nat.le_trans (by omega : (m : Int).toNat ≤ 20) (by decide))
    · rw [List.nodup_append]
      refine ⟨hnd, by simp, fun a ha c hc z => ?_⟩
      rw [List.mem_singleton.mp hc] at z
      exact hx (by rw [← z]; exact ha)
    · intro y hy
      rcases List.mem_append.mp hy with h | h
      · exact hok y h
      · rw [List.mem_singleton.mp h]; exact hxok
    · rw [List.length_append, hnl]; rfl
    · obtain ⟨x1, y1, h1, h2⟩ := P5
      exact ⟨x1, y1, by rw [upd_ne (Ne.symm hbp)]; exact h1, h2⟩
    · rw [upd_same, List.map_append]
      rfl
  · obtain ⟨nm, y3, e, hnd, hok, hnl, k4, P4, hb4⟩ := pv
    subst e
    exact ⟨_, rfl, q b nm H4 hnd hok (by rw [hnl]; rfl) hb k4 P4 hb4⟩
theorem ok_bits (D : Df K mg "_law_bits" s_L_bits) (T : Bi mg) (CT : Cl P w K mg base "_law_take" 1 spTake) : Cl P w K mg base "_law_bits" 2 spBits := by
  refine mk_cl D sc_L_bits (fun _ _ _ _ _ _ us hl => match us, hl with | [_, _, _], _ => rfl) (fun vs H Q E h => ?_) (fun f cdv A outer s H vs Q E hr h => ?_)
  · obtain ⟨_, _, _, e, _⟩ := h
    rw [e]; rfl
  obtain ⟨p, m, sg, e, hm, hs0, hs1, hp, q⟩ := h
  subst e
  have nd := sc_L_bits.nd
  refine ⟨_, pss_one (ps_ret (pe_join pe_str (pe_lc (own := [("_law_k", 3)]) (g := gName 3) (tt := tYes) (te := tOp rIxS (tVar 2) (tCall spTake [] E0 (tCons (tVar 0) (tCons (tCB (fun xs H Q => ∃ z, xs = [.str z] ∧ z.length ≤ sizeLine ∧ Q (.int z.length) H) (tCons (tVar 2) tNil)) tNil)))) rfl nd (pi_range1 rfl T.range (pa_cons (pv 1) pa_nil))
        (blkOk_by (own := [("_law_k", 3)]) (N := ["_law_pot_here", "_law_width", "_law_signs", "_law_k"]) (sc := defScope s_L_bits) (by decide +kernel)) (fun _ _ _ _ _ => pg_name (i := 3) nd rfl (Or.inl rfl))
        (fun _ _ _ _ _ => pts_nil) (fun _ _ _ _ _ => pe_ix ix_str (pv 2) (pe_cl CT hr (by decide) (pa_cons (pv 0) (pa_cons (pe_callB call_len_str (by rfl) T.len PySem.boot_len (pa_cons (pv 2) pa_nil)) pa_nil))) (fun _ _ => rfl))))), ?_⟩
  have hz : (R sg).length ≤ sizeLine := by rw [R_len]; exact sz100 hs1
  refine ⟨⟨_, rfl⟩, _, rfl, m, rfl, by omega, by omega, fun L hL => ?_⟩
  have hLp : L ≠ p := fun z => hp.some (by rw [← z]; exact hL)
  refine lc_it walk_range (fun n H' => H L = none ∧ ∃ l : List G, l.length = n ∧ (∀ g ∈ l, g ∈ sg) ∧ Kp [p] H H' ∧ Pot H' p ∧ H' L = some (.lst (l.map fun g => V.str (R [g])))) ⟨hL, [], rfl, (fun g h => by cases h), Kp.of (Evl.Ex.new hL), hp.ex (Evl.Ex.new hL), upd_same⟩ (fun _ _ _ _ => trivial) (fun n x H4 H5 hlt pv y => ?_) (fun H4 pv => ?_)
  · obtain ⟨p0, l, hl, hsub, k4, P4, hb4⟩ := pv
    obtain ⟨e1, e2⟩ := y
    subst e1 e2
    refine ⟨rfl, ?_⟩
    refine ⟨_, rfl, _, rfl, _, rfl, R sg, rfl, hz, p, _, rfl, by rw [R_len]; omega, by rw [R_len]; omega, P4, fun d H6 hd k5 P5 => ?_⟩
    rw [R_len] at hd
    obtain ⟨g, hg⟩ : ∃ g, sg[d]? = some g := ⟨_, List.getElem?_eq_getElem (by omega)⟩
    refine ⟨R sg, d, g.c, rfl, rfl, hz, atI_nat (R_at hg), ?_⟩
    refine ⟨_, k5 _ _ (fun z => hLp (List.mem_singleton.mp z)) hb4, ?_, p0, l ++ [g], by rw [List.length_append, hl]; rfl, fun u hu => ?_, (k4.trans k5).mut p0, ?_, ?_⟩
    · rw [List.length_map, hl]
      exact Nat.lt_of_lt_of_le hlt (Nat.le_trans (by omega : (m : Int).toNat ≤ 1000) (by decide))
    · rcases List.mem_append.mp hu with h | h
      · exact hsub u h
      · rw [List.mem_singleton.mp h]; exact List.mem_of_getElem? hg
    · obtain ⟨x, y, h1, h2⟩ := P5
      exact ⟨x, y, by rw [upd_ne (Ne.symm hLp)]; exact h1, h2⟩
    · rw [upd_same, List.map_append]
      rfl
  · obtain ⟨p0, l, hl, hsub, k4, P4, hb4⟩ := pv
    refine ⟨_, L, l.map fun b => R [b], rfl, rfl, .inl (SqL.of (by rw [hb4, List.map_map]; rfl)), signs_fit _ (by omega), ?_⟩
    rw [join_signs]
    exact q l H4 (by rw [hl]; rfl) hsub k4 P4
end
end K24
/-! K24, part 21: the makers: leaves -/
namespace K24
open PySem PySem.Spec PyProof.Rows L2
abbrev WD := List (Str × Nat)
def wkv (W : WD) : List (Key × V) := W.map fun p => (Sum.inr p.1, V.int p.2)
structure WOk (W : WD) : Prop where
  nd : (W.map (·.1)).Nodup
  b : ∀ p ∈ W, 1 ≤ p.2 ∧ p.2 ≤ 8 ∧ PyData.strOk p.1 = true
  len : W.length ≤ 20
theorem val_wkv {W : WD} {x : Str} {n : Nat} (h : W.lookup x = some n) : valV (wkv W) (Sum.inr x) = some (.int n) := by
  induction W with
  | nil => cases h
  | cons p r ih =>
    obtain ⟨y, m⟩ := p
    show valV ((Sum.inr y, V.int m) :: wkv r) (Sum.inr x) = _
    by_cases e : x = y
    · subst e
      rw [List.lookup_cons_self] at h
      cases h
      exact valV_pos rfl
    · rw [valV_neg (fun q => e (Sum.inr.inj q).symm)]
      have hb : (x == y) = false := beq_eq_false_iff_ne.mpr e
      rw [List.lookup_cons, hb] at h
      exact ih h
theorem look_mem {α : Type} {W : List (Str × α)} (nd : (W.map (·.1)).Nodup) {x : Str} {n : α} (h : (x, n) ∈ W) : W.lookup x = some n := by
  induction W with
  | nil => cases h
  | cons p r ih =>
    obtain ⟨y, m⟩ := p
    rw [List.map_cons, List.nodup_cons] at nd
    rcases List.mem_cons.mp h with e | e
    · cases e
      exact List.lookup_cons_self
    · have ne : x ≠ y := fun z => nd.1 (by rw [← z]; exact List.mem_map.mpr ⟨_, e, rfl⟩)
      rw [List.lookup_cons, beq_eq_false_iff_ne.mpr ne]
      exact ih nd.2 e
theorem mem_look {α : Type} {W : List (Str × α)} {x : Str} {n : α} (h : W.lookup x = some n) : (x, n) ∈ W := by
  induction W with
  | nil => cases h
  | cons p r ih =>
    obtain ⟨y, m⟩ := p
    by_cases e : x = y
    · subst e
      rw [List.lookup_cons_self] at h
      cases h
      exact List.mem_cons_self ..
    · rw [List.lookup_cons, beq_eq_false_iff_ne.mpr e] at h
      exact List.mem_cons_of_mem _ (ih h)
/-- the names of a dict that pass a test -/
theorem lc_names {W : WD} {f : Str × Nat → Bool} {d : Addr} {od : Obj} (hz : W.length ≤ 20) {σ : L2.St} {vs : List Nat} {i : Nat} {tt : TT} {te : TE} {H1 : Hp} {D : Addr} {Qd : Hp → Prop} (hd : H1 d = some (.frz od (.dK (wkv W)))) (hD : H1 D = none)
    (hw : ∀ x, wipe ((wipe σ vs).set i (some x)) vs = wipe σ vs)
    (ht : ∀ p ∈ W, ∀ H, Evl.Ex H1 H → ∀ Q : Bool → Hp → Prop, Q (f p) H → tt ((wipe σ vs).set i (some (.str p.1))) H Q)
    (he : ∀ (x : V) (H : Hp) (Q : VK), Q x H → te ((wipe σ vs).set i (some x)) H Q)
    (hq : ∀ H', Evl.Ex H1 H' → H' D = some (.lst (((W.filter f).map (·.1)).map V.str)) → Qd H') :
    ∃ W' : Nat → Nat → Hp → Prop, (∃ m, W' 0 m (upd H1 D (.lst []))) ∧ ∀ n m H, W' n m H →
      ((Itk d od (wkv W)).stop n H ∧ Qd H) ∨ ((Itk d od (wkv W)).go n H ∧ ∃ Nx : Hp → Prop, (∀ H', Nx H' → ∃ m', m' < m ∧ W' (n + 1) m' H') ∧ ∀ x H', (Itk d od (wkv W)).yld n H x H' → gName i x (wipe σ vs) H' fun σ2 H2 => wipe σ2 vs = wipe σ vs ∧ tt σ2 H2 fun b H3 =>
        if b = true then te σ2 H3 fun y H4 => ∃ acc, H4 D = some (.lst acc) ∧ acc.length < sizeLine ∧ Nx (upd H4 D (.lst (acc ++ [y]))) else Nx H3) := by
  refine lc_it walk_keys (fun n H => H1 D = none ∧ Evl.Ex H1 H ∧ H D = some (.lst ((((W.take n).filter f).map (·.1)).map V.str))) ⟨hD, Evl.Ex.new hD, upd_same⟩ (fun n H _ p => p.2.1 _ _ hd) (fun n x H H' hlt p y => ?_) (fun H p => ?_)
  · obtain ⟨p0, p1, p2⟩ := p
    obtain ⟨e2, k, v, ek, ex⟩ := y
    subst e2 ex
    unfold wkv at ek
    rw [List.getElem?_map] at ek
    cases hp : W[n]? with
    | none => rw [hp] at ek; cases ek
    | some q =>
      rw [hp] at ek
      cases ek
      have hm := List.mem_of_getElem? hp
      have step : (((W.take (n + 1)).filter f).map (·.1)).map V.str = (((W.take n).filter f).map (·.1)).map V.str ++ (if f q = true then [V.str q.1] else []) := by
        rw [List.take_add_one, hp, List.filter_append, List.map_append, List.map_append]
        congr 1
        show ((List.filter f [q]).map (·.1)).map V.str = _
        rw [List.filter_cons]
        cases f q <;> rfl
      refine ⟨hw _, ?_⟩
      refine ht q hm H' p1 _ ?_
      cases hb : f q with
      | true =>
        rw [hb] at step
        refine iteT (he _ _ _ ⟨_, p2, ?_, p0, Evl.Ex.mut p1 p0, ?_⟩)
        · rw [List.length_map, List.length_map]
          refine Nat.lt_of_le_of_lt (List.length_filter_le _ _) ?_
          rw [List.length_take]
          exact Nat.lt_of_le_of_lt (Nat.le_trans (Nat.min_le_right _ _) hz) (by decide)
        · rw [upd_same, step]
          rfl
      | false =>
        rw [hb] at step
        refine iteF ⟨p0, p1, ?_⟩
        rw [step, p2]
        show _ = some (HO.lst (_ ++ []))
        rw [List.append_nil]
  · obtain ⟨p0, p1, p2⟩ := p
    rw [List.take_of_length_le (by unfold wkv; rw [List.length_map]; exact Nat.le_refl _)] at p2
    exact hq H p1 p2
theorem dp_names {K : PySem.W.Frag} {H : Hp} : ∀ ws : List Str, DpAll K H (ws.map V.str) (ws.map PyData.str)
  | [] => .nil
  | w :: ws => .cons (.str _) (dp_names ws)
theorem lay_names : ∀ ws : List Str, (∀ x ∈ ws, PyData.strOk x = true) → PyData.canLayAll0 (ws.map PyData.str) = true
  | [], _ => by simp [PyData.canLayAll0]
  | w :: ws, h => by
    have ih := lay_names ws fun x hx => h x (List.mem_cons_of_mem _ hx)
    have h1 := h w (List.mem_cons_self ..)
    rw [List.map_cons]
    simp only [PyData.canLayAll0, PyData.canLay0, ih, h1, Bool.and_true]
theorem dep_names : ∀ ws : List Str, PyData.depthAll (ws.map PyData.str) ≤ 1
  | [] => by simp [PyData.depthAll]
  | w :: ws => by
    have ih := dep_names ws
    rw [List.map_cons]
    simp only [PyData.depthAll, PyData.depth]
    omega
theorem shaped_names (ws : List Str) (h : ∀ x ∈ ws, PyData.strOk x = true) : SeqAt.shaped (.list (ws.map PyData.str)) = true := by
  have h1 := dep_names ws
  have h2 : PyData.depth (.list (ws.map PyData.str)) ≤ 64 := by
    simp only [PyData.depth]
    omega
  show (PyData.canLay0 _ && decide (PyData.depth _ ≤ 64)) = true
  rw [Bool.and_eq_true]
  exact ⟨by simp only [PyData.canLay0]; exact lay_names ws h, decide_eq_true h2⟩
theorem ne_nil {K : PySem.W.Frag} {H : Hp} {p p2 : Addr} {nm : List Str} {Q : VK} (h1 : H p = some (.lst (nm.map V.str))) (h2 : H p2 = some (.lst [])) (hok : ∀ x ∈ nm, PyData.strOk x = true) (q : Q (.bl (!nm.isEmpty)) H) : rNeD K (.ref p) (.ref p2) H Q := by
  refine ⟨.list (nm.map PyData.str), .list [], .lst (SqL.of h1) (dp_names nm), .lst (xs := []) (SqL.of h2) .nil, shaped_names nm hok, rfl, ?_⟩
  cases nm with
  | nil => exact q
  | cons x r => exact q
theorem unfrz {H H' : Hp} {d : Addr} {u f : HO} (h : H d = some u) (e : Evl.Ex (upd H d f) H') : Evl.Ex H (upd H' d u) := fun b o hb => by
  by_cases z : b = d
  · subst z
    rw [upd_same, ← hb, h]
  · rw [upd_ne z]
    exact e b o (by rw [upd_ne z]; exact hb)
theorem eq_int (a b : Nat) : decide (V.int (a : Int) = V.int (b : Int)) = decide (a = b) := by
  by_cases e : a = b
  · subst e; simp
  · rw [decide_eq_false e, decide_eq_false fun z => e (by have := V.int.inj z; omega)]
theorem lock_names {W : WD} {f : Str × Nat → Bool} {d : Addr} (hz : W.length ≤ 20) {σ : L2.St} {i : Nat} {tt : TT} {H : Hp} {D : Ends} (hd : H d = some (.dK (wkv W))) (h1 : σ[1]? = some (some (.ref d)))
    (hw : ∀ x, wipe ((wipe σ [6]).set 6 (some x)) [6] = wipe σ [6]) (h6 : ∀ x, ((wipe σ [6]).set 6 (some x))[6]? = some (some x))
    (ht : ∀ p ∈ W, ∀ (H : Hp) (od : Obj), H d = some (.frz od (.dK (wkv W))) → ∀ Q : Bool → Hp → Prop, Q (f p) H → tt ((wipe σ [6]).set 6 (some (.str p.1))) H Q)
    (hq : ∀ (L : Addr) (H' : Hp), H L = none → Evl.Ex H H' → H' L = some (.lst (((W.filter f).map (·.1)).map V.str)) → D.nx (σ.set i (some (.ref L))) H') :
    tLock (tAsg (tLc (iKeys (tVar 1)) (gName 6) tt (tVar 6) [6]) (gName i)) D σ H := by
  refine ⟨d, .dK (wkv W), hd, trivial, fun od => ?_⟩
  refine ⟨_, h1, d, od, rfl, .inl ⟨wkv W, upd_same, fun L hL => ?_⟩⟩
  have hLd : L ≠ d := fun z => by rw [z, upd_same] at hL; cases hL
  have hL0 : H L = none := by rw [upd_ne hLd] at hL; exact hL
  refine lc_names (f := f) (i := 6) (vs := [6]) (tt := tt) (te := tVar 6) hz upd_same hL hw (fun p hp H2 e2 Q2 q2 => ht p hp H2 od (e2 _ _ upd_same) Q2 q2) (fun x H Q q => ⟨_, h6 x, q⟩) (fun H1 e1 hL1 => ?_)
  refine ⟨e1 _ _ upd_same, ?_⟩
  exact hq L _ hL0 (unfrz hd e1) (by rw [upd_ne hLd]; exact hL1)
theorem dget_frz {W : WD} {H : Hp} {d : Addr} {od : Obj} {x : Str} {n : Nat} (h : H d = some (.frz od (.dK (wkv W)))) (l : W.lookup x = some n) : DGet H d (.str x) (some (.int n)) :=
  .inl ⟨wkv W, .inr x, .inr ⟨od, h⟩, rfl, (val_wkv l).symm⟩
def spLeaf : Sp := fun vs H Q _ => ∃ (p d : Addr) (W : WD) (n : Nat), vs = [.ref p, .ref d, .int n] ∧ Pot H p ∧ H d = some (.dK (wkv W)) ∧ WOk W ∧ 1 ≤ n ∧ n ≤ 8 ∧ ∀ (t : Tm) (v : V) H', Wt W t n → deep t ≤ 2 → At H' t v → Kp [p] H H' → Pot H' p → Q v H'
section
variable {P : Program} {w : World} {K : PySem.W.Frag} {mg : Str → Option Value} {base : Heap}
theorem ok_leaf (D : Df K mg "_law_leaf" s_L_leaf) (T : Bi mg) (CT : Cl P w K mg base "_law_take" 1 spTake) (CB : Cl P w K mg base "_law_bits" 2 spBits) : Cl P w K mg base "_law_leaf" 3 spLeaf := by
  refine mk_cl D sc_L_leaf (fun _ _ _ _ _ _ us hl => match us, hl with | [_, _, _], _ => rfl) (fun vs H Q E h => ?_) (fun f cdv A outer s H vs Q E hr h => ?_)
  · obtain ⟨_, _, _, _, e, _⟩ := h
    rw [e]; rfl
  obtain ⟨p, d, W, n, e, hp, hd, hW, hn1, hn8, q⟩ := h
  subst e
  have nd := sc_L_leaf.nd
  refine ⟨_, pss_cons (ps_lock (ps_setLc (i := 3) (own := [("_law_name_here", 6)]) (g := gName 6) (tt := tTest (tOp rEq (tDGet (tVar 1) (tVar 6)) (tVar 2))) rfl nd rfl rfl (sw_true rfl rfl rfl (by decide +kernel)) (pi_keys (pv 1))
        (blkOk_by (own := [("_law_name_here", 6)]) (N := ["_law_pot_here", "_law_widths", "_law_width", "_law_same", "_law_wider", "_law_way", "_law_name_here", "_law_low"]) (sc := defScope s_L_leaf) (by decide +kernel))
        (fun _ _ _ _ _ => pg_name (i := 6) nd rfl (Or.inl rfl)) (fun _ _ _ _ _ => pts_one (pt_cmpR op_eq (pe_dget (hu_of hr) (pv 1) (pv 6) (fun _ _ => rfl)) (pv 2) (nomark _))) (fun _ _ _ _ _ => pv 6)))
    (pss_cons (ps_lock (ps_setLc (i := 4) (own := [("_law_name_here", 6)]) (g := gName 6) (tt := tTest (tOp (rI0 fun i j => .bl (decide (j < i))) (tDGet (tVar 1) (tVar 6)) (tVar 2))) rfl nd rfl rfl (sw_true rfl rfl rfl (by decide +kernel)) (pi_keys (pv 1))
        (blkOk_by (own := [("_law_name_here", 6)]) (N := ["_law_pot_here", "_law_widths", "_law_width", "_law_same", "_law_wider", "_law_way", "_law_name_here", "_law_low"]) (sc := defScope s_L_leaf) (by decide +kernel))
        (fun _ _ _ _ _ => pg_name (i := 6) nd rfl (Or.inl rfl)) (fun _ _ _ _ _ => pts_one (pt_cmpR op_gt (pe_dget (hu_of hr) (pv 1) (pv 6) (fun _ _ => rfl)) (pv 2) (nomark _))) (fun _ _ _ _ _ => pv 6)))
    (pss_cons (ps_set (i := 5) nd rfl (Or.inl rfl) (pe_cl CT hr (by decide) (pa_cons (pv 0) (pa_cons pe_int pa_nil))))
    (pss_cons (ps_if (PW.pt (pw_and (pt_cmpR op_gt (pv 5) pe_int (nomark _)) (pw_and1 (pt_cmpR (op_neD hr.units) (pv 3) (pe_lst pa_nil) (nomark _)))))
      (pss_one (ps_ret (pe_tup (pa_cons pe_str (pa_cons (pe_ix ix_list (pv 3) (pe_cl CT hr (by decide) (pa_cons (pv 0) (pa_cons (pe_callB call_len_seq (by rfl) T.len PySem.boot_len (pa_cons (pv 3) pa_nil)) pa_nil))) (fun _ _ => rfl)) pa_nil))))) pss_nil)
    (pss_cons (ps_if (PW.pt (pw_and (pt_cmpR op_gt (pv 5) pe_int (nomark _)) (pw_and1 (pt_cmpR (op_neD hr.units) (pv 4) (pe_lst pa_nil) (nomark _)))))
      (pss_cons (ps_set (i := 6) nd rfl (Or.inl rfl) (pe_ix ix_list (pv 4) (pe_cl CT hr (by decide) (pa_cons (pv 0) (pa_cons (pe_callB call_len_seq (by rfl) T.len PySem.boot_len (pa_cons (pv 4) pa_nil)) pa_nil))) (fun _ _ => rfl)))
      (pss_cons (ps_set (i := 7) nd rfl (Or.inl rfl) (pe_cl CT hr (by decide) (pa_cons (pv 0) (pa_cons (pe_op op_add (pe_op op_sub (pe_dget (hu_of hr) (pv 1) (pv 6) (fun _ _ => rfl)) (pv 2)) pe_int) pa_nil))))
      (pss_one (ps_ret (pe_tup (pa_cons pe_str (pa_cons (pe_tup (pa_cons pe_str (pa_cons (pv 6) pa_nil))) (pa_cons (pe_op op_sub (pe_op op_add (pv 7) (pv 2)) pe_int) (pa_cons (pv 7) pa_nil))))))))) pss_nil)
    (pss_one (ps_ret (pe_tup (pa_cons pe_str (pa_cons (pe_cl CB hr (by decide) (pa_cons (pv 0) (pa_cons (pv 2) (pa_cons pe_str pa_nil)))) pa_nil))))))))), ?_⟩
  have z0 : (0 : Nat) ≤ sizeLine := by decide
  have z2 : (2 : Nat) ≤ sizeLine := by decide
  have z4 : (4 : Nat) ≤ sizeLine := by decide
  obtain ⟨same, hsame⟩ : ∃ s, s = (W.filter fun q => decide (q.2 = n)).map (·.1) := ⟨_, rfl⟩
  obtain ⟨wider, hwider⟩ : ∃ s, s = (W.filter fun q => decide (n < q.2)).map (·.1) := ⟨_, rfl⟩
  have same_ok : ∀ x ∈ same, W.lookup x = some n ∧ PyData.strOk x = true := fun x hx => by
    rw [hsame] at hx
    obtain ⟨⟨y, m⟩, hm, e⟩ := List.mem_map.mp hx
    obtain ⟨hm1, hm2⟩ := List.mem_filter.mp hm
    have e2 : m = n := of_decide_eq_true hm2
    subst e e2
    exact ⟨look_mem hW.nd hm1, (hW.b _ hm1).2.2⟩
  have wider_ok : ∀ x ∈ wider, ∃ m, W.lookup x = some m ∧ n < m ∧ m ≤ 8 ∧ PyData.strOk x = true := fun x hx => by
    rw [hwider] at hx
    obtain ⟨⟨y, m⟩, hm, e⟩ := List.mem_map.mp hx
    obtain ⟨hm1, hm2⟩ := List.mem_filter.mp hm
    have e2 : n < m := of_decide_eq_true hm2
    subst e
    exact ⟨m, look_mem hW.nd hm1, e2, (hW.b _ hm1).2.1, (hW.b _ hm1).2.2⟩
  have same_len : same.length ≤ 20 := by rw [hsame, List.length_map]; exact Nat.le_trans (List.length_filter_le _ _) hW.len
  have wider_len : wider.length ≤ 20 := by rw [hwider, List.length_map]; exact Nat.le_trans (List.length_filter_le _ _) hW.len
  refine lock_names (f := fun q => decide (q.2 = n)) hW.len hd rfl (fun _ => rfl) (fun _ => rfl) (fun q hq H2 od hod Q2 q2 => ⟨_, rfl, _, rfl, d, _, rfl, dget_frz hod (look_mem hW.nd hq), _, rfl, rfl, decide (q.2 = n), congrArg V.bl (eq_int _ _), q2⟩) (fun L HA hL eA hLA => ?_)
  rw [← hsame] at hLA
  have hdA := eA _ _ hd
  refine lock_names (f := fun q => decide (n < q.2)) hW.len hdA rfl (fun _ => rfl) (fun _ => rfl) (fun q hq H2 od hod Q2 q2 => ⟨_, rfl, _, rfl, d, _, rfl, dget_frz hod (look_mem hW.nd hq), _, rfl, _, _, rfl, rfl, decide (n < q.2), congrArg V.bl (by rw [decide_eq_decide]; omega), q2⟩) (fun M HB hM eB hMB => ?_)
  rw [← hwider] at hMB
  have hPB : Pot HB p := hp.ex (eA.trans eB)
  have hLp : L ≠ p := fun z => hp.some (by rw [← z]; exact hL)
  have hMp : M ≠ p := fun z => (hp.ex eA).some (by rw [← z]; exact hM)
  have hLB : HB L = some (.lst (same.map V.str)) := eB _ _ hLA
  refine ⟨_, rfl, p, 4, rfl, by decide, by decide, hPB, fun way HC hway kC PC => ?_⟩
  have k0C : Kp [p] H HC := (Kp.of (eA.trans eB)).trans kC
  have hLC : HC L = some (.lst (same.map V.str)) := kC _ _ (fun z => hLp (List.mem_singleton.mp z)) hLB
  have hMC : HC M = some (.lst (wider.map V.str)) := kC _ _ (fun z => hMp (List.mem_singleton.mp z)) hMB
  have bitsP : ∀ H5, Kp [p] H H5 → Pot H5 p → tTup (tCons (tC (.str "is")) (tCons (tCall spBits [] E0 (tCons (tVar 0) (tCons (tVar 2) (tCons (tC (.str "01x")) tNil)))) tNil)) [some (.ref p), some (.ref d), some (.int n), some (.ref L), some (.ref M), some (.int way), none, none] H5 Q := fun H5 k5 P5 => by
    refine ⟨_, rfl, _, rfl, p, n, [.o, .i, .x], rfl, by omega, by decide, by decide, P5, fun l H6 hl hs k6 P6 => ⟨z2, fun a ha => ?_⟩⟩
    have el : R l = S (l.map rd) := by
      rw [S_R]
      congr 1
      clear hl
      induction l with
      | nil => rfl
      | cons g r ih =>
        rw [List.map_cons, List.map_cons, ← ih fun u hu => hs u (List.mem_cons_of_mem _ hu)]
        have := hs g (List.mem_cons_self ..)
        cases g with
        | z => exact absurd this (by decide)
        | o => rfl
        | i => rfl
        | x => rfl
    rw [el]
    refine q (.is (l.map rd)) (.ref a) _ ⟨by rw [List.length_map]; exact hl, hn1, hn8⟩ (by decide : 1 ≤ 2) ⟨a, rfl, upd_same⟩ ((k5.trans k6).trans (Kp.of (Evl.Ex.new ha))) (P6.ex (Evl.Ex.new ha))
  refine ⟨_, rfl, _, _, rfl, rfl, decide ((0 : Int) < way), rfl, ?_⟩
  cases hw0 : decide ((0 : Int) < way) with
  | false => exact iteF (iteF ⟨_, rfl, _, _, rfl, rfl, false, congrArg V.bl hw0, iteF (iteF (bitsP HC k0C PC))⟩)
  | true =>
    refine iteT ⟨_, rfl, z0, fun p2 hp2 => ne_nil ((Evl.Ex.new hp2) _ _ hLC) upd_same (fun x hx => (same_ok x hx).2) ⟨!same.isEmpty, rfl, ?_⟩⟩
    have eD : Evl.Ex HC (upd HC p2 (.lst [])) := Evl.Ex.new hp2
    cases hse : same.isEmpty with
    | false =>
      refine iteT ⟨_, rfl, _, rfl, _, rfl, L, _, rfl, .inl (SqL.of (eD _ _ hLC)), p, _, rfl, ?_, ?_, PC.ex eD, fun dd H6 hdd k6 P6 => ?_⟩
      · rw [List.length_map]
        cases same with
        | nil => cases hse
        | cons x r => rw [List.length_cons]; omega
      · rw [List.length_map]; omega
      · rw [List.length_map] at hdd
        obtain ⟨x, hx⟩ : ∃ x, same[dd]? = some x := ⟨_, List.getElem?_eq_getElem (by omega)⟩
        have hxm := List.mem_of_getElem? hx
        refine ⟨L, _, dd, _, rfl, rfl, SqL.of (k6 _ _ (fun z => hLp (List.mem_singleton.mp z)) (eD _ _ hLC)), atI_nat (by rw [List.getElem?_map, hx]; rfl), z2, fun a ha => ?_⟩
        exact q (.var x) (.ref a) _ ⟨(same_ok x hxm).1, hn1, hn8⟩ (by decide : 1 ≤ 2) ⟨a, rfl, upd_same⟩ (((k0C.trans (Kp.of eD)).trans k6).trans (Kp.of (Evl.Ex.new ha))) (P6.ex (Evl.Ex.new ha))
    | true =>
      refine iteF ⟨_, rfl, _, _, rfl, rfl, true, congrArg V.bl hw0, iteT ⟨_, rfl, z0, fun p3 hp3 => ne_nil ((Evl.Ex.new hp3) _ _ (eD _ _ hMC)) upd_same (fun x hx => by obtain ⟨_, _, _, _, h⟩ := wider_ok x hx; exact h) ⟨!wider.isEmpty, rfl, ?_⟩⟩⟩
      have eE := eD.trans (Evl.Ex.new (o := .lst []) hp3)
      cases hwe : wider.isEmpty with
      | true => exact iteF (bitsP _ (k0C.trans (Kp.of eE)) (PC.ex eE))
      | false =>
        refine iteT ⟨_, rfl, _, rfl, _, rfl, M, _, rfl, .inl (SqL.of (eE _ _ hMC)), p, _, rfl, ?_, ?_, PC.ex eE, fun dd H6 hdd k6 P6 => ?_⟩
        · rw [List.length_map]
          cases wider with
          | nil => cases hwe
          | cons x r => rw [List.length_cons]; omega
        · rw [List.length_map]; omega
        · rw [List.length_map] at hdd
          obtain ⟨x, hx⟩ : ∃ x, wider[dd]? = some x := ⟨_, List.getElem?_eq_getElem (by omega)⟩
          have hxm := List.mem_of_getElem? hx
          obtain ⟨m, hlm, hnm, hm8, _⟩ := wider_ok x hxm
          have hdp : d ≠ p := fun z => by obtain ⟨_, _, h, _⟩ := hp; rw [z, h] at hd; cases hd
          have kk := (k0C.trans (Kp.of eE)).trans k6
          have hd6 : H6 d = some (.dK (wkv W)) := kk _ _ (fun z => hdp (List.mem_singleton.mp z)) hd
          refine ⟨M, _, dd, _, rfl, rfl, SqL.of (k6 _ _ (fun z => hMp (List.mem_singleton.mp z)) (eE _ _ hMC)), atI_nat (by rw [List.getElem?_map, hx]; rfl), ?_⟩
          refine ⟨_, rfl, _, rfl, _, rfl, d, .int m, rfl, by rw [← val_wkv hlm]; exact DGet.k (k := Sum.inr x) hd6, _, rfl, _, _, rfl, rfl, _, _, rfl, rfl, p, _, rfl, by omega, by omega, P6, fun low H7 hlow k7 P7 => ?_⟩
          refine ⟨_, rfl, z2, fun a ha => ⟨_, rfl, _, rfl, _, _, rfl, rfl, _, _, rfl, rfl, _, rfl, z4, fun b hb => ?_⟩⟩
          have e8 : Evl.Ex H7 _ := (Evl.Ex.new (o := .tup [.str "of", .str x]) ha).trans (Evl.Ex.new (o := .tup [.str "part", .ref a, .int ((low : Int) + n - 1), .int low]) hb)
          have ehi : (low : Int) + n - 1 = ((low + n - 1 : Nat) : Int) := by omega
          refine q (.part (.var x) (low + n - 1) low) (.ref b) _ ⟨by omega, by omega, m, by omega, hlm, by omega, hm8⟩ (Nat.le_refl 2) ⟨b, .ref a, rfl, ?_, a, rfl, ?_⟩ ((kk.trans k7).trans (Kp.of e8)) (P7.ex e8)
          · rw [← ehi]; exact upd_same
          · exact (Evl.Ex.new hb) _ _ upd_same
end
end K24
/-! K24, part 22: the makers: terms -/
namespace K24
open PySem PySem.Spec PyProof.Rows L2
structure Sx (p r : Addr) (H0 H : Hp) : Prop where
  k : Kp [p, r] H0 H
  P : Pot H p
  R : ∃ z : Int, H r = some (.lst [.int z])
  ne : r ≠ p
theorem Sx.ex {p r : Addr} {H0 H H' : Hp} (s : Sx p r H0 H) (e : Evl.Ex H H') : Sx p r H0 H' := by
  obtain ⟨z, hz⟩ := s.R
  exact ⟨s.k.trans (Kp.of e), s.P.ex e, ⟨z, e _ _ hz⟩, s.ne⟩
theorem Sx.tk {p r : Addr} {H0 H H' : Hp} (s : Sx p r H0 H) (k : Kp [p, r] H H') : Tk H H' := fun b xs h => k b _ (fun z => by
  rcases List.mem_cons.mp z with e | e
  · exact s.P.ntup b xs h e
  · obtain ⟨z, hz⟩ := s.R
    rw [List.mem_singleton.mp e, hz] at h
    cases h) h
theorem Sx.dk {p r d : Addr} {H0 H H' : Hp} {kvs : List (Key × V)} (s : Sx p r H0 H) (h : H d = some (.dK kvs)) (k : Kp [p, r] H H') : H' d = some (.dK kvs) := k d _ (fun z => by
  rcases List.mem_cons.mp z with e | e
  · obtain ⟨_, _, hz, _⟩ := s.P
    rw [e, hz] at h; cases h
  · obtain ⟨z, hz⟩ := s.R
    rw [List.mem_singleton.mp e, hz] at h
    cases h) h
theorem Sx.more {p r : Addr} {H0 H H' : Hp} (s : Sx p r H0 H) (k : Kp [p] H H') (P : Pot H' p) : Sx p r H0 H' := by
  obtain ⟨z, hz⟩ := s.R
  exact ⟨s.k.trans k.pm, P, ⟨z, k _ _ (fun e => s.ne (List.mem_singleton.mp e)) hz⟩, s.ne⟩
def spTm (m : Nat) : Sp := fun vs H Q _ => ∃ (p d r : Addr) (W : WD) (n w : Nat), m = n + 1 ∧ vs = [.ref p, .ref d, .int w, .int n, .ref r] ∧ H d = some (.dK (wkv W)) ∧ WOk W ∧ 1 ≤ w ∧ w ≤ 8 ∧ Sx p r H H ∧
  ∀ (t : Tm) (v : V) H', Wt W t w → deep t ≤ m + 1 → At H' t v → Sx p r H H' → Q v H'
def spBT (m : Nat) : Sp := fun vs H Q _ => ∃ (p d r : Addr) (W : WD) (n : Nat), m = n + 1 ∧ vs = [.ref p, .ref d, .int m, .ref r] ∧ H d = some (.dK (wkv W)) ∧ WOk W ∧ Sx p r H H ∧
  ∀ (t : Tm) (v : V) H', Wt W t 1 → deep t ≤ m + 2 → At H' t v → Sx p r H H' → Q v H'
theorem call_tm {p d r : Addr} {W : WD} {n w i3 i4 : Nat} {H0 H : Hp} {σ : L2.St} {tw : TE} {Q : VK} (h0 : σ[0]? = some (some (.ref p))) (h1 : σ[1]? = some (some (.ref d))) (h3 : σ[i3]? = some (some (.int ((n + 1 : Nat) : Int)))) (h4 : σ[i4]? = some (some (.ref r)))
    (hw : ∀ Q : VK, Q (.int w) H → tw σ H Q) (hd : H d = some (.dK (wkv W))) (hW : WOk W) (w1 : 1 ≤ w) (w8 : w ≤ 8) (s : Sx p r H0 H)
    (q : ∀ (t : Tm) (v : V) H', Wt W t w → deep t ≤ n + 2 → At H' t v → Kp [p, r] H H' → Sx p r H0 H' → Q v H') :
    tCall (spTm (n + 1)) [] E0 (tCons (tVar 0) (tCons (tVar 1) (tCons tw (tCons (tOp (rI0 fun i j => .int (i - j)) (tVar i3) (tC (.int 1))) (tCons (tVar i4) tNil))))) σ H Q := by
  refine ⟨_, h0, _, h1, hw _ ⟨_, h3, _, _, rfl, rfl, _, h4, ?_⟩⟩
  refine ⟨p, d, r, W, n, w, rfl, ?_, hd, hW, w1, w8, ⟨Kp.refl H, s.P, s.R, s.ne⟩, fun t v H' a b c s' => q t v H' a b c s'.k ⟨s.k.trans s'.k, s'.P, s'.R, s.ne⟩⟩
  show [V.ref p, .ref d, .int w, .int (((n + 1 : Nat) : Int) - 1), .ref r] = _
  rw [show ((n + 1 : Nat) : Int) - 1 = n from by omega]
theorem call_tk {p r : Addr} {m : Int} {H0 H : Hp} {σ : L2.St} {tm : TE} {Q : VK} (h0 : σ[0]? = some (some (.ref p))) (hm : ∀ Q : VK, Q (.int m) H → tm σ H Q) (m1 : 0 < m) (m2 : m ≤ 1000) (s : Sx p r H0 H)
    (q : ∀ (d : Nat) H', (d : Int) < m → Kp [p, r] H H' → Sx p r H0 H' → Q (.int d) H') : tCall spTake [] E0 (tCons (tVar 0) (tCons tm tNil)) σ H Q :=
  ⟨_, h0, hm _ ⟨p, m, rfl, m1, m2, s.P, fun d H' hd k P => q d H' hd k.pm (s.more k P)⟩⟩
theorem if_pure {c : TT} {t u : TS} {D : Ends} {σ : L2.St} {H : Hp} {b : Bool} (hc : ∀ Q : Bool → Hp → Prop, Q b H → c σ H Q) (ht : b = true → t D σ H) (hf : b = false → u D σ H) : tIfS c t u D σ H :=
  hc _ (by cases b with
    | true => exact iteT (ht rfl)
    | false => exact iteF (hf rfl))
theorem and_pure {a b : TT} {σ : L2.St} {H : Hp} {x y : Bool} (ha : ∀ Q : Bool → Hp → Prop, Q x H → a σ H Q) (hb : ∀ Q : Bool → Hp → Prop, Q y H → b σ H Q) : ∀ Q : Bool → Hp → Prop, Q (x && y) H → tAnd a b σ H Q := fun Q q =>
  ha _ (by cases x with
    | true => exact iteT (hb _ q)
    | false => exact iteF q)
theorem eq_pure {i n c : Nat} {σ : L2.St} {H : Hp} (h : σ[i]? = some (some (.int n))) : ∀ Q : Bool → Hp → Prop, Q (decide (n = c)) H → tTest (tOp rEq (tVar i) (tC (.int c))) σ H Q := fun Q q =>
  ⟨_, h, rfl, decide (n = c), congrArg V.bl (eq_int n c), q⟩
theorem lt_pure {i n c : Nat} {σ : L2.St} {H : Hp} (h : σ[i]? = some (some (.int n))) : ∀ Q : Bool → Hp → Prop, Q (decide (n < c)) H → tTest (tOp (rI0 fun i j => .bl (decide (i < j))) (tVar i) (tC (.int c))) σ H Q := fun Q q =>
  ⟨_, h, _, _, rfl, rfl, decide (n < c), congrArg V.bl (by rw [decide_eq_decide]; omega), q⟩
theorem gt_pure {i n c : Nat} {σ : L2.St} {H : Hp} (h : σ[i]? = some (some (.int n))) : ∀ Q : Bool → Hp → Prop, Q (decide (c < n)) H → tTest (tOp (rI0 fun i j => .bl (decide (j < i))) (tVar i) (tC (.int c))) σ H Q := fun Q q =>
  ⟨_, h, _, _, rfl, rfl, decide (c < n), congrArg V.bl (by rw [decide_eq_decide]; omega), q⟩
section
variable {P : Program} {w : World} {K : PySem.W.Frag} {mg : Str → Option Value} {base : Heap}
theorem ok_bt {m : Nat} (D : Df K mg "_law_bit_term" s_L_bit_term) (T : Bi mg) (CT : Cl P w K mg base "_law_take" 1 spTake) (CM : Cl P w K mg base "_law_term" (3 + 2 * m) (spTm m)) : Cl P w K mg base "_law_bit_term" (3 + 2 * m + 1) (spBT m) := by
  refine mk_cl D sc_L_bit_term (fun _ _ _ _ _ _ us hl => match us, hl with | [_, _, _, _], _ => rfl) (fun vs H Q E h => ?_) (fun f cdv A outer s H vs Q E hr h => ?_)
  · obtain ⟨_, _, _, _, _, _, e, _⟩ := h
    rw [e]; rfl
  obtain ⟨p, d, r, W, n, em, e, hd, hW, sx, q⟩ := h
  subst e em
  have nd := sc_L_bit_term.nd
  refine ⟨_, pss_cons (ps_set (i := 4) nd rfl (Or.inl rfl) (pe_cl CT hr (by omega) (pa_cons (pv 0) (pa_cons pe_int pa_nil))))
    (pss_cons (ps_set (i := 5) nd rfl (Or.inl rfl) (pe_op op_add pe_int (pe_cl CT hr (by omega) (pa_cons (pv 0) (pa_cons pe_int pa_nil)))))
    (pss_cons (ps_if (pt_cmpR op_lt (pv 4) pe_int (nomark _))
      (pss_cons (ps_set (i := 6) nd rfl (Or.inl rfl) (pe_cl CM hr (Nat.le_refl _) (pa_cons (pv 0) (pa_cons (pv 1) (pa_cons (pv 5) (pa_cons (pe_op op_sub (pv 2) pe_int) (pa_cons (pv 3) pa_nil)))))))
      (pss_one (ps_ret (pe_tup (pa_cons (pe_ix ix_list (pe_lst (pa_cons pe_str (pa_cons pe_str pa_nil))) (pv 4) (fun _ _ => rfl)) (pa_cons (pv 6) pa_nil)))))) pss_nil)
    (pss_cons (ps_set (i := 6) nd rfl (Or.inl rfl) (pe_cl CM hr (Nat.le_refl _) (pa_cons (pv 0) (pa_cons (pv 1) (pa_cons (pv 5) (pa_cons (pe_op op_sub (pv 2) pe_int) (pa_cons (pv 3) pa_nil)))))))
    (pss_one (ps_ret (pe_tup (pa_cons (pe_ix ix_list (pe_lst (pa_cons pe_str (pa_cons pe_str pa_nil))) (pe_op op_sub (pv 4) pe_int) (fun _ _ => rfl)) (pa_cons (pv 6) (pa_cons (pe_cl CM hr (Nat.le_refl _) (pa_cons (pv 0) (pa_cons (pv 1) (pa_cons (pv 5) (pa_cons (pe_op op_sub (pv 2) pe_int) (pa_cons (pv 3) pa_nil)))))) pa_nil))))))))), ?_⟩
  have z2 : (2 : Nat) ≤ sizeLine := by decide
  have z3 : (3 : Nat) ≤ sizeLine := by decide
  refine call_tk (m := 4) rfl (fun _ q => q) (by decide) (by decide) sx fun way H1 hway k1 s1 => ?_
  refine call_tk (m := 8) rfl (fun _ q => q) (by decide) (by decide) s1 fun wd H2 hwd k2 s2 => ⟨_, _, rfl, rfl, ?_⟩
  have hd2 := s1.dk (sx.dk hd k1) k2
  have ew : (1 : Int) + wd = ((1 + wd : Nat) : Int) := by omega
  refine ⟨_, rfl, _, _, rfl, rfl, decide ((way : Int) < 2), rfl, ite2 (fun h => ?_) (fun h => ?_)⟩
  · have h2 : (way : Int) < 2 := of_decide_eq_true h
    refine call_tm (w := 1 + wd) rfl rfl rfl rfl (fun Q q => ⟨_, rfl, by show Q (.int (1 + (wd : Int))) _; rw [ew]; exact q⟩) hd2 hW (by omega) (by omega) s2 fun t v H3 wt dt at3 k3 s3 => ?_
    refine ⟨z2, fun b hb => ⟨_, rfl, ?_⟩⟩
    obtain ⟨u, hu⟩ : ∃ u : Uno, atI [V.str "any", V.str "all"] (way : Int) = some (.str u.w) := by
      have : way = 0 ∨ way = 1 := by omega
      rcases this with e | e <;> subst e
      · exact ⟨.any, rfl⟩
      · exact ⟨.all, rfl⟩
    have e4 : Evl.Ex H3 (upd H3 b (.lst [.str "any", .str "all"])) := Evl.Ex.new hb
    refine ⟨b, _, _, _, rfl, rfl, SqL.of upd_same, hu, _, rfl, z2, fun a ha => ?_⟩
    have e5 : Evl.Ex H3 _ := e4.trans (Evl.Ex.new (o := .tup [.str u.w, v]) ha)
    exact q (.uno u t) (.ref a) _ ⟨rfl, _, wt⟩ (by show deep t + 1 ≤ _; omega) ⟨a, v, rfl, upd_same, at3.mono (Tk.of e5)⟩ (s3.ex e5)
  · have h2 : ¬ (way : Int) < 2 := fun z => h (decide_eq_true z)
    refine call_tm (w := 1 + wd) rfl rfl rfl rfl (fun Q q => ⟨_, rfl, by show Q (.int (1 + (wd : Int))) _; rw [ew]; exact q⟩) hd2 hW (by omega) (by omega) s2 fun t v H3 wt dt at3 k3 s3 => ?_
    have hd3 := s2.dk hd2 k3
    refine ⟨z2, fun b hb => ⟨_, rfl, _, _, rfl, rfl, ?_⟩⟩
    obtain ⟨u, hu⟩ : ∃ u : Cmp, atI [V.str "same", V.str "less"] ((way : Int) - 2) = some (.str u.w) := by
      have : way = 2 ∨ way = 3 := by omega
      rcases this with e | e <;> subst e
      · exact ⟨.same, rfl⟩
      · exact ⟨.less, rfl⟩
    have e4 : Evl.Ex H3 (upd H3 b (.lst [.str "same", .str "less"])) := Evl.Ex.new hb
    refine ⟨b, _, _, _, rfl, rfl, SqL.of upd_same, hu, _, rfl, ?_⟩
    refine call_tm (w := 1 + wd) rfl rfl rfl rfl (fun Q q => ⟨_, rfl, by show Q (.int (1 + (wd : Int))) _; rw [ew]; exact q⟩) (e4 _ _ hd3) hW (by omega) (by omega) (s3.ex e4) fun t2 v2 H5 wt2 dt2 at5 k5 s5 => ?_
    refine ⟨z3, fun a ha => ?_⟩
    have e6 : Evl.Ex H5 (upd H5 a (.tup [.str u.w, v, v2])) := Evl.Ex.new ha
    have k35 := (s3.ex e4).tk k5
    exact q (.cmp u t t2) (.ref a) _ ⟨rfl, _, wt, wt2⟩ (by show max (deep t) (deep t2) + 1 ≤ _; omega) ⟨a, v, v2, rfl, upd_same, at3.mono (((Tk.of e4).trans k35).trans (Tk.of e6)), at5.mono (Tk.of e6)⟩ (s5.ex e6)
theorem ok_tm0 (D : Df K mg "_law_term" s_L_term) : Cl P w K mg base "_law_term" 3 (spTm 0) := by
  obtain ⟨f, fd, F, m⟩ := D.ex
  have no : ∀ vs H Q E, ¬ spTm 0 vs H Q E := fun vs H Q E h => by
    obtain ⟨_, _, _, _, n, _, e, _⟩ := h
    omega
  exact ⟨f, fd, ["_law_pot_here", "_law_widths", "_law_width", "_law_deep", "_law_room"], ⟨fun vs H Q E h => absurd h (no vs H Q E), fun A outer s H args us vs Q E _ _ _ _ h => absurd h (no vs H Q E)⟩, m, F.kp, F.binds fun _ _ _ _ _ _ us hl => match us, hl with | [_, _, _, _, _], _ => rfl⟩
theorem ok_tm1 {m : Nat} (D : Df K mg "_law_term" s_L_term) (T : Bi mg) (CT : Cl P w K mg base "_law_take" 1 spTake) (CL : Cl P w K mg base "_law_leaf" 3 spLeaf) (CB : Cl P w K mg base "_law_bit_term" (3 + 2 * m + 1) (spBT m)) (CM : Cl P w K mg base "_law_term" (3 + 2 * m) (spTm m)) :
    Cl P w K mg base "_law_term" (3 + 2 * m + 1 + 1) (spTm (m + 1)) := by
  refine mk_cl D sc_L_term (fun _ _ _ _ _ _ us hl => match us, hl with | [_, _, _, _, _], _ => rfl) (fun vs H Q E h => ?_) (fun f cdv A outer s H vs Q E hr h => ?_)
  · obtain ⟨_, _, _, _, _, _, _, e, _⟩ := h
    rw [e]; rfl
  obtain ⟨p, d, r, W, n, w8, em, e, hd, hW, hw1, hw8, sx, q⟩ := h
  have em2 : m = n := by omega
  subst e em2
  have nd := sc_L_term.nd
  refine ⟨_, pss_cons (ps_asg (pe_op op_sub (pe_ix ix_list (pv 4) pe_int (fun _ _ => rfl)) pe_int) (pg_sub (pv 4) pe_int set_list))
    (pss_cons (ps_if (PW.pt (pw_or (pt_cmpR op_eq (pv 3) pe_int (nomark _)) (pw_or (pt_cmpR op_lt (pe_ix ix_list (pv 4) pe_int (fun _ _ => rfl)) pe_int (nomark _)) (pw_or1 (pt_cmpR op_eq (pe_cl CT hr (by omega) (pa_cons (pv 0) (pa_cons pe_int pa_nil))) pe_int (nomark _))))))
      (pss_one (ps_ret (pe_cl CL hr (by omega) (pa_cons (pv 0) (pa_cons (pv 1) (pa_cons (pv 2) pa_nil)))))) pss_nil)
    (pss_cons (ps_set (i := 5) nd rfl (Or.inl rfl) (pe_cl CT hr (by omega) (pa_cons (pv 0) (pa_cons pe_int pa_nil))))
    (pss_cons (ps_if (PW.pt (pw_and (pt_cmpR op_eq (pv 2) pe_int (nomark _)) (pw_and1 (pt_cmpR op_lt (pv 5) pe_int (nomark _)))))
      (pss_one (ps_ret (pe_cl CB hr (Nat.le_refl _) (pa_cons (pv 0) (pa_cons (pv 1) (pa_cons (pv 3) (pa_cons (pv 4) pa_nil))))))) pss_nil)
    (pss_cons (ps_if (pt_cmpR op_eq (pv 5) pe_int (nomark _))
      (pss_one (ps_ret (pe_tup (pa_cons pe_str (pa_cons (pe_cl CM hr (by omega) (pa_cons (pv 0) (pa_cons (pv 1) (pa_cons (pv 2) (pa_cons (pe_op op_sub (pv 3) pe_int) (pa_cons (pv 4) pa_nil)))))) pa_nil))))) pss_nil)
    (pss_cons (ps_if (pt_cmpR op_eq (pv 5) pe_int (nomark _))
      (pss_cons (ps_set (i := 6) nd rfl (Or.inl rfl) (pe_cl CM hr (by omega) (pa_cons (pv 0) (pa_cons (pv 1) (pa_cons pe_int (pa_cons (pe_op op_sub (pv 3) pe_int) (pa_cons (pv 4) pa_nil)))))))
      (pss_cons (ps_set (i := 7) nd rfl (Or.inl rfl) (pe_cl CM hr (by omega) (pa_cons (pv 0) (pa_cons (pv 1) (pa_cons (pv 2) (pa_cons (pe_op op_sub (pv 3) pe_int) (pa_cons (pv 4) pa_nil)))))))
      (pss_one (ps_ret (pe_tup (pa_cons pe_str (pa_cons (pv 6) (pa_cons (pv 7) (pa_cons (pe_cl CM hr (by omega) (pa_cons (pv 0) (pa_cons (pv 1) (pa_cons (pv 2) (pa_cons (pe_op op_sub (pv 3) pe_int) (pa_cons (pv 4) pa_nil)))))) pa_nil))))))))) pss_nil)
    (pss_cons (ps_if (PW.pt (pw_and (pt_cmpR op_eq (pv 5) pe_int (nomark _)) (pw_and1 (pt_cmpR op_gt (pv 2) pe_int (nomark _)))))
      (pss_cons (ps_set (i := 8) nd rfl (Or.inl rfl) (pe_op op_add pe_int (pe_cl CT hr (by omega) (pa_cons (pv 0) (pa_cons (pe_op op_sub (pv 2) pe_int) pa_nil)))))
      (pss_cons (ps_set (i := 7) nd rfl (Or.inl rfl) (pe_cl CM hr (by omega) (pa_cons (pv 0) (pa_cons (pv 1) (pa_cons (pv 8) (pa_cons (pe_op op_sub (pv 3) pe_int) (pa_cons (pv 4) pa_nil)))))))
      (pss_one (ps_ret (pe_tup (pa_cons pe_str (pa_cons (pv 7) (pa_cons (pe_cl CM hr (by omega) (pa_cons (pv 0) (pa_cons (pv 1) (pa_cons (pe_op op_sub (pv 2) (pv 8)) (pa_cons (pe_op op_sub (pv 3) pe_int) (pa_cons (pv 4) pa_nil)))))) pa_nil)))))))) pss_nil)
    (pss_cons (ps_if (pt_cmpR op_eq (pv 5) pe_int (nomark _))
      (pss_cons (ps_set (i := 9) nd rfl (Or.inl rfl) (pe_op op_add (pv 2) (pe_cl CT hr (by omega) (pa_cons (pv 0) (pa_cons (pe_op op_sub pe_int (pv 2)) pa_nil)))))
      (pss_cons (ps_set (i := 10) nd rfl (Or.inl rfl) (pe_cl CT hr (by omega) (pa_cons (pv 0) (pa_cons (pe_op op_add (pe_op op_sub (pv 9) (pv 2)) pe_int) pa_nil))))
      (pss_one (ps_ret (pe_tup (pa_cons pe_str (pa_cons (pe_cl CM hr (by omega) (pa_cons (pv 0) (pa_cons (pv 1) (pa_cons (pv 9) (pa_cons (pe_op op_sub (pv 3) pe_int) (pa_cons (pv 4) pa_nil)))))) (pa_cons (pe_op op_sub (pe_op op_add (pv 10) (pv 2)) pe_int) (pa_cons (pv 10) pa_nil))))))))) pss_nil)
    (pss_cons (ps_set (i := 7) nd rfl (Or.inl rfl) (pe_cl CM hr (by omega) (pa_cons (pv 0) (pa_cons (pv 1) (pa_cons (pv 2) (pa_cons (pe_op op_sub (pv 3) pe_int) (pa_cons (pv 4) pa_nil)))))))
    (pss_cons (ps_set (i := 11) nd rfl (Or.inl rfl) (pe_ix ix_list (pe_lst (pa_cons pe_str (pa_cons pe_str (pa_cons pe_str (pa_cons pe_str pa_nil))))) (pe_cl CT hr (by omega) (pa_cons (pv 0) (pa_cons pe_int pa_nil))) (fun _ _ => rfl)))
    (pss_one (ps_ret (pe_tup (pa_cons (pv 11) (pa_cons (pv 7) (pa_cons (pe_cl CM hr (by omega) (pa_cons (pv 0) (pa_cons (pv 1) (pa_cons (pv 2) (pa_cons (pe_op op_sub (pv 3) pe_int) (pa_cons (pv 4) pa_nil)))))) pa_nil))))))))))))))), ?_⟩
  have z2 : (2 : Nat) ≤ sizeLine := by decide
  have z3 : (3 : Nat) ≤ sizeLine := by decide
  have z4 : (4 : Nat) ≤ sizeLine := by decide
  obtain ⟨z, hz⟩ := sx.R
  have hpr : p ≠ r := Ne.symm sx.ne
  refine ⟨_, rfl, r, _, 0, _, rfl, rfl, SqL.of hz, atI_nat (j := 0) rfl, _, _, rfl, rfl, _, rfl, r, [.int z], 0, 0, rfl, rfl, hz, rfl, ?_⟩
  have s0 : Sx p r H (upd H r (.lst [.int (z - 1)])) := by
    obtain ⟨x, y, h1, h2⟩ := sx.P
    exact ⟨(Kp.refl H).upd (by simp), ⟨x, y, by rw [upd_ne hpr]; exact h1, h2⟩, ⟨_, upd_same⟩, sx.ne⟩
  show (tSeq _ _ : TS) _ _ (upd H r (.lst [.int (z - 1)]))
  have hz0 : (upd H r (.lst [.int (z - 1)])) r = some (.lst [.int (z - 1)]) := upd_same
  generalize upd H r (.lst [.int (z - 1)]) = Ha at s0 hz0 ⊢
  have hda := sx.dk hd s0.k
  have leafR : ∀ H5, Sx p r H H5 → tCall spLeaf [] E0 (tCons (tVar 0) (tCons (tVar 1) (tCons (tVar 2) tNil))) [some (.ref p), some (.ref d), some (.int w8), some (.int m), some (.ref r), none, none, none, none, none, none, none] H5 Q := fun H5 s5 =>
    ⟨_, rfl, _, rfl, _, rfl, p, d, W, w8, rfl, s5.P, sx.dk hd s5.k, hW, hw1, hw8, fun t v H' wt dt at' k P => q t v H' wt (by omega) at' (s5.more k P)⟩
  refine ⟨_, rfl, rfl, decide (m = 0), congrArg V.bl (eq_int m 0), ?_⟩
  by_cases hm0 : m = 0
  · rw [decide_eq_true hm0]
    exact iteT (iteT (leafR Ha s0))
  rw [decide_eq_false hm0]
  obtain ⟨n, en⟩ : ∃ n, m = n + 1 := ⟨m - 1, by omega⟩
  subst en
  refine iteF ⟨_, rfl, r, _, 0, _, rfl, rfl, SqL.of hz0, atI_nat (j := 0) rfl, _, _, rfl, rfl, decide (z - 1 < 0), rfl, ?_⟩
  cases hdz : decide (z - 1 < 0) with
  | true => exact iteT (iteT (leafR Ha s0))
  | false =>
  refine iteF ?_
  refine call_tk (m := 6) rfl (fun _ q => q) (by decide) (by decide) s0 fun d6 Hb hd6 kb sb => ⟨rfl, decide (d6 = 0), congrArg V.bl (eq_int d6 0), ?_⟩
  cases hd60 : decide (d6 = 0) with
  | true => exact iteT (leafR Hb sb)
  | false =>
  refine iteF ?_
  refine call_tk (m := 9) rfl (fun _ q => q) (by decide) (by decide) sb fun way Hc hway kc s1 => ?_
  have hd1 := sx.dk hd s1.k
  have mono : ∀ {t : Tm}, deep t ≤ n + 2 → deep t + 1 ≤ n + 1 + 1 + 1 := fun h => by omega
  refine if_pure (and_pure (eq_pure (c := 1) rfl) (lt_pure (c := 3) rfl)) (fun h => ?_) (fun _ => ?_)
  · have hw : w8 = 1 := of_decide_eq_true (Bool.and_eq_true_iff.mp h).1
    subst hw
    exact ⟨_, rfl, _, rfl, _, rfl, _, rfl, p, d, r, W, n, rfl, rfl, hd1, hW, ⟨Kp.refl Hc, s1.P, s1.R, s1.ne⟩, fun t v H' wt dt at' s' => q t v H' wt (by omega) at' ⟨s1.k.trans s'.k, s'.P, s'.R, s1.ne⟩⟩
  refine if_pure (eq_pure (c := 3) rfl) (fun h => ?_) (fun _ => ?_)
  · refine call_tm rfl rfl rfl rfl (fun Q q => ⟨_, rfl, q⟩) hd1 hW hw1 hw8 s1 fun t v H2 wt dt at2 k2 s2 => ⟨z2, fun a ha => ?_⟩
    have e3 : Evl.Ex H2 _ := Evl.Ex.new (o := .tup [.str "not", v]) ha
    exact q (.nt t) (.ref a) _ wt (mono dt) ⟨a, v, rfl, upd_same, at2.mono (Tk.of e3)⟩ (s2.ex e3)
  refine if_pure (eq_pure (c := 4) rfl) (fun h => ?_) (fun _ => ?_)
  · refine call_tm (w := 1) rfl rfl rfl rfl (fun Q q => q) hd1 hW (Nat.le_refl 1) (by decide) s1 fun t1 v1 H2 wt1 dt1 at2 k2 s2 => ?_
    refine call_tm rfl rfl rfl rfl (fun Q q => ⟨_, rfl, q⟩) (sx.dk hd s2.k) hW hw1 hw8 s2 fun t2 v2 H3 wt2 dt2 at3 k3 s3 => ?_
    refine ⟨_, rfl, _, rfl, ?_⟩
    refine call_tm rfl rfl rfl rfl (fun Q q => ⟨_, rfl, q⟩) (sx.dk hd s3.k) hW hw1 hw8 s3 fun t3 v3 H4 wt3 dt3 at4 k4 s4 => ⟨z4, fun a ha => ?_⟩
    have e5 : Evl.Ex H4 _ := Evl.Ex.new (o := .tup [.str "pick", v1, v2, v3]) ha
    exact q (.pick t1 t2 t3) (.ref a) _ ⟨wt1, wt2, wt3⟩ (by show max (deep t1) (max (deep t2) (deep t3)) + 1 ≤ _; omega)
      ⟨a, v1, v2, v3, rfl, upd_same, at2.mono (((s2.tk k3).trans (s3.tk k4)).trans (Tk.of e5)), at3.mono ((s3.tk k4).trans (Tk.of e5)), at4.mono (Tk.of e5)⟩ (s4.ex e5)
  refine if_pure (and_pure (eq_pure (c := 5) rfl) (gt_pure (c := 1) rfl)) (fun h => ?_) (fun _ => ?_)
  · have hw : 1 < w8 := of_decide_eq_true (Bool.and_eq_true_iff.mp h).2
    refine call_tk (m := (w8 : Int) - 1) rfl (fun _ q => ⟨_, rfl, _, _, rfl, rfl, q⟩) (by omega) (by omega) s1 fun lf H2 hlf k2 s2 => ⟨_, _, rfl, rfl, ?_⟩
    have el : (1 : Int) + lf = ((1 + lf : Nat) : Int) := by omega
    refine call_tm (w := 1 + lf) rfl rfl rfl rfl (fun Q q => ⟨_, rfl, by show Q (.int (1 + (lf : Int))) _; rw [el]; exact q⟩) (sx.dk hd s2.k) hW (by omega) (by omega) s2 fun t2 v2 H3 wt2 dt2 at3 k3 s3 => ?_
    have er : (w8 : Int) - (1 + lf) = ((w8 - (1 + lf) : Nat) : Int) := by omega
    refine ⟨_, rfl, ?_⟩
    refine call_tm (w := w8 - (1 + lf)) rfl rfl rfl rfl (fun Q q => ⟨_, rfl, _, rfl, _, _, rfl, rfl, by show Q (.int ((w8 : Int) - (1 + lf))) _; rw [er]; exact q⟩) (sx.dk hd s3.k) hW (by omega) (by omega) s3 fun t3 v3 H4 wt3 dt3 at4 k4 s4 => ⟨z3, fun a ha => ?_⟩
    have e5 : Evl.Ex H4 _ := Evl.Ex.new (o := .tup [.str "join", v2, v3]) ha
    exact q (.join t2 t3) (.ref a) _ ⟨hw8, _, _, by omega, wt2, wt3⟩ (by show max (deep t2) (deep t3) + 1 ≤ _; omega)
      ⟨a, v2, v3, rfl, upd_same, at3.mono ((s3.tk k4).trans (Tk.of e5)), at4.mono (Tk.of e5)⟩ (s4.ex e5)
  refine if_pure (eq_pure (c := 6) rfl) (fun h => ?_) (fun _ => ?_)
  · refine ⟨_, rfl, ?_⟩
    refine call_tk (m := 9 - (w8 : Int)) rfl (fun _ q => ⟨_, rfl, _, _, rfl, rfl, q⟩) (by omega) (by omega) s1 fun wd H2 hwd k2 s2 => ⟨_, _, rfl, rfl, ?_⟩
    refine call_tk (m := (w8 : Int) + wd - w8 + 1) rfl (fun _ q => ⟨_, rfl, _, rfl, _, _, rfl, rfl, _, _, rfl, rfl, q⟩) (by omega) (by omega) s2 fun low H3 hlow k3 s3 => ?_
    have ew : (w8 : Int) + wd = ((w8 + wd : Nat) : Int) := by omega
    refine call_tm (w := w8 + wd) rfl rfl rfl rfl (fun Q q => ⟨_, rfl, by show Q (.int ((w8 : Int) + wd)) _; rw [ew]; exact q⟩) (sx.dk hd s3.k) hW (by omega) (by omega) s3 fun t2 v2 H4 wt2 dt2 at4 k4 s4 => ?_
    refine ⟨_, rfl, _, rfl, _, _, rfl, rfl, _, _, rfl, rfl, _, rfl, z4, fun a ha => ?_⟩
    have e5 : Evl.Ex H4 _ := Evl.Ex.new (o := .tup [.str "part", v2, .int ((low : Int) + w8 - 1), .int low]) ha
    have ehi : (low : Int) + w8 - 1 = ((low + w8 - 1 : Nat) : Int) := by omega
    refine q (.part t2 (low + w8 - 1) low) (.ref a) _ ⟨by omega, by omega, _, by omega, wt2⟩ (mono dt2) ⟨a, v2, rfl, ?_, at4.mono (Tk.of e5)⟩ (s4.ex e5)
    rw [← ehi]
    exact upd_same
  refine call_tm rfl rfl rfl rfl (fun Q q => ⟨_, rfl, q⟩) hd1 hW hw1 hw8 s1 fun t2 v2 H2 wt2 dt2 at2 k2 s2 => ?_
  refine ⟨z4, fun b hb => ?_⟩
  have e3 : Evl.Ex H2 (upd H2 b (.lst [.str "and", .str "or", .str "xor", .str "plus"])) := Evl.Ex.new hb
  have hbp : b ≠ p := fun z => s2.P.some (by rw [← z]; exact hb)
  have hbr : b ≠ r := fun z => by obtain ⟨y, hy⟩ := s2.R; rw [z, hy] at hb; cases hb
  refine call_tk (m := 4) rfl (fun _ q => q) (by decide) (by decide) (s2.ex e3) fun wi H4 hwi k4 s4 => ?_
  have hb4 : H4 b = some (.lst [.str "and", .str "or", .str "xor", .str "plus"]) := k4 _ _ (fun z => by rcases List.mem_cons.mp z with e | e; exact hbp e; exact hbr (List.mem_singleton.mp e)) upd_same
  obtain ⟨o, ho⟩ : ∃ o : Bin, atI [V.str "and", V.str "or", V.str "xor", V.str "plus"] (wi : Int) = some (.str o.w) := by
    have : wi = 0 ∨ wi = 1 ∨ wi = 2 ∨ wi = 3 := by omega
    rcases this with e | e | e | e <;> subst e
    · exact ⟨.an, rfl⟩
    · exact ⟨.orr, rfl⟩
    · exact ⟨.xr, rfl⟩
    · exact ⟨.plus, rfl⟩
  refine ⟨b, _, _, _, rfl, rfl, SqL.of hb4, ho, ?_⟩
  refine ⟨_, rfl, _, rfl, ?_⟩
  refine call_tm rfl rfl rfl rfl (fun Q q => ⟨_, rfl, q⟩) (sx.dk hd s4.k) hW hw1 hw8 s4 fun t3 v3 H5 wt3 dt3 at5 k5 s5 => ⟨z3, fun a ha => ?_⟩
  have e6 : Evl.Ex H5 _ := Evl.Ex.new (o := .tup [.str o.w, v2, v3]) ha
  exact q (.bin o t2 t3) (.ref a) _ ⟨wt2, wt3⟩ (by show max (deep t2) (deep t3) + 1 ≤ _; omega)
    ⟨a, v2, v3, rfl, upd_same, at2.mono ((((Tk.of e3).trans ((s2.ex e3).tk k4)).trans (s4.tk k5)).trans (Tk.of e6)), at5.mono (Tk.of e6)⟩ (s5.ex e6)
theorem ok_tm (D : Df K mg "_law_term" s_L_term) (DB : Df K mg "_law_bit_term" s_L_bit_term) (T : Bi mg) (CT : Cl P w K mg base "_law_take" 1 spTake) (CL : Cl P w K mg base "_law_leaf" 3 spLeaf) : ∀ m, Cl P w K mg base "_law_term" (3 + 2 * m) (spTm m)
  | 0 => ok_tm0 D
  | m + 1 => ok_tm1 D T CT CL (ok_bt DB T CT (ok_tm D DB T CT CL m)) (ok_tm D DB T CT CL m)
end
end K24
/-! K24, part 23: the makers: sets of values -/
namespace K24
open PySem PySem.Spec PyProof.Rows L2
def EW : VE → WD → Prop
  | [], [] => True
  | e :: E, w :: W => e.1 = w.1 ∧ e.2.length = w.2 ∧ EW E W
  | _, _ => False
theorem EW.snoc : ∀ {E : VE} {W : WD} {e : Str × List G} {w : Str × Nat}, EW E W → e.1 = w.1 → e.2.length = w.2 → EW (E ++ [e]) (W ++ [w])
  | [], [], _, _, _, h1, h2 => ⟨h1, h2, trivial⟩
  | _ :: _, _ :: _, _, _, h, h1, h2 => ⟨h.1, h.2.1, EW.snoc h.2.2 h1 h2⟩
  | [], _ :: _, _, _, h, _, _ => h.elim
  | _ :: _, [], _, _, h, _, _ => h.elim
theorem EW.keys : ∀ {E : VE} {W : WD}, EW E W → E.map (·.1) = W.map (·.1)
  | [], [], _ => rfl
  | _ :: _, _ :: _, h => by rw [List.map_cons, List.map_cons, h.1, EW.keys h.2.2]
  | [], _ :: _, h => h.elim
  | _ :: _, [], h => h.elim
theorem EW.fits : ∀ {E : VE} {W : WD}, EW E W → Fits E W
  | [], [], _ => fun x n h => by cases h
  | (y, l) :: E, (y', m) :: W, h => fun x n hx => by
    obtain ⟨h1, h2, h3⟩ := h
    have h1' : y = y' := h1
    subst h1'
    by_cases e : x = y
    · subst e
      rw [List.lookup_cons_self] at hx
      cases hx
      exact ⟨l, List.lookup_cons_self, h2⟩
    · rw [List.lookup_cons, beq_eq_false_iff_ne.mpr e] at hx
      obtain ⟨l', a, b⟩ := EW.fits h3 x n hx
      refine ⟨l', ?_, b⟩
      rw [List.lookup_cons, beq_eq_false_iff_ne.mpr e]
      exact a
  | [], _ :: _, h => h.elim
  | _ :: _, [], h => h.elim
theorem merge_new (more : List (Key × V)) : ∀ (acc : List (Key × V)), ((acc ++ more).map (·.1)).Nodup → mergeK acc more = acc ++ more := by
  induction more with
  | nil => intro acc _; rw [List.append_nil]; rfl
  | cons p r ih =>
    intro acc nd
    show mergeK (putK acc p.1 p.2) r = _
    have hn : (acc.any fun kv => decide (kv.1 = p.1)) = false := by
      rw [List.any_eq_false]
      intro q hq h
      have h' : q.1 = p.1 := of_decide_eq_true h
      rw [List.map_append, List.nodup_append] at nd
      exact nd.2.2 q.1 (List.mem_map.mpr ⟨q, hq, rfl⟩) p.1 (List.mem_map.mpr ⟨p, List.mem_cons_self .., rfl⟩) h'
    have e : putK acc p.1 p.2 = acc ++ [p] := by
      unfold putK
      rw [hn]
      rfl
    rw [e, ih (acc ++ [p]) (by rw [List.append_assoc]; exact nd), List.append_assoc]
    rfl
theorem merge_ekv {E : VE} {W : WD} (h : EW E W) (hW : WOk W) : mergeK [] (ekv E) = ekv E := by
  refine merge_new (ekv E) [] ?_
  have e : ((([] : List (Key × V)) ++ ekv E).map (·.1)) = (W.map (·.1)).map Sum.inr := by
    rw [List.nil_append, ← h.keys]
    unfold ekv
    rw [List.map_map, List.map_map]
    rfl
  rw [e]
  have := hW.nd
  unfold List.Nodup at this ⊢
  rw [List.pairwise_map]
  exact this.imp fun h z => h (Sum.inr.inj z)
def spVals : Sp := fun vs H Q _ => ∃ (p d : Addr) (W : WD) (sg : List G), vs = [.ref p, .ref d, .str (R sg)] ∧ Pot H p ∧ H d = some (.dK (wkv W)) ∧ WOk W ∧ 0 < sg.length ∧ sg.length ≤ 1000 ∧
  ∀ (q : Addr) (E : VE) H', EW E W → H q = none → Kp [p] H H' → Pot H' p → H' q = some (.dK (ekv E)) → Q (.ref q) H'
theorem paired_mono {α β : Type} {F G : α → β → Prop} (h : ∀ a b, F a b → G a b) : ∀ {l : List α} {m : List β}, Paired F l m → Paired G l m
  | _, _, .nil => .nil
  | _, _, .cons a b => .cons (h _ _ a) (paired_mono h b)
section
variable {P : Program} {w : World} {K : PySem.W.Frag} {mg : Str → Option Value} {base : Heap}
theorem ok_values (D : Df K mg "_law_values" s_L_values) (T : Bi mg) (CB : Cl P w K mg base "_law_bits" 2 spBits) : Cl P w K mg base "_law_values" 3 spVals := by
  refine mk_cl D sc_L_values (fun _ _ _ _ _ _ us hl => match us, hl with | [_, _, _], _ => rfl) (fun vs H Q E h => ?_) (fun f cdv A outer s H vs Q E hr h => ?_)
  · obtain ⟨_, _, _, _, e, _⟩ := h
    rw [e]; rfl
  obtain ⟨p, d, W, sg, e, hp, hd, hW, hs0, hs1, q⟩ := h
  subst e
  have nd := sc_L_values.nd
  refine ⟨_, pss_one (ps_ret (pe_callTy (call_dictP rfl) (by rfl) T.dict PyProof.Rows.boot_dict (pa_cons (pe_lock (pe_lc (own := [("_law_name_here", 3)]) (g := gName 3) (tt := tYes) (te := tTup (tCons (tVar 3) (tCons (tCall spBits [] E0 (tCons (tVar 0) (tCons (tDGet (tVar 1) (tVar 3)) (tCons (tVar 2) tNil)))) tNil))) rfl nd (pi_keys (pv 1))
        (blkOk_by (own := [("_law_name_here", 3)]) (N := ["_law_pot_here", "_law_widths", "_law_signs", "_law_name_here"]) (sc := defScope s_L_values) (by decide +kernel)) (fun _ _ _ _ _ => pg_name (i := 3) nd rfl (Or.inl rfl))
        (fun _ _ _ _ _ => pts_nil) (fun _ _ _ _ _ => pe_tup (pa_cons (pv 3) (pa_cons (pe_cl CB hr (by decide) (pa_cons (pv 0) (pa_cons (pe_dget (hu_of hr) (pv 1) (pv 3) (fun _ _ => rfl)) (pa_cons (pv 2) pa_nil)))) pa_nil))))) pa_nil))), ?_⟩
  have z2 : (2 : Nat) ≤ sizeLine := by decide
  have hdp : d ≠ p := fun z => by obtain ⟨_, _, h, _⟩ := hp; rw [z, h] at hd; cases hd
  refine ⟨d, .dK (wkv W), hd, trivial, fun od => ?_⟩
  refine ⟨_, rfl, d, od, rfl, .inl ⟨wkv W, upd_same, fun L hL => ?_⟩⟩
  have hLd : L ≠ d := fun z => by rw [z, upd_same] at hL; cases hL
  have hL0 : H L = none := by rw [upd_ne hLd] at hL; exact hL
  have hLp : L ≠ p := fun z => hp.some (by rw [← z]; exact hL0)
  have P1 : Pot (upd H d (.frz od (.dK (wkv W)))) p := by
    obtain ⟨x, y, h1, h2⟩ := hp
    exact ⟨x, y, by rw [upd_ne (Ne.symm hdp)]; exact h1, h2⟩
  have hdF : (upd H d (.frz od (.dK (wkv W)))) d = some (.frz od (.dK (wkv W))) := upd_same
  have kF : Kp [d, p] H (upd H d (.frz od (.dK (wkv W)))) := (Kp.refl H).upd (by simp)
  generalize upd H d (.frz od (.dK (wkv W))) = H1 at hL P1 hdF kF
  have hwl : (wkv W).length = W.length := by unfold wkv; rw [List.length_map]
  refine lc_it walk_keys (fun n H' => H1 L = none ∧ Kp [p] H1 H' ∧ Pot H' p ∧ ∃ (E : VE) (ps : List Addr), EW E (W.take n) ∧ ps.length = n ∧ H' L = some (.lst (ps.map V.ref)) ∧ Paired (fun a kv => H' a = some (.tup [kV kv.1, kv.2])) ps (ekv E))
    ⟨hL, Kp.of (Evl.Ex.new hL), P1.ex (Evl.Ex.new hL), [], [], trivial, rfl, upd_same, .nil⟩ (fun n H' _ pv => pv.2.1 _ _ (fun z => hdp (List.mem_singleton.mp z)) hdF) (fun n x H2 H3 hlt pv y => ?_) (fun H2 pv => ?_)
  · obtain ⟨p0, k2, P2, E, ps, ew, hl, hL2, hpr⟩ := pv
    obtain ⟨e2, k, v, ek, ex⟩ := y
    subst e2 ex
    unfold wkv at ek
    rw [List.getElem?_map] at ek
    cases hn : W[n]? with
    | none => rw [hn] at ek; cases ek
    | some wq =>
      rw [hn] at ek
      cases ek
      have hm := List.mem_of_getElem? hn
      have hb := hW.b _ hm
      have hd2 := k2 _ _ (fun z => hdp (List.mem_singleton.mp z)) hdF
      refine ⟨rfl, ?_⟩
      refine ⟨_, rfl, _, rfl, _, rfl, _, rfl, d, _, rfl, dget_frz hd2 (look_mem hW.nd hm), _, rfl, p, wq.2, sg, rfl, by omega, hs0, hs1, P2, fun l H4 hll hsub k4 P4 => ⟨z2, fun a ha => ?_⟩⟩
      have e5 : Evl.Ex H4 (upd H4 a (.tup [.str wq.1, .str (R l)])) := Evl.Ex.new ha
      have hL4 : H4 L = some (.lst (ps.map V.ref)) := k4 _ _ (fun z => hLp (List.mem_singleton.mp z)) hL2
      have haL : a ≠ L := fun z => by rw [z, hL4] at ha; cases ha
      refine ⟨_, e5 _ _ hL4, ?_, p0, ((k2.trans k4).trans (Kp.of e5)).mut p0, ?_, E ++ [(wq.1, l)], ps ++ [a], ?_, by rw [List.length_append, hl]; rfl, ?_, ?_⟩
      · rw [List.length_map, hl]
        rw [hwl] at hlt
        have := hW.len
        exact Nat.lt_of_lt_of_le (by omega : n < 20) (by decide)
      · obtain ⟨x, y, h1, h2⟩ := P4.ex e5
        exact ⟨x, y, by rw [upd_ne (Ne.symm hLp)]; exact h1, h2⟩
      · rw [List.take_add_one, hn]
        exact ew.snoc rfl hll
      · rw [upd_same, List.map_append]
        rfl
      · have em : ekv (E ++ [(wq.1, l)]) = ekv E ++ [(Sum.inr wq.1, V.str (R l))] := by unfold ekv; rw [List.map_append]; rfl
        rw [em]
        refine (paired_mono (fun b kv hb => ?_) hpr).snoc ?_
        · have hbL : b ≠ L := fun z => by rw [z, hL2] at hb; cases hb
          rw [upd_ne hbL]
          exact e5 _ _ (k4.tk P2 _ _ hb)
        · rw [upd_ne haL]
          exact upd_same
  · obtain ⟨p0, k2, P2, E, ps, ew, hl, hL2, hpr⟩ := pv
    rw [List.take_of_length_le (by rw [hwl]; exact Nat.le_refl _)] at ew
    have hd2 := k2 _ _ (fun z => hdp (List.mem_singleton.mp z)) hdF
    have hU : ∀ b o, (∀ o', o ≠ .frz o' (.dK (wkv W))) → H2 b = some o → (upd H2 d (.dK (wkv W))) b = some o := fun b o hne hb => by
      have : b ≠ d := fun z => by rw [z, hd2] at hb; cases hb; exact hne od rfl
      rw [upd_ne this]; exact hb
    have kk : Kp [p] H (upd H2 d (.dK (wkv W))) := fun b o hnp hb => by
      by_cases z : b = d
      · subst z
        rw [upd_same, ← hb, hd]
      · rw [upd_ne z]
        exact k2 b o hnp (kF b o (fun m => by rcases List.mem_cons.mp m with e | e; exact z e; exact hnp e) hb)
    have P3 : Pot (upd H2 d (.dK (wkv W))) p := by
      obtain ⟨x, y, h1, h2⟩ := P2
      exact ⟨x, y, by rw [upd_ne (Ne.symm hdp)]; exact h1, h2⟩
    refine ⟨hd2, L, ps, ekv E, rfl, SqL.of (by rw [upd_ne hLd]; exact hL2), paired_mono (fun b kv hb => SqT.of (hU _ _ (fun _ z => nomatch z) hb)) hpr, fun a ha => ?_⟩
    rw [merge_ekv ew hW]
    have ha0 : H a = none := by
      cases h0 : H a with
      | none => rfl
      | some o =>
        by_cases z : a = p
        · exact absurd ha (by rw [z]; exact P3.some)
        · rw [kk a o (fun m => z (List.mem_singleton.mp m)) h0] at ha
          cases ha
    exact q a E _ ew ha0 (kk.mut ha0) (P3.ex (Evl.Ex.new ha)) upd_same
end
end K24
/-! K24, part 25: the makers: the great term -/
namespace K24
open PySem PySem.Spec PyProof.Rows L2
theorem rg2 : ∀ l : Nat, l < 33 → Builtin.Range.small 0 ((l : Int) - 1) 2 = true ∧ Builtin.Range.rangeSize 0 ((l : Int) - 1) 2 = ((l / 2 : Nat) : Int) := by decide
theorem rgc2 {l : Nat} (h : l < 33) : RgC 0 ((l : Int) - 1) 2 (l / 2) := ⟨by decide, by decide, (rg2 l h).1, (rg2 l h).2⟩
def Row (W : WD) (H : Hp) (k : Nat) (vs : List V) : Prop := ∀ v ∈ vs, ∃ t, Wt W t 1 ∧ deep t ≤ k ∧ At H t v
theorem Row.mono {W : WD} {H H' : Hp} {k k' : Nat} {vs : List V} (r : Row W H k vs) (h : Tk H H') (hk : k ≤ k') : Row W H' k' vs := fun v hv => by
  obtain ⟨t, a, b, c⟩ := r v hv
  exact ⟨t, a, Nat.le_trans b hk, c.mono h⟩
def spGreat : Sp := fun vs H Q _ => ∃ (p : Addr) (x : Str) (W : WD) (n : Nat), vs = [.ref p, .str x] ∧ Pot H p ∧ W.lookup x = some n ∧ 1 ≤ n ∧ n ≤ 8 ∧
  ∀ (t : Tm) (v : V) (m : Nat) H', Wt W t m → deep t ≤ 10 → At H' t v → Kp [p] H H' → Pot H' p → Q v H'
section
variable {P : Program} {w : World} {K : PySem.W.Frag} {mg : Str → Option Value} {base : Heap}
theorem ok_great (D : Df K mg "_law_great" s_L_great) (T : Bi mg) (CT : Cl P w K mg base "_law_take" 1 spTake) : Cl P w K mg base "_law_great" 2 spGreat := by
  refine mk_cl D sc_L_great (fun _ _ _ _ _ _ us hl => match us, hl with | [_, _], _ => rfl) (fun vs H Q E h => ?_) (fun f cdv A outer s H vs Q E hr h => ?_)
  · obtain ⟨_, _, _, _, e, _⟩ := h
    rw [e]; rfl
  obtain ⟨p, x, W, n, e, hp, hx, hn1, hn8, q⟩ := h
  subst e
  have nd := sc_L_great.nd
  refine ⟨_, pss_cons (ps_set (i := 2) nd rfl (Or.inl rfl) (pe_cl CT hr (by decide) (pa_cons (pv 0) (pa_cons pe_int pa_nil))))
    (pss_cons (ps_if (pt_cmpR op_eq (pv 2) pe_int (nomark _))
      (pss_cons (ps_set (i := 3) nd rfl (Or.inl rfl) (pe_tup (pa_cons pe_str (pa_cons (pv 1) pa_nil))))
      (pss_cons (ps_for PassesOwn.never rfl (pi_range1 rfl T.range (pa_cons (pe_op op_add pe_int (pe_cl CT hr (by decide) (pa_cons (pv 0) (pa_cons pe_int pa_nil)))) pa_nil)) (pg_name (i := 4) nd rfl (Or.inl rfl))
        (pss_one (ps_set (i := 3) nd rfl (Or.inl rfl) (pe_ix ix_list (pe_lst (pa_cons (pe_tup (pa_cons pe_str (pa_cons (pv 3) (pa_cons (pe_tup (pa_cons pe_str (pa_cons (pv 1) pa_nil))) pa_nil)))) (pa_cons (pe_tup (pa_cons pe_str (pa_cons (pe_tup (pa_cons pe_str (pa_cons (pv 1) pa_nil))) (pa_cons (pv 3) pa_nil)))) pa_nil)))
          (pe_cl CT hr (by decide) (pa_cons (pv 0) (pa_cons pe_int pa_nil))) (fun _ _ => rfl)))))
      (pss_one (ps_ret (pe_tup (pa_cons pe_str (pa_cons (pe_tup (pa_cons pe_str (pa_cons (pv 3) (pa_cons pe_int (pa_cons pe_int pa_nil))))) (pa_cons (pe_tup (pa_cons pe_str (pa_cons pe_str pa_nil))) pa_nil)))))))) pss_nil)
    (pss_cons (ps_if (pt_cmpR op_eq (pv 2) pe_int (nomark _))
      (pss_cons (ps_set (i := 3) nd rfl (Or.inl rfl) (pe_tup (pa_cons pe_str (pa_cons (pv 1) pa_nil))))
      (pss_cons (ps_for PassesOwn.never rfl (pi_range1 rfl T.range (pa_cons (pe_op op_add pe_int (pe_cl CT hr (by decide) (pa_cons (pv 0) (pa_cons pe_int pa_nil)))) pa_nil)) (pg_name (i := 4) nd rfl (Or.inl rfl))
        (pss_one (ps_set (i := 3) nd rfl (Or.inl rfl) (pe_tup (pa_cons (pe_ix ix_list (pe_lst (pa_cons pe_str (pa_cons pe_str (pa_cons pe_str pa_nil)))) (pe_cl CT hr (by decide) (pa_cons (pv 0) (pa_cons pe_int pa_nil))) (fun _ _ => rfl)) (pa_cons (pv 3) pa_nil))))))
      (pss_one (ps_ret (pv 3))))) pss_nil)
    (pss_cons (ps_set (i := 5) nd rfl (Or.inr rfl) (pe_lc (own := [("_law_k", 4)]) (g := gName 4) (tt := tYes) (te := tOp (rIxL K) (tLst (tCons (tTup (tCons (tC (.str "is")) (tCons (tC (.str "0")) tNil))) (tCons (tTup (tCons (tC (.str "any")) (tCons (tTup (tCons (tC (.str "of")) (tCons (tVar 1) tNil))) tNil))) (tCons (tTup (tCons (tC (.str "is")) (tCons (tC (.str "x")) tNil))) tNil)))) (tCall spTake [] E0 (tCons (tVar 0) (tCons (tC (.int 3)) tNil)))) rfl nd (pi_range1 rfl T.range (pa_cons (pe_op op_add pe_int (pe_cl CT hr (by decide) (pa_cons (pv 0) (pa_cons pe_int pa_nil)))) pa_nil))
        (blkOk_by (own := [("_law_k", 4)]) (N := ["_law_pot_here", "_law_name_here", "_law_which", "_law_thing", "_law_k", "_law_row", "_law_pairs"]) (sc := defScope s_L_great) (by decide +kernel))
        (fun _ _ _ _ _ => pg_name (i := 4) nd rfl (Or.inl rfl)) (fun _ _ _ _ _ => pts_nil)
        (fun _ _ _ _ _ => pe_ix ix_list (pe_lst (pa_cons (pe_tup (pa_cons pe_str (pa_cons pe_str pa_nil))) (pa_cons (pe_tup (pa_cons pe_str (pa_cons (pe_tup (pa_cons pe_str (pa_cons (pv 1) pa_nil))) pa_nil))) (pa_cons (pe_tup (pa_cons pe_str (pa_cons pe_str pa_nil))) pa_nil)))) (pe_cl CT hr (by decide) (pa_cons (pv 0) (pa_cons pe_int pa_nil))) (fun _ _ => rfl))))
    (pss_cons (ps_while PassesOwn.never (pt_cmpR op_gt (pe_callB call_len_seq (by rfl) T.len PySem.boot_len (pa_cons (pv 5) pa_nil)) pe_int (nomark _))
      (pss_cons (ps_setLc (i := 6) (own := [("_law_k", 4)]) (g := gName 4) (tt := tYes) (te := tTup (tCons (tC (.str "xor")) (tCons (tOp (rIxL K) (tVar 5) (tVar 4)) (tCons (tOp (rIxL K) (tVar 5) (tOp (rI0 fun i j => .int (i + j)) (tVar 4) (tC (.int 1)))) tNil)))) rfl nd rfl rfl (sw_true rfl rfl rfl (by decide +kernel)) (pi_range3 rfl T.range (pa_cons pe_int (pa_cons (pe_op op_sub (pe_callB call_len_seq (by rfl) T.len PySem.boot_len (pa_cons (pv 5) pa_nil)) pe_int) (pa_cons pe_int pa_nil))))
        (blkOk_by (own := [("_law_k", 4)]) (N := ["_law_pot_here", "_law_name_here", "_law_which", "_law_thing", "_law_k", "_law_row", "_law_pairs"]) (sc := defScope s_L_great) (by decide +kernel))
        (fun _ _ _ _ _ => pg_name (i := 4) nd rfl (Or.inl rfl)) (fun _ _ _ _ _ => pts_nil)
        (fun _ _ _ _ _ => pe_tup (pa_cons pe_str (pa_cons (pe_ix ix_list (pv 5) (pv 4) (fun _ _ => rfl)) (pa_cons (pe_ix ix_list (pv 5) (pe_op op_add (pv 4) pe_int) (fun _ _ => rfl)) pa_nil)))))
      (pss_one (ps_set (i := 5) nd rfl (Or.inr rfl) (pe_op op_cat (pv 6) (pe_slice sl_list (pv 5) (po_some (pe_op op_sub (pe_callB call_len_seq (by rfl) T.len PySem.boot_len (pa_cons (pv 5) pa_nil)) (pe_op op_mod (pe_callB call_len_seq (by rfl) T.len PySem.boot_len (pa_cons (pv 5) pa_nil)) pe_int))) po_none))))))
    (pss_one (ps_ret (pe_ix ix_list (pv 5) pe_int (fun _ _ => rfl)))))))), ?_⟩
  have z2 : (2 : Nat) ≤ sizeLine := by decide
  have z3 : (3 : Nat) ≤ sizeLine := by decide
  have z4 : (4 : Nat) ≤ sizeLine := by decide
  refine ⟨_, rfl, p, 3, rfl, by decide, by decide, hp, fun which Ha hwh ka Pa => ?_⟩
  refine if_pure (eq_pure (c := 1) rfl) (fun _ => ?_) (fun _ => ?_)
  · refine ⟨_, rfl, z2, fun a0 ha0 => ?_⟩
    have e0 : Evl.Ex Ha (upd Ha a0 (.tup [.str "of", .str x])) := Evl.Ex.new ha0
    refine ⟨_, rfl, p, 3, rfl, by decide, by decide, Pa.ex e0, fun d Hb hd kb Pb => ⟨_, _, rfl, rfl, _, rfl, by omega, by omega, ?_⟩⟩
    have kab : Kp [p] H Hb := (ka.trans (Kp.of e0)).trans kb
    have hN : ((5 : Int) + d).toNat ≤ 7 := by omega
    refine for_it walk_range (fun i σ H' => ∃ (v : V) (y4 : _) (t : Tm), σ = [some (.ref p), some (.str x), some (.int which), some v, y4, none, none] ∧ Wt W t n ∧ deep t ≤ 1 + i ∧ At H' t v ∧ Kp [p] H H' ∧ Pot H' p)
      ⟨.ref a0, none, .var x, rfl, ⟨hx, hn1, hn8⟩, Nat.le_refl 1, ⟨a0, rfl, kb.tk (Pa.ex e0) _ _ upd_same⟩, kab, Pb⟩ (fun _ _ _ _ _ => trivial) (fun i y σ H4 H5 hlt pv yy => ?_) (fun σ H4 pv => ?_)
    · obtain ⟨v, y4, t, e, wt, dt, at4, k4, P4⟩ := pv
      obtain ⟨e1, e2⟩ := yy
      subst e e1 e2
      refine ⟨_, rfl, _, rfl, z2, fun a1 h1 => ⟨z3, fun b1 hb1 => ⟨_, rfl, z2, fun a2 h2 => ⟨_, rfl, z3, fun b2 hb2 => ⟨z2, fun c hc => ?_⟩⟩⟩⟩⟩
      have x1 := Evl.Ex.new (o := .tup [.str "of", .str x]) h1
      have x2 := Evl.Ex.new (o := .tup [.str "plus", v, .ref a1]) hb1
      have x3 := Evl.Ex.new (o := .tup [.str "of", .str x]) h2
      have x4 := Evl.Ex.new (o := .tup [.str "plus", .ref a2, v]) hb2
      have x5 := Evl.Ex.new (o := .lst [.ref b1, .ref b2]) hc
      have xx := x1.trans (x2.trans (x3.trans (x4.trans x5)))
      have hcp : c ≠ p := fun z => (P4.ex (x1.trans (x2.trans (x3.trans x4)))).some (by rw [← z]; exact hc)
      refine ⟨_, rfl, p, 2, rfl, by decide, by decide, P4.ex xx, fun d5 H9 hd5 k9 P9 => ?_⟩
      have T9 : Tk _ H9 := k9.tk (P4.ex xx)
      have hc9 : H9 c = some (.lst [.ref b1, .ref b2]) := k9 _ _ (fun z => hcp (List.mem_singleton.mp z)) upd_same
      have hv : ∃ (u : V) (t' : Tm), atI [V.ref b1, V.ref b2] (d5 : Int) = some u ∧ Wt W t' n ∧ deep t' ≤ 1 + (i + 1) ∧ At H9 t' u := by
        have h01 : d5 = 0 ∨ d5 = 1 := by omega
        have dp := deep_pos t
        have atv : At H9 t v := at4.mono ((Tk.of xx).trans T9)
        rcases h01 with e | e <;> subst e
        · exact ⟨.ref b1, .bin .plus t (.var x), rfl, ⟨wt, hx, hn1, hn8⟩, by show max (deep t) 1 + 1 ≤ _; omega, b1, v, .ref a1, rfl, T9 _ _ ((x3.trans (x4.trans x5)) _ _ upd_same), atv, a1, rfl, T9 _ _ ((x2.trans (x3.trans (x4.trans x5))) _ _ upd_same)⟩
        · exact ⟨.ref b2, .bin .plus (.var x) t, rfl, ⟨⟨hx, hn1, hn8⟩, wt⟩, by show max 1 (deep t) + 1 ≤ _; omega, b2, .ref a2, v, rfl, T9 _ _ (x5 _ _ upd_same), ⟨a2, rfl, T9 _ _ ((x4.trans x5) _ _ upd_same)⟩, atv⟩
      obtain ⟨u, t', hu, wt', dt', at9⟩ := hv
      exact ⟨c, _, d5, u, rfl, rfl, SqL.of hc9, hu, u, _, t', rfl, wt', dt', at9, (k4.trans (Kp.of xx)).trans k9, P9⟩
    · obtain ⟨v, y4, t, e, wt, dt, at4, k4, P4⟩ := pv
      subst e
      refine ⟨_, rfl, z4, fun a ha => ⟨z2, fun b hb => ⟨z3, fun c hc => ?_⟩⟩⟩
      have x1 := Evl.Ex.new (o := .tup [.str "part", v, .int 0, .int 0]) ha
      have x2 := Evl.Ex.new (o := .tup [.str "is", .str "1"]) hb
      have x3 := Evl.Ex.new (o := .tup [.str "join", .ref a, .ref b]) hc
      have xx := x1.trans (x2.trans x3)
      exact q (.join (.part t 0 0) (.is [.i])) (.ref c) 2 _ ⟨by decide, 1, 1, rfl, ⟨Nat.le_refl 0, rfl, n, by omega, wt⟩, rfl, by decide, by decide⟩ (by show max (deep t + 1) 1 + 1 ≤ _; omega)
        ⟨c, .ref a, .ref b, rfl, upd_same, ⟨a, v, rfl, (x2.trans x3) _ _ upd_same, at4.mono (Tk.of xx)⟩, b, rfl, x3 _ _ upd_same⟩ (k4.trans (Kp.of xx)) (P4.ex xx)
  refine if_pure (eq_pure (c := 0) rfl) (fun _ => ?_) (fun _ => ?_)
  · refine ⟨_, rfl, z2, fun a0 ha0 => ?_⟩
    have e0 : Evl.Ex Ha (upd Ha a0 (.tup [.str "of", .str x])) := Evl.Ex.new ha0
    refine ⟨_, rfl, p, 5, rfl, by decide, by decide, Pa.ex e0, fun d Hb hd kb Pb => ⟨_, _, rfl, rfl, _, rfl, by omega, by omega, ?_⟩⟩
    have kab : Kp [p] H Hb := (ka.trans (Kp.of e0)).trans kb
    have hN : ((5 : Int) + d).toNat ≤ 9 := by omega
    refine for_it walk_range (fun i σ H' => ∃ (v : V) (y4 : _) (t : Tm) (m : Nat), σ = [some (.ref p), some (.str x), some (.int which), some v, y4, none, none] ∧ Wt W t m ∧ deep t ≤ 1 + i ∧ At H' t v ∧ Kp [p] H H' ∧ Pot H' p)
      ⟨.ref a0, none, .var x, n, rfl, ⟨hx, hn1, hn8⟩, Nat.le_refl 1, ⟨a0, rfl, kb.tk (Pa.ex e0) _ _ upd_same⟩, kab, Pb⟩ (fun _ _ _ _ _ => trivial) (fun i y σ H4 H5 hlt pv yy => ?_) (fun σ H4 pv => ?_)
    · obtain ⟨v, y4, t, m, e, wt, dt, at4, k4, P4⟩ := pv
      obtain ⟨e1, e2⟩ := yy
      subst e e1 e2
      refine ⟨z3, fun c hc => ?_⟩
      have x5 := Evl.Ex.new (o := .lst [.str "not", .str "any", .str "all"]) hc
      have hcp : c ≠ p := fun z => P4.some (by rw [← z]; exact hc)
      refine ⟨_, rfl, p, 3, rfl, by decide, by decide, P4.ex x5, fun d5 H9 hd5 k9 P9 => ?_⟩
      have T9 : Tk _ H9 := k9.tk (P4.ex x5)
      have hc9 : H9 c = some (.lst [.str "not", .str "any", .str "all"]) := k9 _ _ (fun z => hcp (List.mem_singleton.mp z)) upd_same
      have atv : At H9 t v := at4.mono ((Tk.of x5).trans T9)
      have hv : ∃ (u : Str) (t' : Tm) (m' : Nat), atI [V.str "not", V.str "any", V.str "all"] (d5 : Int) = some (.str u) ∧ Wt W t' m' ∧ deep t' ≤ 1 + (i + 1) ∧ ∀ H' a, H' a = some (.tup [.str u, v]) → At H' t v → At H' t' (.ref a) := by
        have h01 : d5 = 0 ∨ d5 = 1 ∨ d5 = 2 := by omega
        rcases h01 with e | e | e <;> subst e
        · exact ⟨"not", .nt t, m, rfl, wt, by show deep t + 1 ≤ _; omega, fun H' a h h2 => ⟨a, v, rfl, h, h2⟩⟩
        · exact ⟨"any", .uno .any t, 1, rfl, ⟨rfl, m, wt⟩, by show deep t + 1 ≤ _; omega, fun H' a h h2 => ⟨a, v, rfl, h, h2⟩⟩
        · exact ⟨"all", .uno .all t, 1, rfl, ⟨rfl, m, wt⟩, by show deep t + 1 ≤ _; omega, fun H' a h h2 => ⟨a, v, rfl, h, h2⟩⟩
      obtain ⟨u, t', m', hu, wt', dt', hat⟩ := hv
      refine ⟨c, _, d5, _, rfl, rfl, SqL.of hc9, hu, _, rfl, z2, fun a ha => ?_⟩
      have x6 := Evl.Ex.new (o := .tup [.str u, v]) ha
      exact ⟨.ref a, _, t', m', rfl, wt', dt', hat _ a upd_same (atv.mono (Tk.of x6)), ((k4.trans (Kp.of x5)).trans k9).trans (Kp.of x6), P9.ex x6⟩
    · obtain ⟨v, y4, t, m, e, wt, dt, at4, k4, P4⟩ := pv
      subst e
      exact ⟨_, rfl, q t v m H4 wt (by omega) at4 k4 P4⟩
  refine ⟨_, rfl, p, 9, rfl, by decide, by decide, Pa, fun d Hb hd kb Pb => ⟨_, _, rfl, rfl, _, rfl, by omega, by omega, fun L hL => ?_⟩⟩
  have kab : Kp [p] H Hb := ka.trans kb
  have hN : ((12 : Int) + d).toNat ≤ 20 := by omega
  have hN2 : 1 ≤ ((12 : Int) + d).toNat := by omega
  have hLp : L ≠ p := fun z => Pb.some (by rw [← z]; exact hL)
  refine lc_it walk_range (fun i H' => Hb L = none ∧ Kp [p] Hb H' ∧ Pot H' p ∧ ∃ vs : List V, vs.length = i ∧ Row W H' 2 vs ∧ H' L = some (.lst vs)) ⟨hL, Kp.of (Evl.Ex.new hL), Pb.ex (Evl.Ex.new hL), [], rfl, (fun v hv => by cases hv), upd_same⟩ (fun _ _ _ _ => trivial) (fun i y H4 H5 hlt pv yy => ?_) (fun H4 pv => ?_)
  · obtain ⟨p0, k4, P4, vs, hvl, hrow, hL4⟩ := pv
    obtain ⟨e1, e2⟩ := yy
    subst e1 e2
    refine ⟨rfl, ?_⟩
    refine ⟨z2, fun a1 h1 => ⟨_, rfl, z2, fun a2 h2 => ⟨z2, fun a3 h3 => ⟨z2, fun a4 h4 => ⟨z3, fun c hc => ?_⟩⟩⟩⟩⟩
    have x1 := Evl.Ex.new (o := .tup [.str "is", .str "0"]) h1
    have x2 := Evl.Ex.new (o := .tup [.str "of", .str x]) h2
    have x3 := Evl.Ex.new (o := .tup [.str "any", .ref a2]) h3
    have x4 := Evl.Ex.new (o := .tup [.str "is", .str "x"]) h4
    have x5 := Evl.Ex.new (o := .lst [.ref a1, .ref a3, .ref a4]) hc
    have xx := x1.trans (x2.trans (x3.trans (x4.trans x5)))
    have hcp : c ≠ p := fun z => (P4.ex (x1.trans (x2.trans (x3.trans x4)))).some (by rw [← z]; exact hc)
    refine ⟨_, rfl, p, 3, rfl, by decide, by decide, P4.ex xx, fun d5 H9 hd5 k9 P9 => ?_⟩
    have T9 : Tk _ H9 := k9.tk (P4.ex xx)
    have hc9 : H9 c = some (.lst [.ref a1, .ref a3, .ref a4]) := k9 _ _ (fun z => hcp (List.mem_singleton.mp z)) upd_same
    have hL9 : H9 L = some (.lst vs) := k9 _ _ (fun z => hLp (List.mem_singleton.mp z)) (xx _ _ hL4)
    have hv : ∃ (u : V) (t' : Tm), atI [V.ref a1, V.ref a3, V.ref a4] (d5 : Int) = some u ∧ Wt W t' 1 ∧ deep t' ≤ 2 ∧ At H9 t' u := by
      have h01 : d5 = 0 ∨ d5 = 1 ∨ d5 = 2 := by omega
      rcases h01 with e | e | e <;> subst e
      · exact ⟨.ref a1, .is [.o], rfl, ⟨rfl, by decide, by decide⟩, (by decide : 1 ≤ 2), a1, rfl, T9 _ _ ((x2.trans (x3.trans (x4.trans x5))) _ _ upd_same)⟩
      · exact ⟨.ref a3, .uno .any (.var x), rfl, ⟨rfl, n, hx, hn1, hn8⟩, Nat.le_refl 2, a3, .ref a2, rfl, T9 _ _ ((x4.trans x5) _ _ upd_same), a2, rfl, T9 _ _ ((x3.trans (x4.trans x5)) _ _ upd_same)⟩
      · exact ⟨.ref a4, .is [.x], rfl, ⟨rfl, by decide, by decide⟩, (by decide : 1 ≤ 2), a4, rfl, T9 _ _ (x5 _ _ upd_same)⟩
    obtain ⟨u, t', hu, wt', dt', at9⟩ := hv
    have hX : Evl.Ex Hb H9 → True := fun _ => trivial
    refine ⟨c, _, d5, u, rfl, rfl, SqL.of hc9, hu, _, hL9, ?_, p0, ((k4.trans (Kp.of xx)).trans k9).mut p0, ?_, vs ++ [u], by rw [List.length_append, hvl]; rfl, ?_, upd_same⟩
    · rw [hvl]
      exact Nat.lt_of_lt_of_le (by omega : i < 20) (by decide)
    · obtain ⟨a, b, h1, h2⟩ := P9
      exact ⟨a, b, by rw [upd_ne (Ne.symm hLp)]; exact h1, h2⟩
    · have T10 : Tk H9 (upd H9 L (.lst (vs ++ [u]))) := fun b xs hb => by
        rw [upd_ne (fun z => by rw [z, hL9] at hb; cases hb)]; exact hb
      intro v hv
      rcases List.mem_append.mp hv with h | h
      · exact (hrow.mono (((Tk.of xx).trans T9).trans T10) (Nat.le_refl 2)) v h
      · rw [List.mem_singleton.mp h]
        exact ⟨t', wt', dt', at9.mono T10⟩
  · obtain ⟨p0, k4, P4, vs, hvl, hrow, hL4⟩ := pv
    have k04 : Kp [p] H H4 := kab.trans k4
    refine ⟨fun m σ H' => ∃ (L : Addr) (vs : List V) (rd : Nat) (y6 : _), σ = [some (.ref p), some (.str x), some (.int which), none, none, some (.ref L), y6] ∧ H' L = some (.lst vs) ∧ vs.length = m ∧ 1 ≤ m ∧ rd ≤ 5 ∧ m ≤ 2 ^ (5 - rd) ∧ Row W H' (2 + rd) vs ∧ Kp [p] H H' ∧ Pot H' p,
      ⟨vs.length, L, vs, 0, none, rfl, hL4, rfl, by rw [hvl]; exact hN2, by decide, by rw [hvl]; exact Nat.le_trans hN (by decide), hrow, k04, P4⟩, fun m σ H5 hw => ?_⟩
    obtain ⟨L1, us, rd, y6, e, hL5, hul, hu1, hrd, hu2, hrow5, k5, P5⟩ := hw
    subst e
    refine ⟨_, rfl, L1, us, rfl, .inl (SqL.of hL5), _, _, rfl, rfl, decide (1 < (us.length : Int)), rfl, ?_⟩
    have h32 : us.length < 33 := by
      have : 2 ^ (5 - rd) ≤ 2 ^ 5 := Nat.pow_le_pow_right (by decide) (by omega)
      omega
    cases hgt : decide (1 < (us.length : Int)) with
    | false =>
      have hl : us.length = 1 := by
        have := of_decide_eq_false hgt
        omega
      obtain ⟨v, ev⟩ : ∃ v, us = [v] := by
        match us, hl with
        | [v], _ => exact ⟨v, rfl⟩
      subst ev
      obtain ⟨t, wt, dt, at5⟩ := hrow5 v (List.mem_cons_self ..)
      exact iteF ⟨_, rfl, L1, _, 0, _, rfl, rfl, SqL.of hL5, atI_nat (j := 0) rfl, q t v 1 H5 wt (by omega) at5 k5 P5⟩
    | true =>
      have hgt' : 1 < us.length := by
        have := of_decide_eq_true hgt
        omega
      refine iteT ⟨fun σ' H' => ∃ m', m' < m ∧ _, fun _ _ h => h, ?_⟩
      refine ⟨_, rfl, L1, us, rfl, .inl (SqL.of hL5), _, _, rfl, rfl, 0, _, 2, us.length / 2, rfl, rgc2 h32, fun D hD => ?_⟩
      refine lc_it walk_rangeC (fun i H' => H5 D = none ∧ Evl.Ex H5 H' ∧ ∃ ws : List V, ws.length = i ∧ Row W H' (2 + (rd + 1)) ws ∧ H' D = some (.lst ws)) ⟨hD, Evl.Ex.new hD, [], rfl, (fun v hv => by cases hv), upd_same⟩ (fun _ _ _ _ => trivial) (fun i y H6 H7 hlt pv yy => ?_) (fun H6 pv => ?_)
      · obtain ⟨q0, e6, ws, hwl, hrw, hD6⟩ := pv
        obtain ⟨e1, e2⟩ := yy
        subst e1 e2
        have i1 : (0 : Int) + (i : Nat) * 2 = ((2 * i : Nat) : Int) := by omega
        have i2 : ((2 * i : Nat) : Int) + 1 = ((2 * i + 1 : Nat) : Int) := by omega
        obtain ⟨v1, hv1⟩ : ∃ v, us[2 * i]? = some v := ⟨_, List.getElem?_eq_getElem (by omega)⟩
        obtain ⟨v2, hv2⟩ : ∃ v, us[2 * i + 1]? = some v := ⟨_, List.getElem?_eq_getElem (by omega)⟩
        obtain ⟨t1, wt1, dt1, at1⟩ := hrow5 v1 (List.mem_of_getElem? hv1)
        obtain ⟨t2, wt2, dt2, at2⟩ := hrow5 v2 (List.mem_of_getElem? hv2)
        refine ⟨rfl, ?_⟩
        refine ⟨_, rfl, _, rfl, L1, us, _, v1, rfl, rfl, SqL.of (e6 _ _ hL5), (by rw [i1]; exact atI_nat hv1), _, rfl, _, rfl, _, _, rfl, rfl, L1, us, _, v2, rfl, rfl, SqL.of (e6 _ _ hL5), (by rw [i1, i2]; exact atI_nat hv2), z3, fun a ha => ?_⟩
        have x1 := Evl.Ex.new (o := .tup [.str "xor", v1, v2]) ha
        refine ⟨ws, x1 _ _ hD6, ?_, q0, Evl.Ex.mut (e6.trans x1) q0, ws ++ [.ref a], by rw [List.length_append, hwl]; rfl, ?_, upd_same⟩
        · rw [hwl]
          exact Nat.lt_of_lt_of_le (by omega : i < 33) (by decide)
        · have hDa : a ≠ D := fun z => by rw [z, hD6] at ha; cases ha
          have T10 : Tk (upd H7 a (.tup [.str "xor", v1, v2])) (upd (upd H7 a (.tup [.str "xor", v1, v2])) D (.lst (ws ++ [.ref a]))) := fun b xs hb => by
            rw [upd_ne (fun z => by rw [z, x1 _ _ hD6] at hb; cases hb)]; exact hb
          intro v hv
          rcases List.mem_append.mp hv with h | h
          · exact (hrw.mono ((Tk.of x1).trans T10) (Nat.le_refl _)) v h
          · rw [List.mem_singleton.mp h]
            exact ⟨.bin .xr t1 t2, ⟨wt1, wt2⟩, by show max (deep t1) (deep t2) + 1 ≤ _; omega, a, v1, v2, rfl, T10 _ _ upd_same, at1.mono (((Tk.of e6).trans (Tk.of x1)).trans T10), at2.mono (((Tk.of e6).trans (Tk.of x1)).trans T10)⟩
      · obtain ⟨q0, e6, ws, hwl, hrw, hD6⟩ := pv
        have hL6 := e6 _ _ hL5
        refine ⟨_, rfl, _, rfl, _, rfl, L1, us, rfl, .inl (SqL.of hL6), _, rfl, L1, us, rfl, .inl (SqL.of hL6), _, _, rfl, rfl, (by decide : (0 : Int) < 2), _, _, rfl, rfl, _, rfl, L1, us, rfl, SqL.of hL6, fun s hs => ?_⟩
        have el : ((us.length : Int) - (us.length : Int) % 2) = ((us.length - us.length % 2 : Nat) : Int) := by omega
        have ec : cutV us (some ((us.length : Int) - (us.length : Int) % 2)) none = us.drop (us.length - us.length % 2) := by
          unfold cutV
          rw [el, HT.sIx_nat, HT.sIx_none, Nat.min_eq_left (by omega)]
          exact List.take_of_length_le (by rw [List.length_drop]; exact Nat.le_refl _)
        show rCat _ _ (upd H6 s (.lst (cutV us (some ((us.length : Int) - (us.length : Int) % 2)) none))) _
        rw [ec]
        have x1 := Evl.Ex.new (o := .lst (us.drop (us.length - us.length % 2))) hs
        have hnl : (ws ++ us.drop (us.length - us.length % 2)).length = us.length / 2 + us.length % 2 := by
          rw [List.length_append, hwl, List.length_drop]; omega
        refine ⟨D, s, ws, _, rfl, rfl, x1 _ _ hD6, upd_same, ?_, fun c hc => ?_⟩
        · rw [← List.length_append, hnl]
          exact Nat.le_trans (by omega : us.length / 2 + us.length % 2 ≤ 66) (by decide)
        · have x2 := Evl.Ex.new (o := .lst (ws ++ us.drop (us.length - us.length % 2))) hc
          have x3 := e6.trans (x1.trans x2)
          have hp2 : rd + 1 ≤ 5 := by
            apply Classical.byContradiction
            intro hh
            have : rd = 5 := by omega
            subst this
            have : m ≤ 1 := hu2
            omega
          have hpw : 2 ^ (5 - rd) = 2 * 2 ^ (5 - (rd + 1)) := by
            rw [show 5 - rd = (5 - (rd + 1)) + 1 from by omega, Nat.pow_succ]; omega
          refine ⟨us.length / 2 + us.length % 2, by omega, c, _, rd + 1, _, rfl, upd_same, hnl, by omega, hp2, by omega, ?_, k5.trans (Kp.of x3), P5.ex x3⟩
          intro v hv
          rcases List.mem_append.mp hv with h | h
          · exact (hrw.mono (Tk.of (x1.trans x2)) (Nat.le_refl _)) v h
          · exact (hrow5.mono (Tk.of x3) (by omega)) v (List.mem_of_mem_drop h)
end
end K24
/-! K24, part 26: law -/
namespace K24
open PySem PySem.Spec PyProof.Rows L2
def spLaw (K : PySem.W.Frag) : Sp := fun vs H Q _ => ∃ (a : Addr) (ns : List Int), vs = [.ref a] ∧ SqL K H a (ns.map V.int) ∧ ns.length ≤ 63 ∧ ∀ H', Q (.bl true) H'
def add1 : R2 := rI0 fun i j => .int (i + j)
def tTk8 : TE := tCall spTake [] E0 (tCons (tVar 2) (tCons (tC (.int 8)) tNil))
def TRow (W : WD) (H : Hp) (vs : List V) : Prop := ∀ v ∈ vs, ∃ t m, Wt W t m ∧ deep t ≤ 12 ∧ At H t v
theorem TRow.mono {W : WD} {H H' : Hp} {vs : List V} (r : TRow W H vs) (h : Tk H H') : TRow W H' vs := fun v hv => by
  obtain ⟨t, m, a, b, c⟩ := r v hv
  exact ⟨t, m, a, b, c.mono h⟩
theorem TRow.snoc {W : WD} {H : Hp} {vs : List V} {v : V} (r : TRow W H vs) (h : ∃ t m, Wt W t m ∧ deep t ≤ 12 ∧ At H t v) : TRow W H (vs ++ [v]) := fun u hu => by
  rcases List.mem_append.mp hu with e | e
  · exact r u e
  · rw [List.mem_singleton.mp e]; exact h
theorem exkp {p : Addr} {Hi H1 H2 : Hp} (e : Evl.Ex Hi H1) (h : Hi p = none) (k : Kp [p] H1 H2) : Evl.Ex Hi H2 := fun b o hb => k b o (fun z => by rw [List.mem_singleton.mp z, h] at hb; cases hb) (e b o hb)
theorem kp_new {p r : Addr} {H H1 H2 : Hp} (e : Evl.Ex H H1) (h : H r = none) (k : Kp [p, r] H1 H2) : Kp [p] H H2 := fun b o n hb => k b o (fun z => by
  rcases List.mem_cons.mp z with e | e
  · exact n (by rw [e]; exact List.mem_cons_self ..)
  · rw [List.mem_singleton.mp e, h] at hb; cases hb) (e b o hb)
theorem tk_lst {H : Hp} {L : Addr} {vs ws : List V} (h : H L = some (.lst vs)) : Tk H (upd H L (.lst ws)) := fun b xs hb => by
  rw [upd_ne (fun z => by rw [z, h] at hb; cases hb)]; exact hb
theorem Pot.upd_ne {H : Hp} {p L : Addr} {o : HO} (h : Pot H p) (n : L ≠ p) : Pot (upd H L o) p := by
  obtain ⟨x, y, h1, h2⟩ := h
  exact ⟨x, y, by rw [L2.upd_ne (Ne.symm n)]; exact h1, h2⟩
theorem merge_wkv {W : WD} (h : (W.map (·.1)).Nodup) : mergeK [] (wkv W) = wkv W := by
  refine merge_new (wkv W) [] ?_
  have e : ((([] : List (Key × V)) ++ wkv W).map (·.1)) = (W.map (·.1)).map Sum.inr := by
    rw [List.nil_append]
    unfold wkv
    rw [List.map_map, List.map_map]
    rfl
  rw [e]
  unfold List.Nodup at h ⊢
  rw [List.pairwise_map]
  exact h.imp fun h z => h (Sum.inr.inj z)
theorem mem_cut {xs : List V} {lo hi : Option Int} {x : V} (h : x ∈ cutV xs lo hi) : x ∈ xs := by
  unfold cutV at h
  exact List.mem_of_mem_drop (List.mem_of_mem_take h)
theorem ekv_self {E : VE} {W : WD} (h : EW E W) (hW : WOk W) : ∀ p ∈ ekv E, valV (ekv E) p.1 = some p.2 ∧ flatB p.2 = true := by
  intro p hp
  unfold ekv at hp
  obtain ⟨⟨x, l⟩, hm, e⟩ := List.mem_map.mp hp
  subst e
  have nd : (E.map (·.1)).Nodup := by rw [h.keys]; exact hW.nd
  exact ⟨val_ekv (look_mem nd hm), rfl⟩
section
variable {P : Program} {w : World} {K : PySem.W.Frag} {mg : Str → Option Value} {base : Heap}
theorem ok_law {f : Addr} {fd : FuncData} (D : Fun K "law" "law" s_law f fd) (T : Bi mg) (CP : Cl P w K mg base "_law_pot" 1 (spPot K)) (CT : Cl P w K mg base "_law_take" 1 spTake) (CN : Cl P w K mg base "_law_names" 3 spNames) (CM : Cl P w K mg base "_law_term" 13 (spTm 5)) (CG : Cl P w K mg base "_law_great" 2 spGreat)
    (CS : Cl P w K mg base "_law_values" 3 spVals) (CV : Cl P w K mg base "value_of_term" 18 (spVal 12)) (CL : Cl P w K mg base "_law_value" 17 (spVal 12)) : FnOk P w K mg base CX0 19 f fd ["_law_script"] (spLaw K) := by
  refine D.ok sc_law (fun vs H Q E h => ?_) (fun cdv A outer s H vs Q E hr h => ?_)
  · obtain ⟨_, _, e, _⟩ := h
    rw [e]; rfl
  obtain ⟨sc, xs, e, hs, hx, q⟩ := h
  subst e
  have nd := sc_law.nd
  have hu : (A.deeper (envOfC "law" (defScope s_law) s.heap.objs.size f cdv)).units < cLine := Nat.lt_of_le_of_lt (Nat.le_add_right _ 64) hr.units
  refine ⟨_, pss_cons (ps_for PassesOwn.never rfl (pi_range1 rfl T.range (pa_cons (pe_callB (call_max2 rfl) (by rfl) T.max PyProof.Rows.boot_max (pa_cons pe_int (pa_cons (pe_callB (call_min2 rfl) (by rfl) T.min PyProof.Rows.boot_min (pa_cons pe_int (pa_cons (pe_callB call_len_seq (by rfl) T.len PySem.boot_len (pa_cons (pv 0) pa_nil)) pa_nil))) pa_nil))) pa_nil)) (pg_name (i := 1) nd rfl (by first | exact Or.inl rfl | exact Or.inr rfl))
      (pss_cons (ps_set (i := 2) nd rfl (by first | exact Or.inl rfl | exact Or.inr rfl) (pe_cl CP hr (by decide) (pa_cons (pv 0) (pa_cons (pv 1) pa_nil))))
      (pss_cons (ps_set (i := 3) nd rfl (by first | exact Or.inl rfl | exact Or.inr rfl) (pe_callTy (call_dictP rfl) (by rfl) T.dict PyProof.Rows.boot_dict (pa_cons (pe_lc (own := [("_law_name_here", 9)]) (g := gName 9) (tt := tYes) (te := tTup (tCons (tVar 9) (tCons (tOp (rI0 fun i j => .int (i + j)) (tC (.int 1)) tTk8) tNil))) rfl nd
          (pi_list (pe_cl CN hr (by decide) (pa_cons (pv 2) (pa_cons (pe_op op_add pe_int (pe_cl CT hr (by decide) (pa_cons (pv 2) (pa_cons pe_int pa_nil)))) pa_nil))))
          (blkOk_by (own := [("_law_name_here", 9)]) (N := ["_law_script", "_law_k", "_law_pot_here", "_law_widths", "_law_terms", "_law_some", "_law_values_here", "_law_handed", "_law_term_here", "_law_name_here", "_law_turn"]) (sc := defScope s_law) (by decide +kernel))
          (fun _ _ _ _ _ => pg_name (i := 9) nd rfl (Or.inl rfl)) (fun _ _ _ _ _ => pts_nil) (fun _ _ _ _ _ => pe_tup (pa_cons (pv 9) (pa_cons (pe_op op_add pe_int (pe_cl CT hr (by decide) (pa_cons (pv 2) (pa_cons pe_int pa_nil)))) pa_nil)))) pa_nil)))
      (pss_cons (ps_setLc (i := 4) (own := [("_law_turn", 10)]) (g := gName 10) (tt := tYes) (te := tCall (spTm 5) [] E0 (tCons (tVar 2) (tCons (tVar 3) (tCons (tOp (rI0 fun i j => .int (i + j)) (tC (.int 1)) tTk8) (tCons (tC (.int 4)) (tCons (tLst (tCons (tC (.int 18)) tNil)) tNil)))))) rfl nd rfl rfl (sw_true rfl rfl rfl (by decide +kernel))
          (pi_range1 rfl T.range (pa_cons pe_int pa_nil))
          (blkOk_by (own := [("_law_turn", 10)]) (N := ["_law_script", "_law_k", "_law_pot_here", "_law_widths", "_law_terms", "_law_some", "_law_values_here", "_law_handed", "_law_term_here", "_law_name_here", "_law_turn"]) (sc := defScope s_law) (by decide +kernel))
          (fun _ _ _ _ _ => pg_name (i := 10) nd rfl (Or.inl rfl)) (fun _ _ _ _ _ => pts_nil) (fun _ _ _ _ _ => pe_cl CM hr (by decide) (pa_cons (pv 2) (pa_cons (pv 3) (pa_cons (pe_op op_add pe_int (pe_cl CT hr (by decide) (pa_cons (pv 2) (pa_cons pe_int pa_nil)))) (pa_cons pe_int (pa_cons (pe_lst (pa_cons pe_int pa_nil)) pa_nil)))))))
      (pss_cons (ps_expr (pe_bm PySem.F.plainAttrs_list PySem.F.slot_list_append PySem.F.type_list_append mt_append (pv 4) (pa_cons (pe_cl CG hr (by decide) (pa_cons (pv 2) (pa_cons (pe_ix ix_list (pe_callTy (call_listD rfl) (by rfl) T.list PyProof.Rows.boot_list (pa_cons (pv 3) pa_nil)) pe_int (fun _ _ => rfl)) pa_nil))) pa_nil)))
      (pss_cons (ps_setLc (i := 5) (own := [("_law_turn", 10)]) (g := gName 10) (tt := tYes) (te := tCall spVals [] E0 (tCons (tVar 2) (tCons (tVar 3) (tCons (tOp (rIxL K) (tLst (tCons (tC (.str "01xz")) (tCons (tC (.str "01")) (tCons (tC (.str "0011xz")) tNil)))) (tVar 10)) tNil)))) rfl nd rfl rfl (sw_true rfl rfl rfl (by decide +kernel))
          (pi_range1 rfl T.range (pa_cons pe_int pa_nil))
          (blkOk_by (own := [("_law_turn", 10)]) (N := ["_law_script", "_law_k", "_law_pot_here", "_law_widths", "_law_terms", "_law_some", "_law_values_here", "_law_handed", "_law_term_here", "_law_name_here", "_law_turn"]) (sc := defScope s_law) (by decide +kernel))
          (fun _ _ _ _ _ => pg_name (i := 10) nd rfl (Or.inl rfl)) (fun _ _ _ _ _ => pts_nil) (fun _ _ _ _ _ => pe_cl CS hr (by decide) (pa_cons (pv 2) (pa_cons (pv 3) (pa_cons (pe_ix ix_list (pe_lst (pa_cons pe_str (pa_cons pe_str (pa_cons pe_str pa_nil)))) (pv 10) (fun _ _ => rfl)) pa_nil)))))
      (pss_one (ps_for PassesOwn.never rfl (pi_list (pe_op op_cat (pv 5) (pe_slice sl_list (pv 5) po_none (po_some pe_int)))) (pg_name (i := 6) nd rfl (by first | exact Or.inl rfl | exact Or.inr rfl))
        (pss_cons (ps_set (i := 7) nd rfl (by first | exact Or.inl rfl | exact Or.inr rfl) (pe_callTy call_dictD (by rfl) T.dict PyProof.Rows.boot_dict (pa_cons (pv 6) pa_nil)))
        (pss_cons (ps_for PassesOwn.never rfl (pi_list (pe_op op_cat (pv 4) (pe_slice sl_list (pv 4) po_none (po_some pe_int)))) (pg_name (i := 8) nd rfl (by first | exact Or.inl rfl | exact Or.inr rfl))
          (pss_one (ps_if (PW.pt (pw_or (pt_cmpR op_ne (pe_cl CV hr (by decide) (pa_cons (pv 8) (pa_cons (pv 7) pa_nil))) (pe_cl CL hr (by decide) (pa_cons (pv 8) (pa_cons (pv 6) pa_nil))) (nomark _)) (pw_or1 (pt_cmpR (op_ne_dictA hu) (pv 7) (pv 6) (nomark _))))) (pss_one (ps_ret pe_bl)) pss_nil)))
        (pss_one (ps_expr (pe_dclear (pv 7))))))))))))))
    (pss_one (ps_ret pe_bl)), ?_⟩
  have z1 : (1 : Nat) ≤ sizeLine := by decide
  have z2 : (2 : Nat) ≤ sizeLine := by decide
  have z3 : (3 : Nat) ≤ sizeLine := by decide
  refine ⟨_, rfl, sc, _, rfl, .inl hs, _, _, rfl, _, _, rfl, _, rfl, ?_, ?_, ?_⟩
  · split <;> (try split) <;> omega
  · split <;> (try split) <;> omega
  have hN : (if (if (((xs.map V.int).length : Nat) : Int) < 8 then (((xs.map V.int).length : Nat) : Int) else 8) > 1 then (if (((xs.map V.int).length : Nat) : Int) < 8 then (((xs.map V.int).length : Nat) : Int) else 8) else 1).toNat ≤ 8 := by
    split <;> (try split) <;> omega
  refine for_it walk_range (fun k σ H' => ∃ y1 y2 y3 y4 y5 y6 y7 y8 y9 y10, σ = [some (.ref sc), y1, y2, y3, y4, y5, y6, y7, y8, y9, y10] ∧ Evl.Ex H H') ⟨none, none, none, none, none, none, none, none, none, none, rfl, Evl.Ex.refl H⟩ (fun _ _ _ _ _ => trivial) (fun k x σ Hi Hj hlt pv yy => ?_) (fun σ Hi pv => ?_)
  · obtain ⟨y1, y2, y3, y4, y5, y6, y7, y8, y9, y10, e, eI⟩ := pv
    obtain ⟨e1, e2⟩ := yy
    subst e e1 e2
    have hk8 : k < 8 := Nat.lt_of_lt_of_le hlt hN
    refine ⟨_, rfl, _, rfl, sc, xs, k, (by show [V.ref sc, V.int (0 + (k : Int))] = _; rw [Int.zero_add]), Evl.ex_l eI hs, by omega, by omega, fun p H1 hp e1 P1 => ?_⟩
    refine ⟨_, rfl, _, rfl, p, 4, rfl, by decide, by decide, P1, fun d4 H2 hd4 k2 P2 => ⟨_, _, rfl, rfl, p, 1 + d4, (by show [V.ref p, V.int (1 + (d4 : Int))] = _; rw [show (1 : Int) + d4 = ((1 + d4 : Nat) : Int) from by omega]), by omega, P2, fun nq nm H3 hnd hok hnl hnq k3 P3 hq3 => ⟨nq, rfl, ⟨_, SqL.of hq3⟩, fun L hL => ?_⟩⟩⟩
    have k13 : Kp [p] H1 H3 := k2.trans k3
    have hqp : nq ≠ p := fun z => P2.some (by rw [← z]; exact hnq)
    have hLp : L ≠ p := fun z => P3.some (by rw [← z]; exact hL)
    refine lc_it walk_list (fun i H' => H3 L = none ∧ Kp [p] H3 H' ∧ Pot H' p ∧ ∃ (W : WD) (ps : List Addr), W.map (·.1) = nm.take i ∧ (∀ pr ∈ W, 1 ≤ pr.2 ∧ pr.2 ≤ 8) ∧ ps.length = i ∧ H' L = some (.lst (ps.map V.ref)) ∧ Paired (fun a kv => H' a = some (.tup [kV kv.1, kv.2])) ps (wkv W))
      ⟨hL, Kp.of (Evl.Ex.new hL), P3.ex (Evl.Ex.new hL), [], [], rfl, (fun pr h => by cases h), rfl, upd_same, .nil⟩ (fun i H' _ pv => SqL.of (pv.2.1 _ _ (fun z => hqp (List.mem_singleton.mp z)) hq3)) (fun i x H4 H5 hlt pv y => ?_) (fun H4 pv => ?_)
    · obtain ⟨p0, k4, P4, W, ps, hWn, hWb, hpl, hL4, hpr⟩ := pv
      obtain ⟨e2, ex⟩ := y
      subst e2
      rw [List.getElem?_map] at ex
      cases hn : nm[i]? with
      | none => rw [hn] at ex; cases ex
      | some nx =>
        rw [hn] at ex
        cases ex
        refine ⟨rfl, ?_⟩
        refine ⟨_, rfl, _, rfl, p, 8, rfl, by decide, by decide, P4, fun d8 H6 hd8 k6 P6 => ⟨_, _, rfl, rfl, z2, fun a ha => ?_⟩⟩
        have e7 : Evl.Ex H6 (upd H6 a (.tup [.str nx, .int (1 + (d8 : Int))])) := Evl.Ex.new ha
        have hL6 : H6 L = some (.lst (ps.map V.ref)) := k6 _ _ (fun z => hLp (List.mem_singleton.mp z)) hL4
        have haL : a ≠ L := fun z => by rw [z, hL6] at ha; cases ha
        have T8 := tk_lst (ws := ps.map V.ref ++ [V.ref a]) (e7 _ _ hL6)
        refine ⟨_, e7 _ _ hL6, ?_, p0, ((k4.trans k6).trans (Kp.of e7)).mut p0, (P6.ex e7).upd_ne hLp, W ++ [(nx, 1 + d8)], ps ++ [a], ?_, ?_, by rw [List.length_append, hpl]; rfl, ?_, ?_⟩
        · rw [List.length_map, hpl]
          rw [List.length_map, hnl] at hlt
          exact Nat.lt_of_lt_of_le (by omega : i < 20) (by decide)
        · rw [List.map_append, hWn, List.take_add_one, hn]
          rfl
        · intro pr hpr2
          rcases List.mem_append.mp hpr2 with h | h
          · exact hWb pr h
          · rw [List.mem_singleton.mp h]
            exact ⟨by show 1 ≤ 1 + d8; omega, by show 1 + d8 ≤ 8; omega⟩
        · rw [upd_same, List.map_append]
          rfl
        · have em : wkv (W ++ [(nx, 1 + d8)]) = wkv W ++ [(Sum.inr nx, V.int ((1 + d8 : Nat) : Int))] := by unfold wkv; rw [List.map_append]; rfl
          rw [em]
          refine (paired_mono (fun b kv hb => T8 _ _ (e7 _ _ (k6.tk P4 _ _ hb))) hpr).snoc ?_
          have := T8 _ _ (show (upd H6 a (.tup [.str nx, .int (1 + (d8 : Int))])) a = some (.tup [.str nx, .int (1 + (d8 : Int))]) from upd_same)
          rw [show (1 : Int) + d8 = ((1 + d8 : Nat) : Int) from by omega] at this
          exact this
    · obtain ⟨p0, k4, P4, W, ps, hWn, hWb, hpl, hL4, hpr⟩ := pv
      rw [List.take_of_length_le (by rw [List.length_map]; exact Nat.le_refl _)] at hWn
      have hWnd : (W.map (·.1)).Nodup := by rw [hWn]; exact hnd
      have hWl : W.length = nm.length := by rw [← hWn, List.length_map]
      have hW : WOk W := ⟨hWnd, fun pr h => ⟨(hWb pr h).1, (hWb pr h).2, hok _ (by rw [← hWn]; exact List.mem_map.mpr ⟨pr, h, rfl⟩)⟩, by rw [hWl, hnl]; omega⟩
      obtain ⟨x0, n0, W', eW⟩ : ∃ x0 n0 W', W = (x0, n0) :: W' := by
        cases W with
        | nil => rw [hnl] at hWl; have h0 : 0 = 1 + d4 := hWl; omega
        | cons pr r => exact ⟨pr.1, pr.2, r, rfl⟩
      refine ⟨L, ps, wkv W, rfl, SqL.of hL4, paired_mono (fun b kv hb => SqT.of hb) hpr, fun d hd => ?_⟩
      rw [merge_wkv hWnd]
      have hdp : d ≠ p := fun z => P4.some (by rw [← z]; exact hd)
      have eD : Evl.Ex Hj (upd H4 d (.dK (wkv W))) := exkp e1 hp ((k13.trans k4).trans (Kp.of (Evl.Ex.new hd)))
      have PD : Pot (upd H4 d (.dK (wkv W))) p := P4.ex (Evl.Ex.new hd)
      have hdD : (upd H4 d (.dK (wkv W))) d = some (.dK (wkv W)) := upd_same
      generalize upd H4 d (.dK (wkv W)) = HD at eD PD hdD ⊢
      have dkp : ∀ {H H' : Hp}, Kp [p] H H' → H d = some (.dK (wkv W)) → H' d = some (.dK (wkv W)) := fun k h => k _ _ (fun z => hdp (List.mem_singleton.mp z)) h
      -- the terms
      refine ⟨2, rfl, by decide, by decide, fun TL hTL => ?_⟩
      have hTp : TL ≠ p := fun z => PD.some (by rw [← z]; exact hTL)
      refine lc_it walk_range (fun i H' => HD TL = none ∧ Kp [p] HD H' ∧ Pot H' p ∧ ∃ vs : List V, vs.length = i ∧ TRow W H' vs ∧ H' TL = some (.lst vs)) ⟨hTL, Kp.of (Evl.Ex.new hTL), PD.ex (Evl.Ex.new hTL), [], rfl, (fun v h => by cases h), upd_same⟩ (fun _ _ _ _ => trivial) (fun i x H5 H6 hlt pv y => ?_) (fun H5 pv => ?_)
      · obtain ⟨p0, k5, P5, vs, hvl, hrow, hT5⟩ := pv
        obtain ⟨e2, ex⟩ := y
        subst e2 ex
        refine ⟨rfl, ?_⟩
        refine ⟨_, rfl, _, rfl, _, rfl, p, 8, rfl, by decide, by decide, P5, fun d8 H7 hd8 k7 P7 => ⟨_, _, rfl, rfl, z1, fun r hr => ?_⟩⟩
        have e8 : Evl.Ex H7 (upd H7 r (.lst [.int 18])) := Evl.Ex.new hr
        have hrp : r ≠ p := fun z => P7.some (by rw [← z]; exact hr)
        refine ⟨p, d, r, W, 4, 1 + d8, rfl, (by show [V.ref p, V.ref d, V.int (1 + (d8 : Int)), V.int 4, V.ref r] = _; rw [show (1 : Int) + d8 = ((1 + d8 : Nat) : Int) from by omega]; rfl), e8 _ _ (dkp (k5.trans k7) hdD), hW, by omega, by omega, ⟨Kp.refl _, P7.ex e8, ⟨18, upd_same⟩, hrp⟩, fun t v H9 wt dt at9 s9 => ?_⟩
        have k79 : Kp [p] H7 H9 := kp_new e8 hr s9.k
        have k59 : Kp [p] _ H9 := k7.trans k79
        have hT9 : H9 TL = some (.lst vs) := k59 _ _ (fun z => hTp (List.mem_singleton.mp z)) hT5
        have T10 := tk_lst (ws := vs ++ [v]) hT9
        refine ⟨_, hT9, ?_, p0, (k5.trans k59).mut p0, s9.P.upd_ne hTp, vs ++ [v], by rw [List.length_append, hvl]; rfl, ?_, upd_same⟩
        · rw [hvl]
          exact Nat.lt_of_lt_of_le (Nat.lt_of_lt_of_le hlt (by decide : (2 : Int).toNat ≤ 2)) (by decide)
        · exact (hrow.mono ((k59.tk P5).trans T10)).snoc ⟨t, _, wt, by omega, at9.mono T10⟩
      · obtain ⟨p0, k5, P5, vs, hvl, hrow, hT5⟩ := pv
        have hd5 := dkp k5 hdD
        have hi5 : Evl.Ex Hj H5 := fun b o hb => k5 b o (fun z => by rw [List.mem_singleton.mp z, hp] at hb; cases hb) (eD b o hb)
        -- the great term
        refine ⟨_, rfl, .inl ⟨rfl, _, SqL.of hT5⟩, _, rfl, _, rfl, d, wkv W, rfl, .inl hd5, fun kl hkl => ?_⟩
        have e6 : Evl.Ex H5 (upd H5 kl (.lst ((wkv W).map fun kv => kV kv.1))) := Evl.Ex.new hkl
        have hkx : ((wkv W).map fun kv => kV kv.1)[0]? = some (.str x0) := by rw [eW]; rfl
        have hlx : W.lookup x0 = some n0 := by rw [eW]; exact List.lookup_cons_self
        have hb0 := hW.b (x0, n0) (by rw [eW]; exact List.mem_cons_self ..)
        refine ⟨kl, _, 0, _, rfl, rfl, SqL.of upd_same, atI_nat (j := 0) hkx, p, x0, W, n0, rfl, P5.ex e6, hlx, hb0.1, hb0.2.1, fun t v m H7 wt dt at7 k7 P7 => ?_⟩
        have k57 : Kp [p] H5 H7 := (Kp.of e6).trans k7
        have hT7 : H7 TL = some (.lst vs) := k57 _ _ (fun z => hTp (List.mem_singleton.mp z)) hT5
        have T8 := tk_lst (ws := vs ++ [v]) hT7
        refine ⟨TL, vs, v, rfl, rfl, hT7, ?_, ?_⟩
        · rw [hvl]; exact (by decide : (2 : Int).toNat < sizeLine)
        have hdT : d ≠ TL := fun z => by rw [← z, hd5] at hT5; cases hT5
        have hiT : Hj TL = none := by
          cases h0 : Hj TL with
          | none => rfl
          | some o => rw [eD _ _ h0] at hTL; cases hTL
        have hi8 : Evl.Ex Hj (upd H7 TL (.lst (vs ++ [v]))) := Evl.Ex.mut (fun b o hb => k57 b o (fun z => by rw [List.mem_singleton.mp z, hp] at hb; cases hb) (hi5 b o hb)) hiT
        have P8 : Pot (upd H7 TL (.lst (vs ++ [v]))) p := P7.upd_ne hTp
        have hd8 : (upd H7 TL (.lst (vs ++ [v]))) d = some (.dK (wkv W)) := by rw [upd_ne hdT]; exact dkp k57 hd5
        have row8 : TRow W (upd H7 TL (.lst (vs ++ [v]))) (vs ++ [v]) := (hrow.mono ((k57.tk P5).trans T8)).snoc ⟨t, m, wt, by omega, at7.mono T8⟩
        have hT8 : (upd H7 TL (.lst (vs ++ [v]))) TL = some (.lst (vs ++ [v])) := upd_same
        have hl8 : (vs ++ [v]).length ≤ 100 := by rw [List.length_append, hvl]; show 2 + 1 ≤ 100; decide
        generalize upd H7 TL (.lst (vs ++ [v])) = H8 at hi8 P8 hd8 row8 hT8 ⊢
        generalize vs ++ [v] = ts at row8 hT8 hl8
        -- the sets of values
        refine ⟨3, rfl, by decide, by decide, fun SL hSL => ?_⟩
        have hSp : SL ≠ p := fun z => P8.some (by rw [← z]; exact hSL)
        refine lc_it walk_range (fun i H' => H8 SL = none ∧ Kp [p] H8 H' ∧ Pot H' p ∧ ∃ us : List Addr, us.length = i ∧ (∀ u ∈ us, ∃ E, EW E W ∧ H' u = some (.dK (ekv E))) ∧ H' SL = some (.lst (us.map V.ref))) ⟨hSL, Kp.of (Evl.Ex.new hSL), P8.ex (Evl.Ex.new hSL), [], rfl, (fun v h => by cases h), upd_same⟩ (fun _ _ _ _ => trivial) (fun i x H9 H10 hlt pv y => ?_) (fun H9 pv => ?_)
        · obtain ⟨p0, k9, P9, us, hul, hus, hS9⟩ := pv
          obtain ⟨e2, ex⟩ := y
          subst e2 ex
          refine ⟨rfl, ?_⟩
          have hi3 : i = 0 ∨ i = 1 ∨ i = 2 := by
            have : i < 3 := Nat.lt_of_lt_of_le hlt (by decide : (3 : Int).toNat ≤ 3)
            omega
          obtain ⟨sg, hsg, hsg0, hsg1⟩ : ∃ sg : List G, atI [V.str "01xz", V.str "01", V.str "0011xz"] (0 + (i : Int)) = some (.str (R sg)) ∧ 0 < sg.length ∧ sg.length ≤ 1000 := by
            rcases hi3 with e | e | e <;> subst e
            · exact ⟨[.o, .i, .x, .z], rfl, by decide, by decide⟩
            · exact ⟨[.o, .i], rfl, by decide, by decide⟩
            · exact ⟨[.o, .o, .i, .i, .x, .z], rfl, by decide, by decide⟩
          refine ⟨_, rfl, _, rfl, z3, fun c hc => ?_⟩
          have e11 := Evl.Ex.new (o := .lst [.str "01xz", .str "01", .str "0011xz"]) hc
          refine ⟨_, rfl, c, _, _, _, rfl, rfl, SqL.of upd_same, hsg, p, d, W, sg, rfl, P9.ex e11, e11 _ _ (dkp k9 hd8), hW, hsg0, hsg1, fun u E H12 hew hu k12 P12 hu12 => ?_⟩
          have k912 := (Kp.of (ex := [p]) e11).trans k12
          have hS12 : H12 SL = some (.lst (us.map V.ref)) := k912 _ _ (fun z => hSp (List.mem_singleton.mp z)) hS9
          refine ⟨_, hS12, ?_, p0, (k9.trans k912).mut p0, P12.upd_ne hSp, us ++ [u], by rw [List.length_append, hul]; rfl, fun b hb => ?_, by rw [upd_same, List.map_append]; rfl⟩
          · rw [List.length_map, hul]
            exact Nat.lt_of_lt_of_le (by omega : i < 3) (by decide)
          · have hbk : ∀ (b : Addr) (kvs : List (Key × V)), H12 b = some (.dK kvs) → (upd H12 SL (.lst (us.map V.ref ++ [V.ref u]))) b = some (.dK kvs) := fun b kvs h => by
              rw [upd_ne (fun z => by rw [z, hS12] at h; cases h)]; exact h
            rcases List.mem_append.mp hb with h | h
            · obtain ⟨E', hE', hb'⟩ := hus b h
              refine ⟨E', hE', hbk _ _ (k912 _ _ (fun z => ?_) hb')⟩
              obtain ⟨_, _, h3, _⟩ := P9
              rw [List.mem_singleton.mp z, h3] at hb'
              cases hb'
            · rw [List.mem_singleton.mp h]
              exact ⟨E, hew, hbk _ _ hu12⟩
        · obtain ⟨p0, k9, P9, us, hul, hus, hS9⟩ := pv
          have hi9 : Evl.Ex Hj H9 := fun b o hb => k9 b o (fun z => by rw [List.mem_singleton.mp z, hp] at hb; cases hb) (hi8 b o hb)
          have hT9 : H9 TL = some (.lst ts) := k9 _ _ (fun z => hTp (List.mem_singleton.mp z)) hT8
          have row9 : TRow W H9 ts := row8.mono (k9.tk P8)
          have hul3 : us.length ≤ 3 := by rw [hul]; decide
          -- the loops
          refine ⟨_, rfl, _, rfl, 1, rfl, SL, _, rfl, SqL.of hS9, fun s1 hs1 => ?_⟩
          have x1 := Evl.Ex.new (o := .lst (cutV (us.map V.ref) none (some 1))) hs1
          refine ⟨SL, s1, _, _, rfl, rfl, x1 _ _ hS9, upd_same, ?_, fun c hc => ?_⟩
          · have := cutV_length (us.map V.ref) none (some 1)
            rw [List.length_map] at this ⊢
            exact Nat.le_trans (by omega : us.length + (cutV (us.map V.ref) none (some 1)).length ≤ 6) (by decide)
          have x2 := Evl.Ex.new (o := .lst (us.map V.ref ++ cutV (us.map V.ref) none (some 1))) hc
          have x3 := x1.trans x2
          have hcc : (upd (upd H9 s1 (.lst (cutV (us.map V.ref) none (some 1)))) c (.lst (us.map V.ref ++ cutV (us.map V.ref) none (some 1)))) c = some (.lst (us.map V.ref ++ cutV (us.map V.ref) none (some 1))) := upd_same
          generalize upd (upd H9 s1 (.lst (cutV (us.map V.ref) none (some 1)))) c (.lst (us.map V.ref ++ cutV (us.map V.ref) none (some 1))) = HA at x3 hcc ⊢
          refine ⟨c, rfl, ⟨_, SqL.of hcc⟩, ?_⟩
          refine for_it walk_list (fun n σ H' => ∃ y6 y7 y8, σ = [some (.ref sc), some (.int (0 + (k : Int))), some (.ref p), some (.ref d), some (.ref TL), some (.ref SL), y6, y7, y8, y9, y10] ∧ Evl.Ex HA H') ⟨y6, y7, y8, rfl, Evl.Ex.refl HA⟩ (fun n σ H' _ pv => by obtain ⟨_, _, _, _, h⟩ := pv; exact Evl.ex_l h (SqL.of hcc)) (fun n x σ HB HC hlt pv y => ?_) (fun σ HB pv => ?_)
          · obtain ⟨y6', y7', y8', e, xB⟩ := pv
            obtain ⟨e2, hx⟩ := y
            subst e e2
            have hmem : x ∈ us.map V.ref := by
              rcases List.mem_append.mp (List.mem_of_getElem? hx) with h | h
              · exact h
              · exact mem_cut h
            obtain ⟨u, hum, eu⟩ := List.mem_map.mp hmem
            subst eu
            obtain ⟨E, hew, hu9⟩ := hus u hum
            have huB := (x3.trans xB) _ _ hu9
            refine ⟨_, rfl, u, ekv E, rfl, .inl huB, fun h hh => ?_⟩
            have x4 := Evl.Ex.new (o := .dK (ekv E)) hh
            have hTB := x4 _ _ ((x3.trans xB) _ _ hT9)
            refine ⟨_, rfl, _, rfl, 1, rfl, TL, _, rfl, SqL.of hTB, fun s2 hs2 => ?_⟩
            have x5 := Evl.Ex.new (o := .lst (cutV ts none (some 1))) hs2
            refine ⟨TL, s2, _, _, rfl, rfl, x5 _ _ hTB, upd_same, ?_, fun c2 hc2 => ?_⟩
            · have := cutV_length ts none (some 1)
              exact Nat.le_trans (by omega : ts.length + (cutV ts none (some 1)).length ≤ 200) (by decide)
            have x6 := Evl.Ex.new (o := .lst (ts ++ cutV ts none (some 1))) hc2
            have x7 := x5.trans x6
            have hcc2 : (upd (upd (upd HC h (.dK (ekv E))) s2 (.lst (cutV ts none (some 1)))) c2 (.lst (ts ++ cutV ts none (some 1)))) c2 = some (.lst (ts ++ cutV ts none (some 1))) := upd_same
            generalize upd (upd (upd HC h (.dK (ekv E))) s2 (.lst (cutV ts none (some 1)))) c2 (.lst (ts ++ cutV ts none (some 1))) = HE at x7 hcc2 ⊢
            have hhE : HE h = some (.dK (ekv E)) := x7 _ _ upd_same
            have huE : HE u = some (.dK (ekv E)) := x7 _ _ (x4 _ _ huB)
            have rowE : TRow W HE ts := row9.mono (Tk.of (x3.trans (xB.trans (x4.trans x7))))
            refine ⟨c2, rfl, ⟨_, SqL.of hcc2⟩, ?_⟩
            refine for_it walk_list (fun n σ H' => ∃ y8, σ = [some (.ref sc), some (.int (0 + (k : Int))), some (.ref p), some (.ref d), some (.ref TL), some (.ref SL), some (.ref u), some (.ref h), y8, y9, y10] ∧ Evl.Ex HE H') ⟨y8', rfl, Evl.Ex.refl HE⟩ (fun n σ H' _ pv => by obtain ⟨_, _, h⟩ := pv; exact Evl.ex_l h (SqL.of hcc2)) (fun n2 x2 σ HF HG hlt2 pv y => ?_) (fun σ HF pv => ?_)
            · obtain ⟨y8'', e, xF⟩ := pv
              obtain ⟨e2, hx2⟩ := y
              subst e e2
              have hmem2 : x2 ∈ ts := by
                rcases List.mem_append.mp (List.mem_of_getElem? hx2) with h | h
                · exact h
                · exact mem_cut h
              obtain ⟨t2, m2, wt2, dt2, at2⟩ := rowE x2 hmem2
              refine ⟨_, rfl, _, rfl, x2, h, t2, E, W, m2, rfl, at2.mono (Tk.of xF), dt2, wt2, hew.fits, xF _ _ hhE, fun HH xH => ?_⟩
              refine ⟨_, rfl, _, rfl, x2, u, t2, E, W, m2, rfl, at2.mono (Tk.of (xF.trans xH)), dt2, wt2, hew.fits, (xF.trans xH) _ _ huE, fun HI xI => ?_⟩
              have xx := xF.trans (xH.trans xI)
              refine ⟨rfl, false, by simp, iteF ?_⟩
              exact ⟨_, rfl, _, rfl, h, u, ekv E, ekv E, rfl, rfl, xx _ _ hhE, xx _ _ huE, rfl, ekv_self hew hW, false, rfl, iteF ⟨_, rfl, xx⟩⟩
            · obtain ⟨y8'', e, xF⟩ := pv
              subst e
              have hhF := xF _ _ hhE
              refine ⟨_, rfl, .inr (.inr (.inl ⟨rfl, .inl ⟨_, hhF⟩⟩)), h, ekv E, rfl, rfl, hhF, ?_⟩
              have hhA : HA h = none := Evl.fresh_back xB hh
              exact ⟨_, _, _, rfl, Evl.Ex.mut (xB.trans (x4.trans (x7.trans xF))) hhA⟩
          · obtain ⟨y6', y7', y8', e, xB⟩ := pv
            subst e
            exact ⟨_, _, _, _, _, _, _, _, _, _, rfl, eI.trans (hi9.trans (x3.trans xB))⟩
  · exact q Hi
end
end K24
/-! K24, part 27: all together (the tables are printed by genend.py) -/
namespace K24
open PySem PySem.Spec PyProof.Rows L2
/-- all defs that the law reaches -/
structure Dfs (K : PySem.W.Frag) (mg : Str → Option Value) : Prop where
  read : Df K mg "read" s_read
  mixed_bit : Df K mg "mixed_bit" s_mixed_bit
  mixed : Df K mg "mixed" s_mixed
  not_bit : Df K mg "not_bit" s_not_bit
  and_bit : Df K mg "and_bit" s_and_bit
  or_bit : Df K mg "or_bit" s_or_bit
  xor_bit : Df K mg "xor_bit" s_xor_bit
  most_bit : Df K mg "most_bit" s_most_bit
  bit_by_bit : Df K mg "bit_by_bit" s_bit_by_bit
  plus_bits : Df K mg "plus_bits" s_plus_bits
  less_bit : Df K mg "less_bit" s_less_bit
  any_bit : Df K mg "any_bit" s_any_bit
  all_bit : Df K mg "all_bit" s_all_bit
  pick_bits : Df K mg "pick_bits" s_pick_bits
  told_by_one : Df K mg "told_by_one" s_told_by_one
  told_by_two : Df K mg "told_by_two" s_told_by_two
  operated : DfO K mg
  terms_in : Df K mg "terms_in" s_terms_in
  value_of_term : Df K mg "value_of_term" s_value_of_term
  _law_pot : Df K mg "_law_pot" s_L_pot
  _law_take : Df K mg "_law_take" s_L_take
  _law_words : Df K mg "_law_words" s_L_words
  _law_name : Df K mg "_law_name" s_L_name
  _law_names : Df K mg "_law_names" s_L_names
  _law_bits : Df K mg "_law_bits" s_L_bits
  _law_leaf : Df K mg "_law_leaf" s_L_leaf
  _law_bit_term : Df K mg "_law_bit_term" s_L_bit_term
  _law_term : Df K mg "_law_term" s_L_term
  _law_values : Df K mg "_law_values" s_L_values
  _law_turned : Df K mg "_law_turned" s_L_turned
  _law_both : Df K mg "_law_both" s_L_both
  _law_either : Df K mg "_law_either" s_L_either
  _law_unlike : Df K mg "_law_unlike" s_L_unlike
  _law_most : Df K mg "_law_most" s_L_most
  _law_along_bits : Df K mg "_law_along_bits" s_L_along_bits
  _law_over : Df K mg "_law_over" s_L_over
  _law_operated : Df K mg "_law_operated" s_L_operated
  _law_value : Df K mg "_law_value" s_L_value
  _law_great : Df K mg "_law_great" s_L_great
  bi : Bi mg
section
variable {P : Program} {w : World} {K : PySem.W.Frag} {mg : Str → Option Value} {base : Heap}
theorem val_ok (D : Dfs K mg) : Cl P w K mg base "value_of_term" 18 (spVal 12) := by
  have CN := ok_not (P := P) (w := w) (base := base) D.not_bit
  have CA := ok_and (P := P) (w := w) (base := base) D.and_bit
  have CO := ok_or D.or_bit CN CA
  have CX := ok_xor (P := P) (w := w) (base := base) D.xor_bit
  have CM := ok_most (P := P) (w := w) (base := base) D.most_bit
  have CMB := ok_mixed_bit (P := P) (w := w) (base := base) D.mixed_bit D.bi
  have CMX := ok_mixed D.mixed D.bi CMB
  have CB := ok_bbb (P := P) (w := w) (base := base) D.bit_by_bit D.bi
  have CP := ok_plus D.plus_bits D.bi CX CM
  have CE := ok_less D.less_bit D.bi CN CM
  have CY := ok_any D.any_bit CO
  have CL := ok_all D.all_bit CA
  have CK := ok_pick D.pick_bits CMX
  have C1 := ok_one D.told_by_one D.bi CN CY CL
  have C2 := ok_two D.told_by_two CP CN CY CB CE CA CO CX
  have CR := ok_read (P := P) (w := w) (base := base) D.read
  have COP := ok_op D.operated CR C1 CK C2
  have CT := ok_ti (P := P) (w := w) (base := base) D.terms_in
  exact ok_val D.value_of_term CR CT COP 12
theorem lval_ok (D : Dfs K mg) : Cl P w K mg base "_law_value" 17 (spVal 12) := by
  have CT := ok_turned (P := P) (w := w) (base := base) D._law_turned
  have CB := ok_both (P := P) (w := w) (base := base) D._law_both D.bi
  have CE := ok_either D._law_either CT CB
  have CU := ok_unlike (P := P) (w := w) (base := base) D._law_unlike D.bi
  have CM := ok_lmost (P := P) (w := w) (base := base) D._law_most
  have CA := ok_along D._law_along_bits D.bi CT CB CE CU CM
  have CV := ok_over D._law_over CB CE
  have CO := ok_loper D._law_operated D.bi CT CV CA
  exact ok_lval D._law_value D.bi CO 12
theorem law_ok {f : Addr} {fd : FuncData} (D : Dfs K mg) (F : Fun K "law" "law" s_law f fd) : FnOk P w K mg base CX0 19 f fd ["_law_script"] (spLaw K) := by
  have CT := ok_take (P := P) (w := w) (base := base) D._law_take D.bi
  have CP := ok_pot (P := P) (w := w) (base := base) D._law_pot D.bi
  have CW := ok_words (P := P) (w := w) (base := base) D._law_words
  have CN := ok_name D._law_name D.bi CT CW
  have CNS := ok_names D._law_names D.bi CN
  have CB := ok_bits D._law_bits D.bi CT
  have CL := ok_leaf D._law_leaf D.bi CT CB
  have CM := ok_tm D._law_term D._law_bit_term D.bi CT CL 5
  have CS := ok_values D._law_values D.bi CB
  have CG := ok_great D._law_great D.bi CT
  exact ok_law F D.bi CP CT CNS CM CG CS (val_ok D) (lval_ok D)
end
theorem df_mk {K : PySem.W.Frag} {h : Heap} {mg : Str → Option Value} {x : Str} {st : Stmt} {f : Addr} (X : K.In h) (G : h.Ns mainGlobals mg) {od an : Option Addr} {sl : Array (Option Value)} {oc kV dc pm cd ct : Value}
    (a : PySem.W.nsIn K mainGlobals x = some (some (.ref f))) (l : K.lookup f = some ⟨oc, od, .func (PySem.W.fnOf x x (defArgs st) (defBody st) (defScope st) .none kV dc pm an cd ct), sl⟩) (c : PySem.W.codeIn K cd x = true) (k : PySem.W.keepIn K (.ref f) = true) : Df K mg x st :=
  ⟨f, _, fun_mk (st := st) l c k, PySem.W.mg_of X G a⟩
theorem dfo_mk {K : PySem.W.Frag} {h : Heap} {mg : Str → Option Value} {f Dk : Addr} {t1 t2 : Tok} (X : K.In h) (G : h.Ns mainGlobals mg) {od an : Option Addr} {sl : Array (Option Value)} {oc dc pm cd ct : Value}
    (a : PySem.W.nsIn K mainGlobals "operated" = some (some (.ref f))) (l : K.lookup f = some ⟨oc, od, .func (PySem.W.fnOf "operated" "operated" (defArgs s_operated) (defBody s_operated) (defScope s_operated) .none (.ref Dk) dc pm an cd ct), sl⟩) (c : PySem.W.codeIn K cd "operated" = true) (k : PySem.W.keepIn K (.ref f) = true)
    (d1 : PySem.W.nsIn K Dk "high" = some (some (.int 0 t1))) (d2 : PySem.W.nsIn K Dk "low" = some (some (.int 0 t2))) : DfO K mg := by
  refine ⟨f, _, ⟨⟨oc, od, .none, .ref Dk, dc, pm, an, cd, ct, sl, rfl, l, c, .inl ⟨rfl, rfl⟩, .inr ⟨Dk, rfl, fun q hq => ?_⟩⟩, k⟩, PySem.W.mg_of X G a⟩
  rcases List.mem_cons.mp hq with e | e
  · subst e; exact ⟨_, d1, t1, rfl⟩
  · rw [List.mem_singleton.mp e]; exact ⟨_, d2, t2, rfl⟩
theorem walk {l : PySem.W.OpenLaw} {q : Program} {loose : List Str} {XP : (Str → Option Value) → Heap → Prop} {YP : World → Heap → Prop} {d : DefRec} {K : Params → PySem.W.Frag} (hn : l.most = some 63) (hdf : d.params.defaults = [])
    (hY : ∀ (w : World) (h : Heap), YP w h → (K w.params).In h)
    (F : ∀ (w : World) (mg : Str → Option Value) (fa : Addr) (h : Heap), (K w.params).In h → h.Ns mainGlobals mg → mg d.name = some (.ref fa) →
      ∃ fd : FuncData, (∀ (s : Shared) (u : Value), BindsTo s fd ⟨[u], []⟩ [("_law_script", u)]) ∧ ∀ base : Heap, (K w.params).In base → base.Ns mainGlobals mg → FnOk l.prog w (K w.params) mg base CX0 19 fa fd ["_law_script"] (spLaw (K w.params))) :
    PySem.W.WalkO q loose XP YP l.row.toRowW d [] (fun f vs => PySem.call f vs) :=
  L2.walk_of (n := 63) (k := 19) (x := "_law_script") (CX := fun _ => CX0) (sp := fun w => spLaw (K w.params)) hn (by decide) hdf ⟨rfl, by decide, by decide⟩ hY F (fun _ _ a ns hl _ hS => ⟨a, ns, rfl, hS, hl, fun _ => rfl⟩) fun _ _ _ _ _ z => z
theorem all_mk {l : PySem.W.OpenLaw} {w : World} {K : PySem.W.Frag} {h : Heap} {mg : Str → Option Value} {fa fL Dk : Addr} {t0 t1 t2 : Tok} (X : K.In h) (G : h.Ns mainGlobals mg) (hfa : mg "law" = some (.ref fa))
    {f0 f1 f2 f3 f4 f5 f6 f7 f8 f9 f10 f11 f12 f13 f14 f15 f16 f17 f18 f19 f20 f21 f22 f23 f24 f25 f26 f27 f28 f29 f30 f31 f32 f33 f34 f35 f36 f37 f38 : Addr}
    {od0 an0 od1 an1 od2 an2 od3 an3 od4 an4 od5 an5 od6 an6 od7 an7 od8 an8 od9 an9 od10 an10 od11 an11 od12 an12 od13 an13 od14 an14 od15 an15 od16 an16 od17 an17 od18 an18 od19 an19 od20 an20 od21 an21 od22 an22 od23 an23 od24 an24 od25 an25 od26 an26 od27 an27 od28 an28 od29 an29 od30 an30 od31 an31 od32 an32 od33 an33 od34 an34 od35 an35 od36 an36 od37 an37 od38 an38 odL anL : Option Addr}
    {sl0 sl1 sl2 sl3 sl4 sl5 sl6 sl7 sl8 sl9 sl10 sl11 sl12 sl13 sl14 sl15 sl16 sl17 sl18 sl19 sl20 sl21 sl22 sl23 sl24 sl25 sl26 sl27 sl28 sl29 sl30 sl31 sl32 sl33 sl34 sl35 sl36 sl37 sl38 slL : Array (Option Value)}
    {oc0 kV0 dc0 pm0 cd0 ct0 oc1 kV1 dc1 pm1 cd1 ct1 oc2 kV2 dc2 pm2 cd2 ct2 oc3 kV3 dc3 pm3 cd3 ct3 oc4 kV4 dc4 pm4 cd4 ct4 oc5 kV5 dc5 pm5 cd5 ct5 oc6 kV6 dc6 pm6 cd6 ct6 oc7 kV7 dc7 pm7 cd7 ct7 oc8 kV8 dc8 pm8 cd8 ct8 oc9 kV9 dc9 pm9 cd9 ct9 oc10 kV10 dc10 pm10 cd10 ct10 oc11 kV11 dc11 pm11 cd11 ct11 oc12 kV12 dc12 pm12 cd12 ct12 oc13 kV13 dc13 pm13 cd13 ct13 oc14 kV14 dc14 pm14 cd14 ct14 oc15 kV15 dc15 pm15 cd15 ct15 oc16 dc16 pm16 cd16 ct16 oc17 kV17 dc17 pm17 cd17 ct17 oc18 kV18 dc18 pm18 cd18 ct18 oc19 kV19 dc19 pm19 cd19 ct19 oc20 kV20 dc20 pm20 cd20 ct20 oc21 kV21 dc21 pm21 cd21 ct21 oc22 kV22 dc22 pm22 cd22 ct22 oc23 kV23 dc23 pm23 cd23 ct23 oc24 kV24 dc24 pm24 cd24 ct24 oc25 kV25 dc25 pm25 cd25 ct25 oc26 kV26 dc26 pm26 cd26 ct26 oc27 kV27 dc27 pm27 cd27 ct27 oc28 kV28 dc28 pm28 cd28 ct28 oc29 kV29 dc29 pm29 cd29 ct29 oc30 kV30 dc30 pm30 cd30 ct30 oc31 kV31 dc31 pm31 cd31 ct31 oc32 kV32 dc32 pm32 cd32 ct32 oc33 kV33 dc33 pm33 cd33 ct33 oc34 kV34 dc34 pm34 cd34 ct34 oc35 kV35 dc35 pm35 cd35 ct35 oc36 kV36 dc36 pm36 cd36 ct36 oc37 kV37 dc37 pm37 cd37 ct37 oc38 kV38 dc38 pm38 cd38 ct38 ocL kVL dcL pmL cdL ctL : Value}
    (a0 : PySem.W.nsIn K mainGlobals "read" = some (some (.ref f0))) (l0 : K.lookup f0 = some ⟨oc0, od0, .func (PySem.W.fnOf "read" "read" (defArgs s_read) (defBody s_read) (defScope s_read) .none kV0 dc0 pm0 an0 cd0 ct0), sl0⟩) (c0 : PySem.W.codeIn K cd0 "read" = true) (k0 : PySem.W.keepIn K (.ref f0) = true)
    (a1 : PySem.W.nsIn K mainGlobals "mixed_bit" = some (some (.ref f1))) (l1 : K.lookup f1 = some ⟨oc1, od1, .func (PySem.W.fnOf "mixed_bit" "mixed_bit" (defArgs s_mixed_bit) (defBody s_mixed_bit) (defScope s_mixed_bit) .none kV1 dc1 pm1 an1 cd1 ct1), sl1⟩) (c1 : PySem.W.codeIn K cd1 "mixed_bit" = true) (k1 : PySem.W.keepIn K (.ref f1) = true)
    (a2 : PySem.W.nsIn K mainGlobals "mixed" = some (some (.ref f2))) (l2 : K.lookup f2 = some ⟨oc2, od2, .func (PySem.W.fnOf "mixed" "mixed" (defArgs s_mixed) (defBody s_mixed) (defScope s_mixed) .none kV2 dc2 pm2 an2 cd2 ct2), sl2⟩) (c2 : PySem.W.codeIn K cd2 "mixed" = true) (k2 : PySem.W.keepIn K (.ref f2) = true)
    (a3 : PySem.W.nsIn K mainGlobals "not_bit" = some (some (.ref f3))) (l3 : K.lookup f3 = some ⟨oc3, od3, .func (PySem.W.fnOf "not_bit" "not_bit" (defArgs s_not_bit) (defBody s_not_bit) (defScope s_not_bit) .none kV3 dc3 pm3 an3 cd3 ct3), sl3⟩) (c3 : PySem.W.codeIn K cd3 "not_bit" = true) (k3 : PySem.W.keepIn K (.ref f3) = true)
    (a4 : PySem.W.nsIn K mainGlobals "and_bit" = some (some (.ref f4))) (l4 : K.lookup f4 = some ⟨oc4, od4, .func (PySem.W.fnOf "and_bit" "and_bit" (defArgs s_and_bit) (defBody s_and_bit) (defScope s_and_bit) .none kV4 dc4 pm4 an4 cd4 ct4), sl4⟩) (c4 : PySem.W.codeIn K cd4 "and_bit" = true) (k4 : PySem.W.keepIn K (.ref f4) = true)
    (a5 : PySem.W.nsIn K mainGlobals "or_bit" = some (some (.ref f5))) (l5 : K.lookup f5 = some ⟨oc5, od5, .func (PySem.W.fnOf "or_bit" "or_bit" (defArgs s_or_bit) (defBody s_or_bit) (defScope s_or_bit) .none kV5 dc5 pm5 an5 cd5 ct5), sl5⟩) (c5 : PySem.W.codeIn K cd5 "or_bit" = true) (k5 : PySem.W.keepIn K (.ref f5) = true)
    (a6 : PySem.W.nsIn K mainGlobals "xor_bit" = some (some (.ref f6))) (l6 : K.lookup f6 = some ⟨oc6, od6, .func (PySem.W.fnOf "xor_bit" "xor_bit" (defArgs s_xor_bit) (defBody s_xor_bit) (defScope s_xor_bit) .none kV6 dc6 pm6 an6 cd6 ct6), sl6⟩) (c6 : PySem.W.codeIn K cd6 "xor_bit" = true) (k6 : PySem.W.keepIn K (.ref f6) = true)
    (a7 : PySem.W.nsIn K mainGlobals "most_bit" = some (some (.ref f7))) (l7 : K.lookup f7 = some ⟨oc7, od7, .func (PySem.W.fnOf "most_bit" "most_bit" (defArgs s_most_bit) (defBody s_most_bit) (defScope s_most_bit) .none kV7 dc7 pm7 an7 cd7 ct7), sl7⟩) (c7 : PySem.W.codeIn K cd7 "most_bit" = true) (k7 : PySem.W.keepIn K (.ref f7) = true)
    (a8 : PySem.W.nsIn K mainGlobals "bit_by_bit" = some (some (.ref f8))) (l8 : K.lookup f8 = some ⟨oc8, od8, .func (PySem.W.fnOf "bit_by_bit" "bit_by_bit" (defArgs s_bit_by_bit) (defBody s_bit_by_bit) (defScope s_bit_by_bit) .none kV8 dc8 pm8 an8 cd8 ct8), sl8⟩) (c8 : PySem.W.codeIn K cd8 "bit_by_bit" = true) (k8 : PySem.W.keepIn K (.ref f8) = true)
    (a9 : PySem.W.nsIn K mainGlobals "plus_bits" = some (some (.ref f9))) (l9 : K.lookup f9 = some ⟨oc9, od9, .func (PySem.W.fnOf "plus_bits" "plus_bits" (defArgs s_plus_bits) (defBody s_plus_bits) (defScope s_plus_bits) .none kV9 dc9 pm9 an9 cd9 ct9), sl9⟩) (c9 : PySem.W.codeIn K cd9 "plus_bits" = true) (k9 : PySem.W.keepIn K (.ref f9) = true)
    (a10 : PySem.W.nsIn K mainGlobals "less_bit" = some (some (.ref f10))) (l10 : K.lookup f10 = some ⟨oc10, od10, .func (PySem.W.fnOf "less_bit" "less_bit" (defArgs s_less_bit) (defBody s_less_bit) (defScope s_less_bit) .none kV10 dc10 pm10 an10 cd10 ct10), sl10⟩) (c10 : PySem.W.codeIn K cd10 "less_bit" = true) (k10 : PySem.W.keepIn K (.ref f10) = true)
    (a11 : PySem.W.nsIn K mainGlobals "any_bit" = some (some (.ref f11))) (l11 : K.lookup f11 = some ⟨oc11, od11, .func (PySem.W.fnOf "any_bit" "any_bit" (defArgs s_any_bit) (defBody s_any_bit) (defScope s_any_bit) .none kV11 dc11 pm11 an11 cd11 ct11), sl11⟩) (c11 : PySem.W.codeIn K cd11 "any_bit" = true) (k11 : PySem.W.keepIn K (.ref f11) = true)
    (a12 : PySem.W.nsIn K mainGlobals "all_bit" = some (some (.ref f12))) (l12 : K.lookup f12 = some ⟨oc12, od12, .func (PySem.W.fnOf "all_bit" "all_bit" (defArgs s_all_bit) (defBody s_all_bit) (defScope s_all_bit) .none kV12 dc12 pm12 an12 cd12 ct12), sl12⟩) (c12 : PySem.W.codeIn K cd12 "all_bit" = true) (k12 : PySem.W.keepIn K (.ref f12) = true)
    (a13 : PySem.W.nsIn K mainGlobals "pick_bits" = some (some (.ref f13))) (l13 : K.lookup f13 = some ⟨oc13, od13, .func (PySem.W.fnOf "pick_bits" "pick_bits" (defArgs s_pick_bits) (defBody s_pick_bits) (defScope s_pick_bits) .none kV13 dc13 pm13 an13 cd13 ct13), sl13⟩) (c13 : PySem.W.codeIn K cd13 "pick_bits" = true) (k13 : PySem.W.keepIn K (.ref f13) = true)
    (a14 : PySem.W.nsIn K mainGlobals "told_by_one" = some (some (.ref f14))) (l14 : K.lookup f14 = some ⟨oc14, od14, .func (PySem.W.fnOf "told_by_one" "told_by_one" (defArgs s_told_by_one) (defBody s_told_by_one) (defScope s_told_by_one) .none kV14 dc14 pm14 an14 cd14 ct14), sl14⟩) (c14 : PySem.W.codeIn K cd14 "told_by_one" = true) (k14 : PySem.W.keepIn K (.ref f14) = true)
    (a15 : PySem.W.nsIn K mainGlobals "told_by_two" = some (some (.ref f15))) (l15 : K.lookup f15 = some ⟨oc15, od15, .func (PySem.W.fnOf "told_by_two" "told_by_two" (defArgs s_told_by_two) (defBody s_told_by_two) (defScope s_told_by_two) .none kV15 dc15 pm15 an15 cd15 ct15), sl15⟩) (c15 : PySem.W.codeIn K cd15 "told_by_two" = true) (k15 : PySem.W.keepIn K (.ref f15) = true)
    (a16 : PySem.W.nsIn K mainGlobals "operated" = some (some (.ref f16))) (l16 : K.lookup f16 = some ⟨oc16, od16, .func (PySem.W.fnOf "operated" "operated" (defArgs s_operated) (defBody s_operated) (defScope s_operated) .none (.ref Dk) dc16 pm16 an16 cd16 ct16), sl16⟩) (c16 : PySem.W.codeIn K cd16 "operated" = true) (k16 : PySem.W.keepIn K (.ref f16) = true)
    (a17 : PySem.W.nsIn K mainGlobals "terms_in" = some (some (.ref f17))) (l17 : K.lookup f17 = some ⟨oc17, od17, .func (PySem.W.fnOf "terms_in" "terms_in" (defArgs s_terms_in) (defBody s_terms_in) (defScope s_terms_in) .none kV17 dc17 pm17 an17 cd17 ct17), sl17⟩) (c17 : PySem.W.codeIn K cd17 "terms_in" = true) (k17 : PySem.W.keepIn K (.ref f17) = true)
    (a18 : PySem.W.nsIn K mainGlobals "value_of_term" = some (some (.ref f18))) (l18 : K.lookup f18 = some ⟨oc18, od18, .func (PySem.W.fnOf "value_of_term" "value_of_term" (defArgs s_value_of_term) (defBody s_value_of_term) (defScope s_value_of_term) .none kV18 dc18 pm18 an18 cd18 ct18), sl18⟩) (c18 : PySem.W.codeIn K cd18 "value_of_term" = true) (k18 : PySem.W.keepIn K (.ref f18) = true)
    (a19 : PySem.W.nsIn K mainGlobals "_law_pot" = some (some (.ref f19))) (l19 : K.lookup f19 = some ⟨oc19, od19, .func (PySem.W.fnOf "_law_pot" "_law_pot" (defArgs s_L_pot) (defBody s_L_pot) (defScope s_L_pot) .none kV19 dc19 pm19 an19 cd19 ct19), sl19⟩) (c19 : PySem.W.codeIn K cd19 "_law_pot" = true) (k19 : PySem.W.keepIn K (.ref f19) = true)
    (a20 : PySem.W.nsIn K mainGlobals "_law_take" = some (some (.ref f20))) (l20 : K.lookup f20 = some ⟨oc20, od20, .func (PySem.W.fnOf "_law_take" "_law_take" (defArgs s_L_take) (defBody s_L_take) (defScope s_L_take) .none kV20 dc20 pm20 an20 cd20 ct20), sl20⟩) (c20 : PySem.W.codeIn K cd20 "_law_take" = true) (k20 : PySem.W.keepIn K (.ref f20) = true)
    (a21 : PySem.W.nsIn K mainGlobals "_law_words" = some (some (.ref f21))) (l21 : K.lookup f21 = some ⟨oc21, od21, .func (PySem.W.fnOf "_law_words" "_law_words" (defArgs s_L_words) (defBody s_L_words) (defScope s_L_words) .none kV21 dc21 pm21 an21 cd21 ct21), sl21⟩) (c21 : PySem.W.codeIn K cd21 "_law_words" = true) (k21 : PySem.W.keepIn K (.ref f21) = true)
    (a22 : PySem.W.nsIn K mainGlobals "_law_name" = some (some (.ref f22))) (l22 : K.lookup f22 = some ⟨oc22, od22, .func (PySem.W.fnOf "_law_name" "_law_name" (defArgs s_L_name) (defBody s_L_name) (defScope s_L_name) .none kV22 dc22 pm22 an22 cd22 ct22), sl22⟩) (c22 : PySem.W.codeIn K cd22 "_law_name" = true) (k22 : PySem.W.keepIn K (.ref f22) = true)
    (a23 : PySem.W.nsIn K mainGlobals "_law_names" = some (some (.ref f23))) (l23 : K.lookup f23 = some ⟨oc23, od23, .func (PySem.W.fnOf "_law_names" "_law_names" (defArgs s_L_names) (defBody s_L_names) (defScope s_L_names) .none kV23 dc23 pm23 an23 cd23 ct23), sl23⟩) (c23 : PySem.W.codeIn K cd23 "_law_names" = true) (k23 : PySem.W.keepIn K (.ref f23) = true)
    (a24 : PySem.W.nsIn K mainGlobals "_law_bits" = some (some (.ref f24))) (l24 : K.lookup f24 = some ⟨oc24, od24, .func (PySem.W.fnOf "_law_bits" "_law_bits" (defArgs s_L_bits) (defBody s_L_bits) (defScope s_L_bits) .none kV24 dc24 pm24 an24 cd24 ct24), sl24⟩) (c24 : PySem.W.codeIn K cd24 "_law_bits" = true) (k24 : PySem.W.keepIn K (.ref f24) = true)
    (a25 : PySem.W.nsIn K mainGlobals "_law_leaf" = some (some (.ref f25))) (l25 : K.lookup f25 = some ⟨oc25, od25, .func (PySem.W.fnOf "_law_leaf" "_law_leaf" (defArgs s_L_leaf) (defBody s_L_leaf) (defScope s_L_leaf) .none kV25 dc25 pm25 an25 cd25 ct25), sl25⟩) (c25 : PySem.W.codeIn K cd25 "_law_leaf" = true) (k25 : PySem.W.keepIn K (.ref f25) = true)
    (a26 : PySem.W.nsIn K mainGlobals "_law_bit_term" = some (some (.ref f26))) (l26 : K.lookup f26 = some ⟨oc26, od26, .func (PySem.W.fnOf "_law_bit_term" "_law_bit_term" (defArgs s_L_bit_term) (defBody s_L_bit_term) (defScope s_L_bit_term) .none kV26 dc26 pm26 an26 cd26 ct26), sl26⟩) (c26 : PySem.W.codeIn K cd26 "_law_bit_term" = true) (k26 : PySem.W.keepIn K (.ref f26) = true)
    (a27 : PySem.W.nsIn K mainGlobals "_law_term" = some (some (.ref f27))) (l27 : K.lookup f27 = some ⟨oc27, od27, .func (PySem.W.fnOf "_law_term" "_law_term" (defArgs s_L_term) (defBody s_L_term) (defScope s_L_term) .none kV27 dc27 pm27 an27 cd27 ct27), sl27⟩) (c27 : PySem.W.codeIn K cd27 "_law_term" = true) (k27 : PySem.W.keepIn K (.ref f27) = true)
    (a28 : PySem.W.nsIn K mainGlobals "_law_values" = some (some (.ref f28))) (l28 : K.lookup f28 = some ⟨oc28, od28, .func (PySem.W.fnOf "_law_values" "_law_values" (defArgs s_L_values) (defBody s_L_values) (defScope s_L_values) .none kV28 dc28 pm28 an28 cd28 ct28), sl28⟩) (c28 : PySem.W.codeIn K cd28 "_law_values" = true) (k28 : PySem.W.keepIn K (.ref f28) = true)
    (a29 : PySem.W.nsIn K mainGlobals "_law_turned" = some (some (.ref f29))) (l29 : K.lookup f29 = some ⟨oc29, od29, .func (PySem.W.fnOf "_law_turned" "_law_turned" (defArgs s_L_turned) (defBody s_L_turned) (defScope s_L_turned) .none kV29 dc29 pm29 an29 cd29 ct29), sl29⟩) (c29 : PySem.W.codeIn K cd29 "_law_turned" = true) (k29 : PySem.W.keepIn K (.ref f29) = true)
    (a30 : PySem.W.nsIn K mainGlobals "_law_both" = some (some (.ref f30))) (l30 : K.lookup f30 = some ⟨oc30, od30, .func (PySem.W.fnOf "_law_both" "_law_both" (defArgs s_L_both) (defBody s_L_both) (defScope s_L_both) .none kV30 dc30 pm30 an30 cd30 ct30), sl30⟩) (c30 : PySem.W.codeIn K cd30 "_law_both" = true) (k30 : PySem.W.keepIn K (.ref f30) = true)
    (a31 : PySem.W.nsIn K mainGlobals "_law_either" = some (some (.ref f31))) (l31 : K.lookup f31 = some ⟨oc31, od31, .func (PySem.W.fnOf "_law_either" "_law_either" (defArgs s_L_either) (defBody s_L_either) (defScope s_L_either) .none kV31 dc31 pm31 an31 cd31 ct31), sl31⟩) (c31 : PySem.W.codeIn K cd31 "_law_either" = true) (k31 : PySem.W.keepIn K (.ref f31) = true)
    (a32 : PySem.W.nsIn K mainGlobals "_law_unlike" = some (some (.ref f32))) (l32 : K.lookup f32 = some ⟨oc32, od32, .func (PySem.W.fnOf "_law_unlike" "_law_unlike" (defArgs s_L_unlike) (defBody s_L_unlike) (defScope s_L_unlike) .none kV32 dc32 pm32 an32 cd32 ct32), sl32⟩) (c32 : PySem.W.codeIn K cd32 "_law_unlike" = true) (k32 : PySem.W.keepIn K (.ref f32) = true)
    (a33 : PySem.W.nsIn K mainGlobals "_law_most" = some (some (.ref f33))) (l33 : K.lookup f33 = some ⟨oc33, od33, .func (PySem.W.fnOf "_law_most" "_law_most" (defArgs s_L_most) (defBody s_L_most) (defScope s_L_most) .none kV33 dc33 pm33 an33 cd33 ct33), sl33⟩) (c33 : PySem.W.codeIn K cd33 "_law_most" = true) (k33 : PySem.W.keepIn K (.ref f33) = true)
    (a34 : PySem.W.nsIn K mainGlobals "_law_along_bits" = some (some (.ref f34))) (l34 : K.lookup f34 = some ⟨oc34, od34, .func (PySem.W.fnOf "_law_along_bits" "_law_along_bits" (defArgs s_L_along_bits) (defBody s_L_along_bits) (defScope s_L_along_bits) .none kV34 dc34 pm34 an34 cd34 ct34), sl34⟩) (c34 : PySem.W.codeIn K cd34 "_law_along_bits" = true) (k34 : PySem.W.keepIn K (.ref f34) = true)
    (a35 : PySem.W.nsIn K mainGlobals "_law_over" = some (some (.ref f35))) (l35 : K.lookup f35 = some ⟨oc35, od35, .func (PySem.W.fnOf "_law_over" "_law_over" (defArgs s_L_over) (defBody s_L_over) (defScope s_L_over) .none kV35 dc35 pm35 an35 cd35 ct35), sl35⟩) (c35 : PySem.W.codeIn K cd35 "_law_over" = true) (k35 : PySem.W.keepIn K (.ref f35) = true)
    (a36 : PySem.W.nsIn K mainGlobals "_law_operated" = some (some (.ref f36))) (l36 : K.lookup f36 = some ⟨oc36, od36, .func (PySem.W.fnOf "_law_operated" "_law_operated" (defArgs s_L_operated) (defBody s_L_operated) (defScope s_L_operated) .none kV36 dc36 pm36 an36 cd36 ct36), sl36⟩) (c36 : PySem.W.codeIn K cd36 "_law_operated" = true) (k36 : PySem.W.keepIn K (.ref f36) = true)
    (a37 : PySem.W.nsIn K mainGlobals "_law_value" = some (some (.ref f37))) (l37 : K.lookup f37 = some ⟨oc37, od37, .func (PySem.W.fnOf "_law_value" "_law_value" (defArgs s_L_value) (defBody s_L_value) (defScope s_L_value) .none kV37 dc37 pm37 an37 cd37 ct37), sl37⟩) (c37 : PySem.W.codeIn K cd37 "_law_value" = true) (k37 : PySem.W.keepIn K (.ref f37) = true)
    (a38 : PySem.W.nsIn K mainGlobals "_law_great" = some (some (.ref f38))) (l38 : K.lookup f38 = some ⟨oc38, od38, .func (PySem.W.fnOf "_law_great" "_law_great" (defArgs s_L_great) (defBody s_L_great) (defScope s_L_great) .none kV38 dc38 pm38 an38 cd38 ct38), sl38⟩) (c38 : PySem.W.codeIn K cd38 "_law_great" = true) (k38 : PySem.W.keepIn K (.ref f38) = true)
    (aL : PySem.W.nsIn K mainGlobals "law" = some (some (.ref fL))) (lL : K.lookup fL = some ⟨ocL, odL, .func (PySem.W.fnOf "law" "law" (defArgs s_law) (defBody s_law) (defScope s_law) .none kVL dcL pmL anL cdL ctL), slL⟩) (cL : PySem.W.codeIn K cdL "law" = true) (kL : PySem.W.keepIn K (.ref fL) = true)
    (z_len : PySem.W.nsIn K mainGlobals "len" = some none)
    (z_zip : PySem.W.nsIn K mainGlobals "zip" = some none)
    (z_range : PySem.W.nsIn K mainGlobals "range" = some none)
    (z_dict : PySem.W.nsIn K mainGlobals "dict" = some none)
    (z_list : PySem.W.nsIn K mainGlobals "list" = some none)
    (z_max : PySem.W.nsIn K mainGlobals "max" = some none)
    (z_min : PySem.W.nsIn K mainGlobals "min" = some none)
    (z_int : PySem.W.nsIn K mainGlobals "int" = some none)
    (z_str : PySem.W.nsIn K mainGlobals "str" = some none)
    (z_divmod : PySem.W.nsIn K mainGlobals "divmod" = some none)
    (z_isinstance : PySem.W.nsIn K mainGlobals "isinstance" = some none)
    (z_tuple : PySem.W.nsIn K mainGlobals "tuple" = some none)
    (told : PySem.W.nsIn K mainGlobals "TOLD" = some (some (.str "01" t0)))
    (d1 : PySem.W.nsIn K Dk "high" = some (some (.int 0 t1))) (d2 : PySem.W.nsIn K Dk "low" = some (some (.int 0 t2))) :
    ∃ fd : FuncData, (∀ (s : Shared) (v : Value), BindsTo s fd ⟨[v], []⟩ [("_law_script", v)]) ∧ ∀ base : Heap, K.In base → base.Ns mainGlobals mg → FnOk l.prog w K mg base CX0 19 fa fd ["_law_script"] (spLaw K) := by
  have e := hfa.symm.trans (PySem.W.mg_of X G aL)
  cases e
  have F := fun_mk (st := s_law) lL cL kL
  have B : Bi mg := ⟨PySem.W.mg_none_of X G z_len, PySem.W.mg_none_of X G z_zip, PySem.W.mg_none_of X G z_range, PySem.W.mg_none_of X G z_dict, PySem.W.mg_none_of X G z_list, PySem.W.mg_none_of X G z_max, PySem.W.mg_none_of X G z_min, PySem.W.mg_none_of X G z_int, PySem.W.mg_none_of X G z_str, PySem.W.mg_none_of X G z_divmod, PySem.W.mg_none_of X G z_isinstance, PySem.W.mg_none_of X G z_tuple, t0, PySem.W.mg_of X G told⟩
  have D : Dfs K mg := {
    read := df_mk X G a0 l0 c0 k0
    mixed_bit := df_mk X G a1 l1 c1 k1
    mixed := df_mk X G a2 l2 c2 k2
    not_bit := df_mk X G a3 l3 c3 k3
    and_bit := df_mk X G a4 l4 c4 k4
    or_bit := df_mk X G a5 l5 c5 k5
    xor_bit := df_mk X G a6 l6 c6 k6
    most_bit := df_mk X G a7 l7 c7 k7
    bit_by_bit := df_mk X G a8 l8 c8 k8
    plus_bits := df_mk X G a9 l9 c9 k9
    less_bit := df_mk X G a10 l10 c10 k10
    any_bit := df_mk X G a11 l11 c11 k11
    all_bit := df_mk X G a12 l12 c12 k12
    pick_bits := df_mk X G a13 l13 c13 k13
    told_by_one := df_mk X G a14 l14 c14 k14
    told_by_two := df_mk X G a15 l15 c15 k15
    operated := dfo_mk X G a16 l16 c16 k16 d1 d2
    terms_in := df_mk X G a17 l17 c17 k17
    value_of_term := df_mk X G a18 l18 c18 k18
    _law_pot := df_mk X G a19 l19 c19 k19
    _law_take := df_mk X G a20 l20 c20 k20
    _law_words := df_mk X G a21 l21 c21 k21
    _law_name := df_mk X G a22 l22 c22 k22
    _law_names := df_mk X G a23 l23 c23 k23
    _law_bits := df_mk X G a24 l24 c24 k24
    _law_leaf := df_mk X G a25 l25 c25 k25
    _law_bit_term := df_mk X G a26 l26 c26 k26
    _law_term := df_mk X G a27 l27 c27 k27
    _law_values := df_mk X G a28 l28 c28 k28
    _law_turned := df_mk X G a29 l29 c29 k29
    _law_both := df_mk X G a30 l30 c30 k30
    _law_either := df_mk X G a31 l31 c31 k31
    _law_unlike := df_mk X G a32 l32 c32 k32
    _law_most := df_mk X G a33 l33 c33 k33
    _law_along_bits := df_mk X G a34 l34 c34 k34
    _law_over := df_mk X G a35 l35 c35 k35
    _law_operated := df_mk X G a36 l36 c36 k36
    _law_value := df_mk X G a37 l37 c37 k37
    _law_great := df_mk X G a38 l38 c38 k38
    bi := B }
  exact ⟨PySem.W.fnOf "law" "law" (defArgs s_law) (defBody s_law) (defScope s_law) .none kVL dcL pmL anL cdL ctL, fun s v => .of_eq rfl, fun base _ _ => law_ok D F⟩
end K24
open PySem PySem.W PyProof.Rows
set_option maxRecDepth 100000 in
set_option maxHeartbeats 0 in
theorem PySem.Challenge.cw_deltawires_k24_whole_values_of_terms_holds : PySem.Challenge.rw_deltawires_k24_whole_values_of_terms.Holds := by
  w_on; o_law; k_head; (case hw => w_witness2)
  k_fill
  refine K24.walk (l := PySem.Challenge.rw_deltawires_k24_whole_values_of_terms) rfl rfl (fun w h Y => PySem.W.kIn_of Y) ?F
  case F =>
    intro w mg fa h KX G hmg
    refine' K24.all_mk KX G hmg ?a0 ?l0 ?c0 ?k0 ?a1 ?l1 ?c1 ?k1 ?a2 ?l2 ?c2 ?k2 ?a3 ?l3 ?c3 ?k3 ?a4 ?l4 ?c4 ?k4 ?a5 ?l5 ?c5 ?k5 ?a6 ?l6 ?c6 ?k6 ?a7 ?l7 ?c7 ?k7 ?a8 ?l8 ?c8 ?k8 ?a9 ?l9 ?c9 ?k9 ?a10 ?l10 ?c10 ?k10 ?a11 ?l11 ?c11 ?k11 ?a12 ?l12 ?c12 ?k12 ?a13 ?l13 ?c13 ?k13 ?a14 ?l14 ?c14 ?k14 ?a15 ?l15 ?c15 ?k15 ?a16 ?l16 ?c16 ?k16 ?a17 ?l17 ?c17 ?k17 ?a18 ?l18 ?c18 ?k18 ?a19 ?l19 ?c19 ?k19 ?a20 ?l20 ?c20 ?k20 ?a21 ?l21 ?c21 ?k21 ?a22 ?l22 ?c22 ?k22 ?a23 ?l23 ?c23 ?k23 ?a24 ?l24 ?c24 ?k24 ?a25 ?l25 ?c25 ?k25 ?a26 ?l26 ?c26 ?k26 ?a27 ?l27 ?c27 ?k27 ?a28 ?l28 ?c28 ?k28 ?a29 ?l29 ?c29 ?k29 ?a30 ?l30 ?c30 ?k30 ?a31 ?l31 ?c31 ?k31 ?a32 ?l32 ?c32 ?k32 ?a33 ?l33 ?c33 ?k33 ?a34 ?l34 ?c34 ?k34 ?a35 ?l35 ?c35 ?k35 ?a36 ?l36 ?c36 ?k36 ?a37 ?l37 ?c37 ?k37 ?a38 ?l38 ?c38 ?k38 ?aL ?lL ?cL ?kL ?z_len ?z_zip ?z_range ?z_dict ?z_list ?z_max ?z_min ?z_int ?z_str ?z_divmod ?z_isinstance ?z_tuple ?told ?d1 ?d2
    (case a0 => k_is)
    (case l0 => k_is)
    (case c0 => k_is)
    (case k0 => k_is)
    (case a1 => k_is)
    (case l1 => k_is)
    (case c1 => k_is)
    (case k1 => k_is)
    (case a2 => k_is)
    (case l2 => k_is)
    (case c2 => k_is)
    (case k2 => k_is)
    (case a3 => k_is)
    (case l3 => k_is)
    (case c3 => k_is)
    (case k3 => k_is)
    (case a4 => k_is)
    (case l4 => k_is)
    (case c4 => k_is)
    (case k4 => k_is)
    (case a5 => k_is)
    (case l5 => k_is)
    (case c5 => k_is)
    (case k5 => k_is)
    (case a6 => k_is)
    (case l6 => k_is)
    (case c6 => k_is)
    (case k6 => k_is)
    (case a7 => k_is)
    (case l7 => k_is)
    (case c7 => k_is)
    (case k7 => k_is)
    (case a8 => k_is)
    (case l8 => k_is)
    (case c8 => k_is)
    (case k8 => k_is)
    (case a9 => k_is)
    (case l9 => k_is)
    (case c9 => k_is)
    (case k9 => k_is)
    (case a10 => k_is)
    (case l10 => k_is)
    (case c10 => k_is)
    (case k10 => k_is)
    (case a11 => k_is)
    (case l11 => k_is)
    (case c11 => k_is)
    (case k11 => k_is)
    (case a12 => k_is)
    (case l12 => k_is)
    (case c12 => k_is)
    (case k12 => k_is)
    (case a13 => k_is)
    (case l13 => k_is)
    (case c13 => k_is)
    (case k13 => k_is)
    (case a14 => k_is)
    (case l14 => k_is)
    (case c14 => k_is)
    (case k14 => k_is)
    (case a15 => k_is)
    (case l15 => k_is)
    (case c15 => k_is)
    (case k15 => k_is)
    (case a16 => k_is)
    (case l16 => k_is)
    (case c16 => k_is)
    (case k16 => k_is)
    (case a17 => k_is)
    (case l17 => k_is)
    (case c17 => k_is)
    (case k17 => k_is)
    (case a18 => k_is)
    (case l18 => k_is)
    (case c18 => k_is)
    (case k18 => k_is)
    (case a19 => k_is)
    (case l19 => k_is)
    (case c19 => k_is)
    (case k19 => k_is)
    (case a20 => k_is)
    (case l20 => k_is)
    (case c20 => k_is)
    (case k20 => k_is)
    (case a21 => k_is)
    (case l21 => k_is)
    (case c21 => k_is)
    (case k21 => k_is)
    (case a22 => k_is)
    (case l22 => k_is)
    (case c22 => k_is)
    (case k22 => k_is)
    (case a23 => k_is)
    (case l23 => k_is)
    (case c23 => k_is)
    (case k23 => k_is)
    (case a24 => k_is)
    (case l24 => k_is)
    (case c24 => k_is)
    (case k24 => k_is)
    (case a25 => k_is)
    (case l25 => k_is)
    (case c25 => k_is)
    (case k25 => k_is)
    (case a26 => k_is)
    (case l26 => k_is)
    (case c26 => k_is)
    (case k26 => k_is)
    (case a27 => k_is)
    (case l27 => k_is)
    (case c27 => k_is)
    (case k27 => k_is)
    (case a28 => k_is)
    (case l28 => k_is)
    (case c28 => k_is)
    (case k28 => k_is)
    (case a29 => k_is)
    (case l29 => k_is)
    (case c29 => k_is)
    (case k29 => k_is)
    (case a30 => k_is)
    (case l30 => k_is)
    (case c30 => k_is)
    (case k30 => k_is)
    (case a31 => k_is)
    (case l31 => k_is)
    (case c31 => k_is)
    (case k31 => k_is)
    (case a32 => k_is)
    (case l32 => k_is)
    (case c32 => k_is)
    (case k32 => k_is)
    (case a33 => k_is)
    (case l33 => k_is)
    (case c33 => k_is)
    (case k33 => k_is)
    (case a34 => k_is)
    (case l34 => k_is)
    (case c34 => k_is)
    (case k34 => k_is)
    (case a35 => k_is)
    (case l35 => k_is)
    (case c35 => k_is)
    (case k35 => k_is)
    (case a36 => k_is)
    (case l36 => k_is)
    (case c36 => k_is)
    (case k36 => k_is)
    (case a37 => k_is)
    (case l37 => k_is)
    (case c37 => k_is)
    (case k37 => k_is)
    (case a38 => k_is)
    (case l38 => k_is)
    (case c38 => k_is)
    (case k38 => k_is)
    (case aL => k_is)
    (case lL => k_is)
    (case cL => k_is)
    (case kL => k_is)
    (case z_len => k_is)
    (case z_zip => k_is)
    (case z_range => k_is)
    (case z_dict => k_is)
    (case z_list => k_is)
    (case z_max => k_is)
    (case z_min => k_is)
    (case z_int => k_is)
    (case z_str => k_is)
    (case z_divmod => k_is)
    (case z_isinstance => k_is)
    (case z_tuple => k_is)
    (case told => k_is)
    (case d1 => k_is)
    (case d2 => k_is)
