import PyProof.Rows.All
import Wide.All
import OpenK.AllK
import Wide.FinOn
import KE.KStateDown
import Lean
import HandS.ForMost
import HandS.Conv
import HandS.Style
import HandS.Wide
import HandS.More
import HandS.Flow
import HandS.TupAny
import HandS.TupLe
import HandS.Defaults
import HandS.Exc
import HandS.Lambda
import HandS.EndTab
import HandS.Head0
import HandS.Head1
import HandS.Head2
import HandS.HeadEnd
import HandS.HeadHook1
import HandS.HeadHook2
import HandS.HeadHook3
import HandS.HeadHook4
import HandS.HeadWalk
import KE.SortKeyHeap
import KE.SortData
import KE.KDictPairs
import KE.KDictZip
import PyProof.Draws
import PyProof.EnumMake
import PySem.Challenge.RW_throughlines_k47_whole_there_and_back
set_option Elab.async false
set_option linter.all false
set_option maxRecDepth 100000
set_option maxHeartbeats 4000000
/-! K47Text: the text by places. -/
namespace K47
open PySem PySem.Spec PyProof.Rows L2
def top (i : Nat) : Stmt := PySem.Challenge.pw_throughlines_k47_whole_there_and_back.main.body.getD i (.Pass ⟨0, 0, 0, 0⟩)
abbrev sByNum : Stmt := top 1
abbrev sKept : Stmt := top 2
abbrev sAstray : Stmt := top 3
abbrev sPlaces : Stmt := top 5
abbrev sAt : Stmt := top 6
abbrev sBeside : Stmt := top 7
abbrev sSteps : Stmt := top 8
abbrev sRoad : Stmt := top 9
abbrev sGoals : Stmt := top 12
abbrev sGap : Stmt := top 13
abbrev sLacking : Stmt := top 14
abbrev sOrder : Stmt := top 15
abbrev sInit : Stmt := inClass (top 16) 0
abbrev sLack : Stmt := inClass (top 16) 1
abbrev sStep : Stmt := inClass (top 16) 2
abbrev sMany : Stmt := inClass (top 16) 3
abbrev sMarks : Stmt := top 17
abbrev sRests : Stmt := top 18
abbrev sAfter : Stmt := top 19
abbrev sHeld : Stmt := top 20
abbrev sHistory : Stmt := top 21
abbrev sBag : Stmt := top 23
abbrev sTake : Stmt := top 24
abbrev sNames : Stmt := top 25
abbrev sNet : Stmt := top 26
abbrev sOn : Stmt := top 27
abbrev sOut : Stmt := top 28
abbrev sTold : Stmt := top 29
abbrev sLaw : Stmt := top 30
/-- a def of the text behind the top -/
abbrev Fn (K : PySem.W.Frag) (x : Str) (st : Stmt) (f : Addr) (fd : FuncData) : Prop := FunD K x x (defArgs st) (defBody st) (defScope st) [] [] f fd
abbrev FnQ (K : PySem.W.Frag) (x q : Str) (st : Stmt) (f : Addr) (fd : FuncData) : Prop := FunD K x q (defArgs st) (defBody st) (defScope st) [] [] f fd
end K47
/-! K47Math: the lines that a wagon keeps, the strays among its returns, there and back; plain Lean. -/
namespace K47
section
variable {α : Type} [DecidableEq α]
/-- the lines kept when a wagon goes over to x -/
def keptB (kept : List α) (x : α) : List α := if x ∈ kept then kept.take (kept.idxOf x + 1) else kept ++ [x]
/-- whether a return is astray -/
def isStray (kept : List α) (x : α) (e : Bool) : Bool := e && (decide (1 < kept.length) && decide (kept[kept.length - 2]? ≠ some x))
/-- the numbers of the strays among (number, line over, empty), in order -/
def strays : List α → List (Int × α × Bool) → List Int
  | _, [] => []
  | kept, t :: r => (if isStray kept t.2.1 t.2.2 then [t.1] else []) ++ strays (keptB kept t.2.1) r
def keptAll (kept : List α) (r : List (Int × α × Bool)) : List α := r.foldl (fun k t => keptB k t.2.1) kept
theorem strays_append (r s : List (Int × α × Bool)) : ∀ kept : List α, strays kept (r ++ s) = strays kept r ++ strays (keptAll kept r) s := by
  induction r with
  | nil => intro kept; rfl
  | cons t r ih =>
    intro kept
    show (if isStray kept t.2.1 t.2.2 then [t.1] else []) ++ strays (keptB kept t.2.1) (r ++ s) = _
    rw [ih, ← List.append_assoc]
    rfl
theorem keptAll_append (kept : List α) (r s : List (Int × α × Bool)) : keptAll kept (r ++ s) = keptAll (keptAll kept r) s := by
  unfold keptAll
  rw [List.foldl_append]
theorem strays_one (kept : List α) (t : Int × α × Bool) : strays kept [t] = if isStray kept t.2.1 t.2.2 then [t.1] else [] := by
  show (if isStray kept t.2.1 t.2.2 then [t.1] else []) ++ [] = _
  rw [List.append_nil]
theorem take_snoc {β : Type} {l : List β} {i : Nat} {x : β} (h : l[i]? = some x) : l.take (i + 1) = l.take i ++ [x] := by
  rw [List.take_add_one, h]
  rfl
theorem strays_step (kept : List α) (r : List (Int × α × Bool)) {i : Nat} {t : Int × α × Bool} (h : r[i]? = some t) :
    strays kept (r.take (i + 1)) = strays kept (r.take i) ++ (if isStray (keptAll kept (r.take i)) t.2.1 t.2.2 then [t.1] else []) := by
  rw [take_snoc h, strays_append, strays_one]
theorem keptAll_step (kept : List α) (r : List (Int × α × Bool)) {i : Nat} {t : Int × α × Bool} (h : r[i]? = some t) :
    keptAll kept (r.take (i + 1)) = keptB (keptAll kept (r.take i)) t.2.1 := by
  rw [take_snoc h, keptAll_append]
  rfl
theorem idx_of_nodup {l : List α} (nd : l.Nodup) {i : Nat} {x : α} (h : l[i]? = some x) : l.idxOf x = i := by
  have hm : x ∈ l := List.mem_of_getElem? h
  have h1 : l.idxOf x < l.length := List.idxOf_lt_length_iff.mpr hm
  have h2 : l[l.idxOf x]? = some x := by
    rw [List.getElem?_eq_getElem h1, List.getElem_idxOf]
  obtain ⟨h3, e3⟩ := List.getElem?_eq_some_iff.mp h
  obtain ⟨h4, e4⟩ := List.getElem?_eq_some_iff.mp h2
  exact (List.getElem_inj nd).mp (e4.trans e3.symm)
/-- where the wagon's lines stand: out, and back by the same ones -/
def lines (out : List α) (b : Nat) : List α := out ++ (out.reverse.take b).drop 1
theorem lines_length (out : List α) {b : Nat} (hb : b ≤ out.length) : (lines out b).length = out.length + (b - 1) := by
  unfold lines
  rw [List.length_append, List.length_drop, List.length_take, List.length_reverse]
  omega
theorem lines_out (out : List α) (b : Nat) {j : Nat} (h : j < out.length) : (lines out b)[j]? = out[j]? := by
  unfold lines
  rw [List.getElem?_append_left h]
theorem lines_back (out : List α) {b : Nat} (hb : b ≤ out.length) {j : Nat} (h1 : out.length ≤ j) (h2 : j < out.length + (b - 1)) : (lines out b)[j]? = out[2 * out.length - 2 - j]? := by
  unfold lines
  rw [List.getElem?_append_right h1, List.getElem?_drop, List.getElem?_take, if_pos (by omega), List.getElem?_reverse (by omega)]
  congr 1
  omega
/-- going out and back: none is astray, and what is kept behind it -/
theorem there_back {out : List α} (nd : out.Nodup) {b : Nat} (hb : 1 ≤ b) (hb2 : b ≤ out.length) {x0 : α} (h0 : out[0]? = some x0) (rets : List (Int × α × Bool))
    (h : ∀ (j : Nat) t, rets[j]? = some t → (lines out b)[j + 1]? = some t.2.1 ∧ (t.2.2 = true → ¬ j + 1 < out.length)) :
    ∀ k : Nat, k ≤ rets.length → strays [x0] (rets.take k) = [] ∧ keptAll [x0] (rets.take k) = if k < out.length then out.take (k + 1) else out.take (2 * out.length - 1 - k) := by
  intro k
  induction k with
  | zero =>
    intro _
    refine ⟨rfl, ?_⟩
    rw [if_pos (by omega)]
    show [x0] = out.take (0 + 1)
    rw [take_snoc h0]
    rfl
  | succ k ih =>
    intro hk
    obtain ⟨i1, i2⟩ := ih (by omega)
    obtain ⟨t, ht⟩ : ∃ t, rets[k]? = some t := ⟨rets[k], List.getElem?_eq_getElem (by omega)⟩
    obtain ⟨hx, he⟩ := h k t ht
    have hlt : k + 1 < out.length + (b - 1) := by
      have := (List.getElem?_eq_some_iff.mp hx).1
      rwa [lines_length out hb2] at this
    rw [strays_step _ _ ht, keptAll_step _ _ ht, i1, i2]
    by_cases hc : k + 1 < out.length
    · rw [if_pos (show k < out.length by omega), if_pos hc]
      rw [lines_out out b hc] at hx
      have hn : t.2.1 ∉ out.take (k + 1) := fun hm => by
        obtain ⟨i, hi⟩ := List.mem_iff_getElem?.mp hm
        rw [List.getElem?_take] at hi
        split at hi
        · rename_i hik
          have e1 := idx_of_nodup nd hi
          have e2 := idx_of_nodup nd hx
          omega
        · cases hi
      refine ⟨?_, ?_⟩
      · have e : t.2.2 = false := by
          cases q : t.2.2 with
          | false => rfl
          | true => exact absurd hc (he q)
        unfold isStray
        rw [e]
        rfl
      · unfold keptB
        rw [if_neg hn, take_snoc hx]
    · have hK : (if k < out.length then out.take (k + 1) else out.take (2 * out.length - 1 - k)) = out.take (2 * out.length - 1 - k) := by
        by_cases hk2 : k < out.length
        · rw [if_pos hk2]
          congr 1
          omega
        · rw [if_neg hk2]
      rw [hK, if_neg hc]
      rw [lines_back out hb2 (by omega) hlt] at hx
      have em : 2 * out.length - 2 - (k + 1) = 2 * out.length - 1 - k - 2 := by omega
      rw [em] at hx
      have hlen : (out.take (2 * out.length - 1 - k)).length = 2 * out.length - 1 - k := by
        rw [List.length_take]
        omega
      have hx2 : (out.take (2 * out.length - 1 - k))[2 * out.length - 1 - k - 2]? = some t.2.1 := by
        rw [List.getElem?_take, if_pos (by omega)]
        exact hx
      have ndT : (out.take (2 * out.length - 1 - k)).Nodup := nd.sublist (List.take_sublist _ _)
      refine ⟨?_, ?_⟩
      · unfold isStray
        rw [hlen, hx2]
        simp
      · unfold keptB
        rw [if_pos (List.mem_of_getElem? hx2), idx_of_nodup ndT hx2, List.take_take]
        congr 1
        omega
/-- all of it -/
theorem there_back_all {out : List α} (nd : out.Nodup) {b : Nat} (hb : 1 ≤ b) (hb2 : b ≤ out.length) {x0 : α} (h0 : out[0]? = some x0) (rets : List (Int × α × Bool)) (hl : rets.length + 1 = (lines out b).length)
    (h : ∀ (j : Nat) t, rets[j]? = some t → (lines out b)[j + 1]? = some t.2.1 ∧ (t.2.2 = true → ¬ j + 1 < out.length)) :
    strays [x0] rets = [] ∧ keptAll [x0] rets = out.take (out.length - b + 1) := by
  rw [lines_length out hb2] at hl
  obtain ⟨h1, h2⟩ := there_back nd hb hb2 h0 rets h rets.length (Nat.le_refl _)
  rw [List.take_length] at h1 h2
  refine ⟨h1, h2.trans ?_⟩
  by_cases hc : rets.length < out.length
  · rw [if_pos hc]
    congr 1
    omega
  · rw [if_neg hc]
    congr 1
    omega
/-- .. and one more -/
theorem there_back_more {out : List α} {b : Nat} {x0 : α} {rets : List (Int × α × Bool)} (h1 : strays [x0] rets = []) (h2 : keptAll [x0] rets = out.take (out.length - b + 1)) (t : Int × α × Bool) :
    strays [x0] (rets ++ [t]) = if isStray (out.take (out.length - b + 1)) t.2.1 t.2.2 then [t.1] else [] := by
  rw [strays_append, h1, h2, strays_one]
  rfl
theorem nodup_le : ∀ {l u : List α}, l.Nodup → (∀ x ∈ l, x ∈ u) → l.length ≤ u.length
  | [], _, _, _ => Nat.zero_le _
  | x :: l, u, nd, h => by
    have hx : x ∈ u := h x List.mem_cons_self
    have hn := List.nodup_cons.mp nd
    have ih := nodup_le (l := l) (u := u.erase x) hn.2 fun y hy => (List.mem_erase_of_ne (fun e => hn.1 (by rw [← e]; exact hy))).mpr (h y (List.mem_cons_of_mem _ hy))
    rw [List.length_erase_of_mem hx] at ih
    have hp : 0 < u.length := List.length_pos_of_mem hx
    show l.length + 1 ≤ u.length
    omega
end
end K47
set_option maxHeartbeats 4000000
/-! K47Base: heaps, what stands still, nets and returns on the heap. -/
namespace K47
open PySem PySem.Spec PyProof.Rows L2
/-! ### what stands still -/
/-- all that was tracked is as it was, but b -/
def KB (b : Addr) (H H' : Hp) : Prop := ∀ c o, H c = some o → c ≠ b → H' c = some o
theorem KB.refl (b : Addr) (H : Hp) : KB b H H := fun _ _ h _ => h
theorem KB.trans {b : Addr} {H H1 H2 : Hp} (x : KB b H H1) (y : KB b H1 H2) : KB b H H2 := fun c o h n => y c o (x c o h n) n
theorem KB.of {b : Addr} {H H' : Hp} (s : Same H H') : KB b H H' := fun c o h _ => s c o h
theorem same_upd {H : Hp} {p : Addr} {o : HO} (h : H p = none) : Same H (upd H p o) := fun b x e => by
  rw [upd_ne (ne_of_none e h)]
  exact e
theorem KB.new {b p : Addr} {H : Hp} {o : HO} (h : H p = none) : KB b H (upd H p o) := .of (same_upd h)
theorem KB.write {b : Addr} {H : Hp} {o : HO} : KB b H (upd H b o) := fun c u e n => by
  rw [upd_ne n]
  exact e
/-- a new object may be written -/
theorem KB.mut {b p : Addr} {H H' : Hp} {o : HO} (x : KB b H H') (h : H p = none) : KB b H (upd H' p o) := fun c u e n => by
  rw [upd_ne (ne_of_none e h)]
  exact x c u e n
theorem same_mut {p : Addr} {H H' : Hp} {o : HO} (x : Same H H') (h : H p = none) : Same H (upd H' p o) := fun c u e => by
  rw [upd_ne (ne_of_none e h)]
  exact x c u e
theorem KB.free {b p : Addr} {H H' : Hp} {u : HO} (x : KB b H H') (hb : H' b = some u) (h : H' p = none) : H p = none := by
  cases q : H p with
  | none => rfl
  | some o =>
    by_cases e : p = b
    · rw [e, hb] at h
      cases h
    · rw [x p o q e] at h
      cases h
/-- .. and two of them -/
def KB2 (b c : Addr) (H H' : Hp) : Prop := ∀ d o, H d = some o → d ≠ b → d ≠ c → H' d = some o
/-! ### the bag of draws -/
def BagAt (H : Hp) (b : Addr) : Prop := ∃ g r : Int, H b = some (.lst [.int g, .int r]) ∧ 0 ≤ g ∧ 0 ≤ r ∧ r < 2147483647
theorem BagAt.there {H : Hp} {b : Addr} (h : BagAt H b) : ∃ o, H b = some o := let ⟨_, _, e, _⟩ := h; ⟨_, e⟩
theorem BagAt.keep {H H' : Hp} {b : Addr} (h : BagAt H b) (s : Same H H') : BagAt H' b := let ⟨g, r, e, q⟩ := h; ⟨g, r, s _ _ e, q⟩
theorem BagAt.ne {H : Hp} {b a : Addr} {o : HO} (h : BagAt H b) (e : H a = some o) (n : ∀ g r, o ≠ .lst [.int g, .int r]) : a ≠ b := fun z => by
  obtain ⟨g, r, e2, _⟩ := h
  rw [z, e2] at e
  exact n g r (Option.some.inj e).symm
theorem KB.freeB {b p : Addr} {H H' : Hp} (x : KB b H H') (hb : BagAt H' b) (h : H' p = none) : H p = none := let ⟨_, _, e, _⟩ := hb; x.free e h
theorem BagAt.fresh {H : Hp} {b a : Addr} (h : BagAt H b) (e : H a = none) : b ≠ a := let ⟨_, _, e2, _⟩ := h; ne_of_none e2 e
theorem BagAt.upd {H : Hp} {b p : Addr} {o : HO} (h : BagAt H b) (n : b ≠ p) : BagAt (upd H p o) b := let ⟨g, r, e, q⟩ := h; ⟨g, r, by rw [upd_ne n]; exact e, q⟩
end K47
namespace K47
open PySem PySem.Spec PyProof.Rows L2
/-! ### tuples stand still -/
structure TK (H H' : Hp) : Prop where
  t : ∀ a xs, H a = some (.tup xs) → H' a = some (.tup xs)
  f : ∀ a o xs, H a = some (.frz o (.tup xs)) → H' a = some (.frz o (.tup xs))
theorem TK.refl (H : Hp) : TK H H := ⟨fun _ _ h => h, fun _ _ _ h => h⟩
theorem TK.trans {H H1 H2 : Hp} (x : TK H H1) (y : TK H1 H2) : TK H H2 := ⟨fun a xs h => y.t a xs (x.t a xs h), fun a o xs h => y.f a o xs (x.f a o xs h)⟩
theorem TK.of {H H' : Hp} (s : Same H H') : TK H H' := ⟨fun a xs h => s a _ h, fun a o xs h => s a _ h⟩
def NoT (u : HO) : Prop := (∀ xs, u ≠ .tup xs) ∧ ∀ o xs, u ≠ .frz o (.tup xs)
theorem NoT.lst {xs : List V} : NoT (.lst xs) := ⟨fun _ z => (nomatch z), fun _ _ z => (nomatch z)⟩
theorem NoT.dT {xs : List (List Key × V)} : NoT (.dT xs) := ⟨fun _ z => (nomatch z), fun _ _ z => (nomatch z)⟩
theorem NoT.dK {xs : List (Key × V)} : NoT (.dK xs) := ⟨fun _ z => (nomatch z), fun _ _ z => (nomatch z)⟩
theorem KB.tk' {b : Addr} {H H' : Hp} {u : HO} (k : KB b H H') (h : H b = some u) (n : NoT u) : TK H H' :=
  ⟨fun a xs e => k a _ e fun z => n.1 xs (Option.some.inj (h.symm.trans (by rw [← z]; exact e))), fun a o xs e => k a _ e fun z => n.2 o xs (Option.some.inj (h.symm.trans (by rw [← z]; exact e)))⟩
theorem KB.tk {b : Addr} {H H' : Hp} (k : KB b H H') (hb : BagAt H b) : TK H H' := by
  obtain ⟨g, r, e2, _⟩ := hb
  exact k.tk' e2 .lst
theorem TK.write {H : Hp} {p : Addr} {o u : HO} (h : H p = some u) (n : NoT u) : TK H (upd H p o) := KB.tk' (b := p) .write h n
theorem paired_snoc {α β : Type} {F : α → β → Prop} : ∀ {l : List α} {m : List β} {a : α} {b : β}, Paired F l m → F a b → Paired F (l ++ [a]) (m ++ [b])
  | _, _, _, _, .nil, h => .cons h .nil
  | _, _, _, _, .cons r t, h => .cons r (paired_snoc t h)
theorem paired_at {α β : Type} {F : α → β → Prop} {l : List α} {m : List β} (h : Paired F l m) {i : Nat} {a : α} (e : l[i]? = some a) : ∃ b, m[i]? = some b ∧ F a b := paired_get h e
theorem paired_len {α β : Type} {F : α → β → Prop} {l : List α} {m : List β} (h : Paired F l m) : l.length = m.length := Paired.length h
/-! ### nets -/
structure Net where
  lines : List Str
  stations : List (Str × Str)
  juncs : List (Str × List Str)
/-- a junction stands at p.1, its lines at p.2 -/
def JAt (H : Hp) (p : Addr × Addr) (j : Str × List Str) : Prop := H p.1 = some (.tup [.str j.1, .ref p.2]) ∧ H p.2 = some (.tup (j.2.map V.str))
def SAt (H : Hp) (p : Addr) (j : Str × Str) : Prop := H p = some (.tup [.str j.1, .str j.2])
theorem JAt.keep {H H' : Hp} {p : Addr × Addr} {j : Str × List Str} (h : JAt H p j) (s : TK H H') : JAt H' p j := ⟨s.t _ _ h.1, s.t _ _ h.2⟩
theorem SAt.keep {H H' : Hp} {p : Addr} {j : Str × Str} (h : SAt H p j) (s : TK H H') : SAt H' p j := s.t _ _ h
structure NetIn (H : Hp) (a l s j t : Addr) (sa : List Addr) (ja : List (Addr × Addr)) (N : Net) : Prop where
  top : H a = some (.tup [.ref l, .ref s, .ref j, .ref t])
  ln : H l = some (.tup (N.lines.map V.str))
  st : H s = some (.tup (sa.map V.ref))
  sp : Paired (SAt H) sa N.stations
  jn : ∃ o, H j = some (.frz o (.tup (ja.map fun p => V.ref p.1))) ∧ o.dict = none
  jp : Paired (JAt H) ja N.juncs
theorem NetIn.sj {H : Hp} {a l s j t : Addr} {sa : List Addr} {ja : List (Addr × Addr)} {N : Net} {K : PySem.W.Frag} (h : NetIn H a l s j t sa ja N) : SqT K H j (ja.map fun p => V.ref p.1) := let ⟨o, e, _⟩ := h.jn; .inl (.inr ⟨o, e⟩)
def NetAt (H : Hp) (a : Addr) (N : Net) : Prop := ∃ l s j t sa ja, NetIn H a l s j t sa ja N
theorem NetAt.keep {H H' : Hp} {a : Addr} {N : Net} (h : NetAt H a N) (s : TK H H') : NetAt H' a N := by
  obtain ⟨l, st, j, t, sa, ja, h⟩ := h
  exact ⟨l, st, j, t, sa, ja, s.t _ _ h.top, s.t _ _ h.ln, s.t _ _ h.st, Paired.mapP h.sp fun _ _ z => z.keep s, let ⟨o, e1, e2⟩ := h.jn; ⟨o, s.f _ _ _ e1, e2⟩, Paired.mapP h.jp fun _ _ z => z.keep s⟩
structure NetOk (N : Net) : Prop where
  l0 : 1 ≤ N.lines.length
  l1 : N.lines.length ≤ 8
  s1 : N.stations.length ≤ 2
  j1 : N.juncs.length ≤ 12
  nd : (N.juncs.map (·.1)).Nodup
  sub : ∀ j ∈ N.juncs, j.2.length ≤ 8 ∧ ∀ x ∈ j.2, x ∈ N.lines
/-- a wagon goes over from x to y by one of the junctions -/
def Linked (N : Net) (x y : Str) : Prop := x ≠ y ∧ ∃ j ∈ N.juncs, x ∈ j.2 ∧ y ∈ j.2
theorem Linked.symm {N : Net} {x y : Str} (h : Linked N x y) : Linked N y x := ⟨h.1.symm, let ⟨j, hj, h1, h2⟩ := h.2; ⟨j, hj, h2, h1⟩⟩
end K47
set_option maxHeartbeats 4000000
/-! K47Rules: rules of our own. -/
namespace K47
open PySem PySem.Spec PyProof.Rows L2
/-! ### a list against the empty one -/
section
variable {X : Cx}
def rEqN (K : PySem.W.Frag) : R2 := fun x y H Q => ∃ a p xs, x = .ref a ∧ y = .ref p ∧ SqL K H a xs ∧ SqL K H p [] ∧ Q (.bl xs.isEmpty) H
def rNeN (K : PySem.W.Frag) : R2 := fun x y H Q => ∃ a p xs, x = .ref a ∧ y = .ref p ∧ SqL K H a xs ∧ SqL K H p [] ∧ Q (.bl (!xs.isEmpty)) H
theorem op_eqN (hu : X.A.units + 64 < cLine) : OpR X (compareOp .Eq) (rEqN X.K) := by
  intro pins s σ H x y v u Q I rx ry h
  obtain ⟨a, p, xs, rfl, rfl, ha, hp, q⟩ := h
  cases rx
  cases ry
  obtain ⟨its, rv, pl, hz⟩ := I.list ha
  obtain ⟨its2, rv2, pl2, _⟩ := I.list hp
  cases rv2
  cases rv with
  | nil => exact SeqAt.eq_listAt (e := fun _ => true) pl.isList pl2.isList rfl (by omega) (fun j h1 _ => absurd h1 (Nat.not_lt_zero j)) ⟨.bl true, H, I, rfl, q⟩
  | cons r t => exact SeqAt.eq_list_lengthsAt pl.isList pl2.isList rfl (by omega) ⟨.bl false, H, I, rfl, q⟩
theorem op_neN (hu : X.A.units + 64 < cLine) : OpR X (compareOp .NotEq) (rNeN X.K) := by
  intro pins s σ H x y v u Q I rx ry h
  obtain ⟨a, p, xs, rfl, rfl, ha, hp, q⟩ := h
  cases rx
  cases ry
  obtain ⟨its, rv, pl, hz⟩ := I.list ha
  obtain ⟨its2, rv2, pl2, _⟩ := I.list hp
  cases rv2
  cases rv with
  | nil => exact SeqAt.RcNeAt.lists (e := fun _ => true) pl.isList pl2.isList rfl (by omega) (fun j h1 _ => absurd h1 (Nat.not_lt_zero j)) X.prog X.w _ _ ⟨.bl false, H, I, rfl, q⟩
  | cons r t => exact SeqAt.RcNeAt.lists_lengths pl.isList pl2.isList rfl (by omega) X.prog X.w _ _ ⟨.bl true, H, I, rfl, q⟩
end
/-! ### tuple(list), dict(tuple), d.update(d2) -/
section
variable {X : Cx}
/-- tuple(xs) of a list, its object known -/
theorem call_tuple_frz : CallR X (.type "tuple") (fun xs H Q => ∃ p ys, xs = [.ref p] ∧ SqL X.K H p ys ∧ ∀ l o, H l = none → o.dict = none → Q (.ref l) (upd H l (.frz o (.tup ys)))) := by
  intro pins s σ H xs us Q I r h
  obtain ⟨p, ys, rfl, hq, q⟩ := h
  obtain ⟨u, rfl, rx⟩ := vals1 r
  cases rx
  obtain ⟨its, r', pl, hz⟩ := I.list hq
  have lh := r'.length
  refine call_tuple_list pl.isList (fun h' kp => ?_) (by simp only [List.size_toArray] <;> omega)
  have I1 : Inv X pins σ H { s with heap := h' } := I.kept (t' := s.toks) kp
  have I2 : Inv X pins σ (upd H h'.objs.size (.frz { cls := .type "tuple", data := .seq its.toArray } (.tup ys))) { s with heap := h'.push { cls := .type "tuple", data := .seq its.toArray } } :=
    I1.laid (t' := s.toks) (fun b o e => Heap.get?_push_of_some _ e) (Nat.le_refl _) (show ObjOk X.prog X.w _ _ _ (.frz { cls := .type "tuple", data := .seq its.toArray } (.tup ys)) from ⟨Heap.get?_push_size _ rfl, hz, its, r', IsTup.new _ _⟩)
  exact ⟨.ref h'.objs.size, _, I2, rfl, q _ _ (I1.hok.fresh (Nat.le_refl _)) rfl⟩
/-- dict(t) of a tuple of pairs whose object is known -/
theorem call_dictT (hcalm : X.calm = true) : CallR X (.type "dict") (fun xs H Q => ∃ (a : Addr) (o : Obj) (ps : List Addr) (kvs : List (Key × V)), xs = [.ref a] ∧ H a = some (.frz o (.tup (ps.map V.ref))) ∧ o.dict = none ∧ Paired (fun p kv => SqT X.K H p [kV kv.1, kv.2]) ps kvs ∧
    ∀ p, H p = none → Q (.ref p) (upd H p (.dK (mergeK [] kvs)))) := by
  intro pins s σ H xs us Q I r q
  obtain ⟨a, o, ps, kvs, ex, hq, hod, hp, q⟩ := q
  subst ex
  obtain ⟨u, eu, rx⟩ := vals1 r
  subst eu
  cases rx
  obtain ⟨ho, hz, its, rv, o2, ho2, hc, n, hdat⟩ := I.hok a _ hq
  rw [ho] at ho2
  cases ho2
  have ei := refs_at rv
  subst ei
  rw [List.length_map] at hz
  obtain ⟨prs1, rl, hl, ph⟩ := pairs_of I hp
  -- the pairs as they stand in the heap
  have key : ∃ qs : List (Value × Value), qs.length = ps.length ∧ PairItems s.heap (ps.map Value.ref).toArray (fun j => ps.getD j 0) qs ∧ ∀ (i : Nat) (k v : Value), qs[i]? = some (k, v) → ∃ kk, prs1[i]? = some (kk, v) ∧ keyIs kk k = true := by
    have hex : ∀ j : Nat, ∃ uv : Value × Value, ∀ q, prs1[j]? = some q → ∃ b, ps[j]? = some b ∧ IsTup s.heap b #[uv.1, uv.2] ∧ keyIs q.1 uv.1 = true ∧ uv.2 = q.2 := fun j => by
      cases e : prs1[j]? with
      | none => exact ⟨(.none, .none), fun q h => by cases h⟩
      | some q =>
        obtain ⟨b, u, e1, e2, e3⟩ := ph j q e
        exact ⟨(u, q.2), fun q' h => by cases h; exact ⟨b, e1, e2, e3, rfl⟩⟩
    refine ⟨(List.range ps.length).map fun j => Classical.choose (hex j), by rw [List.length_map, List.length_range], ⟨?_, fun j k v hj => ?_⟩, fun i k v hi => ?_⟩
    · rw [List.size_toArray, List.length_map, List.length_map, List.length_range]
    · have hjl : j < ps.length := by
        have := (List.getElem?_eq_some_iff.mp hj).1
        rwa [List.length_map, List.length_range] at this
      rw [List.getElem?_map, List.getElem?_range hjl] at hj
      have e : Classical.choose (hex j) = (k, v) := Option.some.inj hj
      obtain ⟨q, hq⟩ : ∃ q, prs1[j]? = some q := ⟨prs1[j], List.getElem?_eq_getElem (by omega)⟩
      obtain ⟨b, e1, e2, _, _⟩ := Classical.choose_spec (hex j) q hq
      rw [e] at e2
      have eb : ps.getD j 0 = b := by rw [List.getD_eq_getElem?_getD, e1]; rfl
      refine ⟨?_, .inl ?_⟩
      · show ((ps.map Value.ref).toArray)[j]? = some (.ref (ps.getD j 0))
        rw [eb, List.getElem?_toArray, List.getElem?_map, e1]
        rfl
      · show s.heap.IsTuple (ps.getD j 0) #[k, v]
        rw [eb]
        exact e2
    · have hil : i < ps.length := by
        have := (List.getElem?_eq_some_iff.mp hi).1
        rwa [List.length_map, List.length_range] at this
      rw [List.getElem?_map, List.getElem?_range hil] at hi
      have e : Classical.choose (hex i) = (k, v) := Option.some.inj hi
      obtain ⟨q, hq⟩ : ∃ q, prs1[i]? = some q := ⟨prs1[i], List.getElem?_eq_getElem (by omega)⟩
      obtain ⟨b, _, _, e3, e4⟩ := Classical.choose_spec (hex i) q hq
      rw [e] at e3 e4
      have e5 : v = q.2 := e4
      exact ⟨q.1, by rw [hq, e5], e3⟩
  obtain ⟨qs, lq, hI, hk⟩ := key
  refine PySem.call_dict_pairs (knd := mixKind X.prog X.w) (kvs := prs1) (PairArg.tuple a (ps.map Value.ref).toArray (fun j => ps.getD j 0) qs) (I.ok.hd hcalm) ⟨⟨o, n, ho, hc, hod, hdat⟩, hI⟩ ⟨hl.trans lq.symm, fun i k v h => ?_⟩ (by rw [lq]; exact hz) fun h' tk hd' kk => ?_
  · obtain ⟨k2, e1, e2⟩ := hk i k v h
    exact ⟨k2, e1, e2⟩
  · have hm : (s.heap.objs.size == sysModules) = false := beq_eq_false_iff_ne.mpr (Nat.ne_of_gt I.big)
    have lh : (mergeK [] kvs).length ≤ sizeLine := by
      refine Nat.le_trans (length_mergeK kvs []) ?_
      rw [List.length_nil, Nat.zero_add, rl.length, hl]
      exact hz
    exact ⟨.ref s.heap.objs.size, upd H s.heap.objs.size (.dK (mergeK [] kvs)), I.laid (t' := tk) (fun b u e => kk b u (fun h => nomatch h) e) (Nat.le_refl _) (show ObjOk X.prog X.w _ _ _ (.dK (mergeK [] kvs)) from ⟨lh, hm, merged [] prs1, KV.merge rl .nil, hd'⟩), rfl, q _ (I.hok.fresh (Nat.le_refl _))⟩
/-- d.update(d2) -/
theorem mt_update : MtM X "dict.update" (fun x xs H Q => ∃ (d o : Addr) (kvs more : List (Key × V)), x = .ref d ∧ xs = [.ref o] ∧ d ≠ o ∧ H d = some (.dK kvs) ∧ H o = some (.dK more) ∧ kvs.length + more.length ≤ sizeLine ∧ Q .non (upd H d (.dK (mergeK kvs more)))) := by
  intro pins s σ H x vs v us Q I rx rv h
  obtain ⟨d, o, kvs, more, rfl, rfl, hne, hd, ho, hz, q⟩ := h
  cases rx
  obtain ⟨u, rfl, ru⟩ := rv.one
  cases ru
  obtain ⟨z1, m1, vs1, rel1, d1⟩ := dk_of I.hok hd
  obtain ⟨z2, m2, vs2, rel2, d2⟩ := dk_of I.hok ho
  refine call_meetsIn PySem.F.slot_dict_update d1.typeIs PySem.F.entry_dict_update (PySem.F.args_dict_update_2 _ _) (meets_dict_update (mixKind X.prog X.w) d o hne m2) ⟨vs1, vs2, d1, d2, by rw [← rel1.length, ← rel2.length]; exact hz, fun h' hd' ho' hs => ?_⟩
  have he : ∃ q, h'.get? d = some q := let ⟨q, _, _, hq, _⟩ := hd'; ⟨q, hq⟩
  have lh : (mergeK kvs more).length ≤ sizeLine := Nat.le_trans (length_mergeK more kvs) hz
  exact ⟨.non, _, d_write (t' := s.toks) I (by rw [hd]; exact True.intro) hs he (dk_new lh m1 (KV.merge rel2 rel1) hd'), rfl, q⟩
end
/-! ### texts in lists -/
theorem inV_strs (x : Str) : ∀ ys : List Str, inV (.str x) (ys.map V.str) = decide (x ∈ ys)
  | [] => rfl
  | y :: ys => by
    have ih := inV_strs x ys
    unfold inV at ih ⊢
    rw [List.map_cons, List.any_cons, ih]
    have e : eqV (.str y) (.str x) = (y == x) := rfl
    rw [e]
    by_cases h : x = y
    · subst h
      simp
    · have h2 : (y == x) = false := beq_eq_false_iff_ne.mpr fun z => h z.symm
      rw [h2]
      simp [h]
theorem flat_strs : ∀ ys : List Str, (ys.map V.str).all flatV = true
  | [] => rfl
  | y :: ys => by
    rw [List.map_cons, List.all_cons, flat_strs ys]
    rfl
end K47
namespace K47
open PySem PySem.Spec PyProof.Rows L2
theorem atI_back {α : Type} {xs : List α} {v : α} {k : Nat} {z : Int} (e : z = -(k : Int)) (h1 : 1 ≤ k) (h2 : k ≤ xs.length) (h : xs[xs.length - k]? = some v) : atI xs z = some v := by
  subst e
  have hx : ixN xs.length (-(k : Int)) = some (xs.length - k) := by
    unfold ixN
    rw [if_neg (by omega), if_pos (by omega)]
    congr 1
    omega
  unfold atI
  rw [hx]
  exact h
end K47
set_option maxHeartbeats 4000000
/-! K47Take: the bag of draws. -/
namespace K47
open PySem PySem.Spec PyProof.Rows L2
section
variable {P : Program} {w : World} {K : PySem.W.Frag} {mg : Str → Option Value} {base : Heap}
theorem scTake : FnScope ["_law_bag_here", "_law_many", "_law_digit"] ["_law_bag_here", "_law_many"] (defScope sTake) := ⟨rfl, rfl, rfl, by decide +kernel, rfl, by decide +kernel, by decide +kernel⟩
/-- a draw: any number from 0 to below many -/
def spTake : Sp := fun vs H Q _ => ∃ (b : Addr) (m : Int), vs = [.ref b, .int m] ∧ BagAt H b ∧ 0 < m ∧ m < 1000000 ∧ ∀ (d : Int) (H' : Hp), 0 ≤ d → d < m → BagAt H' b → KB b H H' → Q (.int d) H'
theorem ok_take {f : Addr} {fd : FuncData} (F : Fn K "_law_take" sTake f fd) : FnOk P w K mg base CX0 1 f fd ["_law_bag_here", "_law_many"] spTake := by
  refine F.ok scTake (fun vs H Q E h => ?_) (fun cdv A outer s H vs Q E hr h => ?_)
  · obtain ⟨b, m, rfl, _⟩ := h
    rfl
  · obtain ⟨b, m, rfl, ⟨g, r, hb, g0, r0, r1⟩, m0, m1, k⟩ := h
    refine ⟨_, PSs.nox (pss_cons (ps_if (pt_cmpR op_gt (pe_ix ix_list (pv 0) pe_int (fun _ _ => rfl)) pe_int (nomark _))
        (pss_cons (ps_set (i := 2) scTake.nd rfl (.inl rfl) (pe_op op_mod (pe_ix ix_list (pv 0) pe_int (fun _ _ => rfl)) (pv 1)))
          (pss_cons (ps_asg (pe_op op_fdiv (pe_ix ix_list (pv 0) pe_int (fun _ _ => rfl)) (pv 1)) (pg_sub (pv 0) pe_int set_list))
          (pss_one (ps_ret (pv 2))))) pss_nil)
      (pss_cons (ps_asg (pe_op op_mod (pe_op op_add (pe_op op_mul (pe_ix ix_list (pv 0) pe_int (fun _ _ => rfl)) pe_int) pe_int) pe_int) (pg_sub (pv 0) pe_int set_list))
      (pss_one (ps_ret (pe_op op_mod (pe_op op_mod (pe_op op_pow (pe_op op_fdiv (pe_ix ix_list (pv 0) pe_int (fun _ _ => rfl)) pe_int) pe_int) pe_int) (pv 1)))))), ?_⟩
    have s0 : SqL K H b [.int g, .int r] := SqL.of hb
    refine ⟨_, rfl, b, _, 0, .int g, rfl, rfl, s0, rfl, g, 0, rfl, rfl, _, rfl, ite2 (fun h => ?_) (fun h => ?_)⟩
    · have hg : 0 < g := of_decide_eq_true h
      refine ⟨_, rfl, b, _, 0, .int g, rfl, rfl, s0, rfl, _, rfl, g, m, rfl, rfl, m0, ?_⟩
      refine ⟨_, rfl, b, _, 0, .int g, rfl, rfl, s0, rfl, _, rfl, g, m, rfl, rfl, ⟨m0, by omega⟩, ?_⟩
      refine ⟨_, rfl, b, _, 0, 0, rfl, rfl, hb, rfl, ?_⟩
      refine ⟨_, rfl, ?_⟩
      refine k (g % m) _ (Int.emod_nonneg _ (by omega)) (Int.emod_lt_of_pos _ m0) ⟨g / m, r, upd_same, Int.ediv_nonneg (by omega) (by omega), r0, r1⟩ .write
    · refine ⟨_, rfl, b, _, 1, .int r, rfl, rfl, s0, rfl, r, 48271, rfl, rfl, .inr ⟨by decide, by decide⟩, r * 48271, 11, rfl, rfl, r * 48271 + 11, 2147483647, rfl, rfl, (by show (0 : Int) < 2147483647; decide), ?_⟩
      refine ⟨_, rfl, b, _, 1, 1, rfl, rfl, hb, rfl, ?_⟩
      have n0 : 0 ≤ (r * 48271 + 11) % 2147483647 := Int.emod_nonneg _ (by decide)
      have n1 : (r * 48271 + 11) % 2147483647 < 2147483647 := Int.emod_lt_of_pos _ (by decide)
      refine ⟨_, rfl, b, _, 1, .int ((r * 48271 + 11) % 2147483647), rfl, rfl, SqL.of upd_same, rfl, _, 8, rfl, rfl, ⟨by decide, by decide⟩, _, 3, rfl, rfl, ⟨by decide, by decide, ?_⟩, _, 2147483629, rfl, rfl, (by show (0 : Int) < 2147483629; decide), _, rfl, _, m, rfl, rfl, m0, ?_⟩
      · generalize hz : (r * 48271 + 11) % 2147483647 = z at n0 n1
        have h1 : 0 ≤ z / 8 := Int.ediv_nonneg n0 (by decide)
        have h2 : z / 8 < 2147483647 := by omega
        show (z / 8).natAbs < 2 ^ 64
        omega
      · exact k _ _ (Int.emod_nonneg _ (by omega)) (Int.emod_lt_of_pos _ m0) ⟨g, _, upd_same, g0, n0, n1⟩ .write
end
end K47
set_option maxHeartbeats 4000000
/-! K47Bag: the bag of draws made. -/
namespace K47
open PySem PySem.Spec PyProof.Rows L2
section
variable {P : Program} {w : World} {K : PySem.W.Frag} {mg : Str → Option Value} {base : Heap}
theorem scBag : FnScope ["_law_script", "_law_at", "_law_cell", "_law_great", "_law_primes"] ["_law_script", "_law_at"] (defScope sBag) := ⟨rfl, rfl, rfl, by decide +kernel, rfl, by decide +kernel, by decide +kernel⟩
def spBag (K : PySem.W.Frag) : Sp := fun vs H Q _ => ∃ (a : Addr) (k : Int) (ns : List Int), vs = [.ref a, .int k] ∧ SqL K H a (ns.map V.int) ∧ ns.length ≤ 63 ∧ 0 ≤ k ∧ k ≤ 1000 ∧ ∀ (b : Addr) (H' : Hp), Same H H' → H b = none → BagAt H' b → Q (.ref b) H'
theorem ints_at (ns : List Int) {i : Nat} (h : i < ns.length) : ∃ z, (ns.map V.int)[i]? = some (.int z) := ⟨ns[i], by rw [List.getElem?_map, List.getElem?_eq_getElem h]; rfl⟩
theorem ok_bag {f : Addr} {fd : FuncData} (F : Fn K "_law_bag" sBag f fd) (ml : mg "len" = none) (ma : mg "abs" = none) : FnOk P w K mg base CX0 1 f fd ["_law_script", "_law_at"] (spBag K) := by
  refine F.ok scBag (fun vs H Q E h => ?_) (fun cdv A outer s H vs Q E hr h => ?_)
  · obtain ⟨a, k, ns, rfl, _⟩ := h
    rfl
  · obtain ⟨a, k, ns, rfl, hS, hlen, k0, k1, q⟩ := h
    refine ⟨_, PSs.nox (pss_cons (ps_set (i := 2) scBag.nd rfl (.inl rfl) pe_int)
      (C8.pss_cut (ps_if (pt_cmpR op_gt (pe_callB call_len_seq (by rfl) ml PySem.boot_len (pa_cons (pv 0) pa_nil)) pe_int (nomark _))
        (pss_one (ps_set (i := 2) scBag.nd rfl (.inl rfl) (pe_ix ix_list (pv 0) (pe_op op_mod (pv 1) (pe_callB call_len_seq (by rfl) ml PySem.boot_len (pa_cons (pv 0) pa_nil))) (fun _ _ => rfl)))) pss_nil)
      (pss_cons (ps_set (i := 3) scBag.nd rfl (.inl rfl) pe_int)
      (C8.pss_cut (ps_if (PW.pt (pw_and (pt_cmpR op_ge (pe_callB call_abs (by rfl) ma PyProof.Rows.boot_abs (pa_cons (pv 2) pa_nil)) (pe_op op_pow pe_int pe_int) (nomark _))
          (pw_and1 (pt_cmpR op_lt (pv 1) (pe_callB call_len_seq (by rfl) ml PySem.boot_len (pa_cons (pv 0) pa_nil)) (nomark _)))))
        (pss_one (ps_set (i := 3) scBag.nd rfl (.inl rfl) (pe_callB call_abs (by rfl) ma PyProof.Rows.boot_abs (pa_cons (pv 2) pa_nil)))) pss_nil)
      (pss_cons (ps_set (i := 4) scBag.nd rfl (.inl rfl) (pe_tup (pa_cons pe_int (pa_cons pe_int (pa_cons pe_int (pa_cons pe_int (pa_cons pe_int (pa_cons pe_int (pa_cons pe_int (pa_cons pe_int pa_nil))))))))))
      (pss_one (ps_ret (pe_lst (pa_cons (pv 3) (pa_cons (pe_op op_mod (pe_op op_pow (pe_op op_add (pe_op op_add (pe_op op_mod (pv 2) pe_int) (pe_op op_mul pe_int (pv 1))) pe_int) pe_int)
        (pe_ix ix_tup (pv 4) (pe_op op_mod (pv 1) pe_int) (fun _ _ => rfl))) pa_nil)))))))))), ?_⟩
    -- cell
    refine ⟨fun σ' H' => H' = H ∧ ∃ z : Int, σ' = [some (.ref a), some (.int k), some (.int z), none, none], ?_, ?_⟩
    · refine ⟨.ref a, rfl, a, ns.map V.int, rfl, .inl hS, _, _, rfl, rfl, _, rfl, ite2 (fun h => ?_) (fun h => ?_)⟩
      · have hp : (0 : Int) < ((ns.map V.int).length : Int) := of_decide_eq_true h
        have hn : (k % ((ns.map V.int).length : Int)).toNat < ns.length := by
          have h1 := Int.emod_lt_of_pos k hp
          have h2 := Int.emod_nonneg k (by omega : ((ns.map V.int).length : Int) ≠ 0)
          rw [List.length_map] at h1 h2
          rw [List.length_map]
          omega
        obtain ⟨z, hz⟩ := ints_at ns hn
        have ez : k % ((ns.map V.int).length : Int) = (((k % ((ns.map V.int).length : Int)).toNat : Nat) : Int) := by
          have h2 := Int.emod_nonneg k (by omega : ((ns.map V.int).length : Int) ≠ 0)
          omega
        refine ⟨.ref a, rfl, .int k, rfl, .ref a, rfl, a, ns.map V.int, rfl, .inl hS, _, _, rfl, rfl, hp, a, _, _, .int z, rfl, rfl, hS, at_of ez hz, rfl, z, rfl⟩
      · exact ⟨rfl, 0, rfl⟩
    rintro σ' H' ⟨rfl, z, rfl⟩
    -- great
    refine ⟨fun σ' H2 => H2 = H' ∧ ∃ g : Int, 0 ≤ g ∧ σ' = [some (.ref a), some (.int k), some (.int z), some (.int g), none], ?_, ?_⟩
    · have hab : ∀ y : Int, 0 ≤ (if y < 0 then -y else y) := fun y => by
        by_cases hy : y < 0
        · rw [if_pos hy]
          omega
        · rw [if_neg hy]
          omega
      refine ⟨.int z, rfl, z, rfl, _, _, rfl, rfl, ⟨by decide, by decide, by decide⟩, _, _, rfl, rfl, _, rfl, ite2 (fun h => ?_) (fun h => ?_)⟩
      · refine ⟨.int k, rfl, .ref a, rfl, a, ns.map V.int, rfl, .inl hS, _, _, rfl, rfl, _, rfl, ite2 (fun h => ?_) (fun h => ?_)⟩
        · exact ⟨.int z, rfl, z, rfl, rfl, _, hab z, rfl⟩
        · exact ⟨rfl, 0, Int.le_refl _, rfl⟩
      · exact iteF ⟨rfl, 0, Int.le_refl _, rfl⟩
    rintro σ' H2 ⟨rfl, g, g0, rfl⟩
    refine ⟨by show 8 ≤ sizeLine; decide, fun p hp => ?_⟩
    have hm : ∃ m : Int, 0 < m ∧ m ≤ 2147483629 ∧ atI ([.int 2147483629, .int 2147483587, .int 2147483579, .int 2147483563, .int 2147483549, .int 2147483543, .int 2147483497, .int 2147483489] : List V) (k % 8) = some (.int m) := by
      have h1 := Int.emod_lt_of_pos k (by decide : (0 : Int) < 8)
      have h2 := Int.emod_nonneg k (by decide : (8 : Int) ≠ 0)
      generalize k % 8 = j at h1 h2
      have h3 : j = 0 ∨ j = 1 ∨ j = 2 ∨ j = 3 ∨ j = 4 ∨ j = 5 ∨ j = 6 ∨ j = 7 := by omega
      rcases h3 with h | h | h | h | h | h | h | h <;> subst h
      · exact ⟨2147483629, by decide, by decide, rfl⟩
      · exact ⟨2147483587, by decide, by decide, rfl⟩
      · exact ⟨2147483579, by decide, by decide, rfl⟩
      · exact ⟨2147483563, by decide, by decide, rfl⟩
      · exact ⟨2147483549, by decide, by decide, rfl⟩
      · exact ⟨2147483543, by decide, by decide, rfl⟩
      · exact ⟨2147483497, by decide, by decide, rfl⟩
      · exact ⟨2147483489, by decide, by decide, rfl⟩
    obtain ⟨m, m0, m1, em⟩ := hm
    have c0 : 0 ≤ z % 2147483647 := Int.emod_nonneg _ (by decide)
    have c1 : z % 2147483647 < 2147483647 := Int.emod_lt_of_pos _ (by decide)
    refine ⟨_, rfl, .int z, rfl, z, 2147483647, rfl, rfl, (by show (0 : Int) < 2147483647; decide), _, rfl, 104729, k, rfl, rfl, .inl ⟨by decide, by decide⟩, _, _, rfl, rfl, _, _, rfl, rfl, _, 5, rfl, rfl, ⟨by decide, by decide, ?_⟩, _, rfl, _, rfl, k, 8, rfl, rfl, (by show (0 : Int) < 8; decide), p, _, _, _, rfl, rfl, SqT.of upd_same, em, _, m, rfl, rfl, m0, ?_⟩
    · show (z % 2147483647 + 104729 * k + 7).natAbs < 2 ^ 64
      omega
    refine ⟨by show 2 ≤ sizeLine; decide, fun b hb => ?_⟩
    have s1 : Same H2 (upd H2 p (.tup [.int 2147483629, .int 2147483587, .int 2147483579, .int 2147483563, .int 2147483549, .int 2147483543, .int 2147483497, .int 2147483489])) := same_upd hp
    refine q b _ (s1.trans (same_upd hb)) (s1.free hb) ⟨g, _, upd_same, g0, Int.emod_nonneg _ (by omega), ?_⟩
    have := Int.emod_lt_of_pos ((z % 2147483647 + 104729 * k + 7) ^ Int.toNat 5) m0
    omega
end
end K47
set_option maxHeartbeats 4000000
/-! K47Names: unlike names. -/
namespace K47
open PySem PySem.Spec PyProof.Rows L2
/-! ### letters -/
def abc : List Nat := (List.range 26).map fun i => 97 + i
theorem abc_eq : (("abcdefghijklmnopqrstuvwxyz" : Str).cps.toList) = abc := by decide +kernel
theorem abc_at {d : Int} (h0 : 0 ≤ d) (h1 : d < 26) : atI (("abcdefghijklmnopqrstuvwxyz" : Str).cps.toList) d = some (97 + d.toNat) := by
  obtain ⟨j, rfl⟩ : ∃ j : Nat, d = (j : Int) := ⟨d.toNat, by omega⟩
  rw [abc_eq]
  refine (atI_nat (v := 97 + j) ?_).trans rfl
  unfold abc
  rw [List.getElem?_map, List.getElem?_range (by omega)]
  rfl
theorem abc_len : ("abcdefghijklmnopqrstuvwxyz" : Str).length ≤ sizeLine := by decide +kernel
theorem len_app (a b : Str) : (a ++ b).length = a.length + b.length := by
  show (a.cps ++ b.cps).size = a.cps.size + b.cps.size
  exact Array.size_append
theorem join_len (ys : List Str) : (Txt.join ("" : Str) ys).length = (ys.map (·.length)).sum := by
  have h := PySem.size_glued ("" : Str) ys
  have e : (("" : Str)).length = 0 := by decide +kernel
  rw [e, Nat.mul_zero] at h
  exact h
theorem sum_ones {ys : List Str} (h : ∀ y ∈ ys, y.length = 1) : (ys.map (·.length)).sum = ys.length := by
  induction ys with
  | nil => rfl
  | cons x r ih =>
    rw [List.map_cons, List.sum_cons, h x List.mem_cons_self, ih fun y hy => h y (List.mem_cons_of_mem _ hy), List.length_cons]
    omega
/-- the sign by which the j-th name is told from the others -/
def signOf (first : Int) (n : Str) : Option Nat := if first = 0 then n.cps.toList.head? else n.cps.toList.getLast?
theorem sign_first (c : Nat) (x : Str) {first : Int} (h : first = 0) : signOf first ((⟨#[c]⟩ : Str) ++ x) = some c := by
  unfold signOf
  rw [if_pos h]
  show (#[c] ++ x.cps).toList.head? = some c
  rw [Array.toList_append]
  rfl
theorem sign_last (c : Nat) (x : Str) {first : Int} (h : ¬ first = 0) : signOf first (x ++ (⟨#[c]⟩ : Str)) = some c := by
  unfold signOf
  rw [if_neg h]
  show (x.cps ++ #[c]).toList.getLast? = some c
  rw [Array.toList_append]
  show (x.cps.toList ++ [c]).getLast? = some c
  rw [List.getLast?_append]
  rfl
def Signed (first shift : Int) (ns : List Str) : Prop := ∀ (j : Nat) (n : Str), ns[j]? = some n → signOf first n = some (97 + ((shift + 7 * (j : Int)) % 26).toNat)
theorem signed_nodup {first shift : Int} {ns : List Str} (h : Signed first shift ns) (hl : ns.length ≤ 26) : ns.Nodup := by
  unfold List.Nodup
  rw [List.pairwise_iff_getElem]
  intro i j hi hj hij e
  have h1 := h i _ (List.getElem?_eq_getElem hi)
  have h2 := h j _ (List.getElem?_eq_getElem hj)
  rw [e, h2] at h1
  have h3 := Option.some.inj h1
  omega
theorem Signed.snoc {first shift : Int} {ns : List Str} {x : Str} (h : Signed first shift ns) (hx : signOf first x = some (97 + ((shift + 7 * (ns.length : Int)) % 26).toNat)) : Signed first shift (ns ++ [x]) := fun j n hn => by
  by_cases hj : j < ns.length
  · rw [List.getElem?_append_left hj] at hn
    exact h j n hn
  · rw [List.getElem?_append_right (by omega)] at hn
    have hj2 : j = ns.length := by
      have := (List.getElem?_eq_some_iff.mp hn).1
      rw [List.length_singleton] at this
      omega
    subst hj2
    rw [Nat.sub_self] at hn
    rw [← Option.some.inj hn]
    exact hx
section
variable {P : Program} {w : World} {K : PySem.W.Frag} {mg : Str → Option Value} {base : Heap}
abbrev nNames : List Str := ["_law_bag_here", "_law_many", "_law_letters", "_law_first", "_law_shift", "_law_found", "_law_k", "_law_stem", "_law_own", "_law_step"]
theorem scNames : FnScope nNames ["_law_bag_here", "_law_many"] (defScope sNames) := ⟨rfl, rfl, rfl, by decide +kernel, rfl, by decide +kernel, by decide +kernel⟩
def spNames : Sp := fun vs H Q _ => ∃ (b : Addr) (m : Nat), vs = [.ref b, .int m] ∧ BagAt H b ∧ m ≤ 20 ∧
  ∀ (l : Addr) (ns : List Str) (H' : Hp), BagAt H' b → KB b H H' → H l = none → H' l = some (.lst (ns.map V.str)) → ns.length = m → ns.Nodup → Q (.ref l) H'
theorem ok_names {f fT : Addr} {fd fdT : FuncData} (F : Fn K "_law_names" sNames f fd) (FT : Fn K "_law_take" sTake fT fdT) (bT : Binds K fdT ["_law_bag_here", "_law_many"] []) (gT : mg "_law_take" = some (.ref fT)) (mr : mg "range" = none) :
    FnOk P w K mg base CX0 2 f fd ["_law_bag_here", "_law_many"] spNames := by
  have GT : FnOk P w K mg base CX0 1 fT fdT ["_law_bag_here", "_law_many"] spTake := ok_take FT
  refine F.ok scNames (fun vs H Q E h => ?_) (fun cdv A outer s H vs Q E hr h => ?_)
  · obtain ⟨b, m, rfl, _⟩ := h
    rfl
  · obtain ⟨b, m, rfl, hb, hm, k⟩ := h
    refine ⟨_, PSs.nox (pss_cons (ps_set (i := 2) scNames.nd rfl (.inr rfl) pe_str)
      (pss_cons (ps_par (i := 3) (j := 4) (by rfl) scNames.nd rfl rfl (by decide) rfl rfl (pa_cons (pe_call GT hr (by rfl) gT FT.kp bT .nil pass0 (pa_cons (pv 0) (pa_cons pe_int pa_nil))) (pa_cons (pe_call GT hr (by rfl) gT FT.kp bT .nil pass0 (pa_cons (pv 0) (pa_cons pe_int pa_nil))) pa_nil)) (by rfl))
      (pss_cons (ps_set (i := 5) scNames.nd rfl (.inl rfl) (pe_lst pa_nil))
      (pss_cons (ps_for PassesOwn.never rfl (pi_range1 (by rfl) mr (pa_cons (pv 1) pa_nil)) (pg_name (i := 6) scNames.nd rfl (.inl rfl))
        (pss_cons (ps_set (i := 7) scNames.nd rfl (.inl rfl) (pe_join pe_str (pe_lc (own := [("_law_step", 9)]) (g := gName 9) (tt := tYes) rfl scNames.nd
            (pi_range1 (by rfl) mr (pa_cons (pe_ix ix_tup (pe_tup (pa_cons pe_int (pa_cons pe_int (pa_cons pe_int (pa_cons pe_int pa_nil))))) (pe_call GT hr (by rfl) gT FT.kp bT .nil pass0 (pa_cons (pv 0) (pa_cons pe_int pa_nil))) (fun _ _ => rfl)) pa_nil))
            (blkOk_by (N := nNames) (sc := defScope sNames) (by decide +kernel)) (fun _ _ _ _ _ => pg_name (i := 9) scNames.nd rfl (Or.inl rfl)) (fun _ _ _ _ _ => pts_nil)
            (fun _ _ _ _ _ => pe_ix ix_str (pv 2) (pe_call GT hr (by rfl) gT FT.kp bT .nil pass0 (pa_cons (pv 0) (pa_cons pe_int pa_nil))) (fun _ _ => rfl)))))
        (pss_cons (ps_set (i := 8) scNames.nd rfl (.inl rfl) (pe_ix ix_str (pv 2) (pe_op op_mod (pe_op op_add (pv 4) (pe_op op_mul pe_int (pv 6))) pe_int) (fun _ _ => rfl)))
        (pss_one (ps_expr (pe_bm PySem.F.plainAttrs_list PySem.F.slot_list_append PySem.F.type_list_append mt_append (pv 5) (pa_cons (pe_ifExp (pt_cmpR op_eq (pv 3) pe_int (nomark _)) (pe_op op_add_str (pv 8) (pv 7)) (pe_op op_add_str (pv 7) (pv 8))) pa_nil)))))))
      (pss_one (ps_ret (pv 5))))))), ?_⟩
    -- first, shift
    refine ⟨.ref b, rfl, b, 2, rfl, hb, by decide, by decide, fun first H1 f0 f1 b1 k1 => ?_⟩
    refine ⟨.ref b, rfl, b, 26, rfl, b1, by decide, by decide, fun shift H2 s0 s1 b2 k2 => ?_⟩
    refine ⟨_, _, rfl, Nat.zero_le _, fun l hl => ?_⟩
    have nbl : b ≠ l := b2.fresh hl
    have k3 : KB b H (upd H2 l (.lst [])) := (k1.trans k2).trans (.new hl)
    have nl : H l = none := k1.freeB b1 (k2.freeB b2 hl)
    refine ⟨.int m, rfl, (m : Int), rfl, by omega, by omega, for_range (lo := 0) (n := (m : Int).toNat) (fun i σ H3 => ∃ (ns : List Str) (y6 y7 y8 y9 : Option V),
        σ = [some (.ref b), some (.int m), some (.str "abcdefghijklmnopqrstuvwxyz"), some (.int first), some (.int shift), some (.ref l), y6, y7, y8, y9] ∧ BagAt H3 b ∧ KB b H H3 ∧ H3 l = some (.lst (ns.map V.str)) ∧ ns.length = i ∧ Signed first shift ns)
      ⟨[], none, none, none, none, rfl, b2.keep (same_upd hl), k3, upd_same, rfl, fun j n e => by simp at e⟩ ?_ ?_⟩
    · rintro i σ H3 hi ⟨ns, y6, y7, y8, y9, rfl, b3, kk, el, en, sg⟩
      -- the stem
      refine ⟨⟨_, rfl⟩, by show 4 ≤ sizeLine; decide, fun t ht => ?_⟩
      have b4 : BagAt (upd H3 t (.tup [.int 0, .int 1, .int 2, .int 7])) b := b3.keep (same_upd ht)
      refine ⟨.ref b, rfl, b, 4, rfl, b4, by decide, by decide, fun d H4 d0 d1 b5 k5 => ?_⟩
      have nbt : t ≠ b := (b3.fresh ht).symm
      have et : H4 t = some (.tup [.int 0, .int 1, .int 2, .int 7]) := k5 _ _ upd_same nbt
      have hz : ∃ z : Int, 0 ≤ z ∧ z ≤ 7 ∧ atI ([.int 0, .int 1, .int 2, .int 7] : List V) d = some (.int z) := by
        have h3 : d = 0 ∨ d = 1 ∨ d = 2 ∨ d = 3 := by omega
        rcases h3 with h | h | h | h <;> subst h
        · exact ⟨0, by decide, by decide, rfl⟩
        · exact ⟨1, by decide, by decide, rfl⟩
        · exact ⟨2, by decide, by decide, rfl⟩
        · exact ⟨7, by decide, by decide, rfl⟩
      obtain ⟨z, z0, z1, ez⟩ := hz
      refine ⟨t, _, d, .int z, rfl, rfl, SqT.of et, ez, z, rfl, by omega, by omega, fun D hD => ?_⟩
      have k34 : KB b H3 H4 := (KB.new ht).trans k5
      have nD3 : H3 D = none := k34.freeB b5 hD
      refine lc_range (lo := 0) (n := z.toNat) (fun j H5 => ∃ ys : List Str, H5 D = some (.lst (ys.map V.str)) ∧ (∀ y ∈ ys, y.length = 1) ∧ ys.length = j ∧ BagAt H5 b ∧ KB b H3 H5)
        ⟨[], upd_same, fun y hy => (nomatch hy), rfl, b5.keep (same_upd hD), k34.trans (.new hD)⟩ ?_ ?_
      · rintro j H5 hj ⟨ys, eD, hy, hyl, b6, k6⟩
        refine ⟨rfl, _, rfl, .ref b, rfl, b, 26, rfl, b6, by decide, by decide, fun e H6 e0 e1 b7 k7 => ?_⟩
        have nDb : D ≠ b := (b5.fresh hD).symm
        have eD6 := k7 _ _ eD nDb
        refine ⟨_, _, _, rfl, rfl, abc_len, abc_at e0 e1, ys.map V.str, eD6, ?_, ys ++ [⟨#[97 + e.toNat]⟩], ?_, ?_, ?_, ?_, ?_⟩
        · rw [List.length_map]
          exact small1000 (by omega)
        · rw [upd_same, List.map_append]
          rfl
        · intro y hy2
          rcases List.mem_append.mp hy2 with h | h
          · exact hy y h
          · rw [List.mem_singleton.mp h]
            rfl
        · rw [List.length_append, List.length_singleton, hyl]
        · obtain ⟨g, r, eb, q⟩ := b7
          exact ⟨g, r, by rw [upd_ne nDb.symm]; exact eb, q⟩
        · exact (k6.trans k7).mut nD3
      · rintro H5 ⟨ys, eD, hy, hyl, b6, k6⟩
        have el5 : H5 l = some (.lst (ns.map V.str)) := k6 _ _ el (nbl.symm)
        have hjl : (Txt.join ("" : Str) ys).length = ys.length := (join_len ys).trans (sum_ones hy)
        refine ⟨_, D, ys, rfl, rfl, .inl (SqL.of eD), ?_, ?_⟩
        · rw [sum_ones hy]
          show ys.length + ys.length * 0 ≤ 16777216
          omega
        have hs0 : 0 ≤ (shift + 7 * (0 + (i : Int))) % 26 := Int.emod_nonneg _ (by decide)
        have hs1 : (shift + 7 * (0 + (i : Int))) % 26 < 26 := Int.emod_lt_of_pos _ (by decide)
        refine ⟨_, rfl, _, rfl, _, rfl, 7, _, rfl, rfl, .inl ⟨by decide, by decide⟩, _, _, rfl, rfl, _, _, rfl, rfl, (by show (0 : Int) < 26; decide), _, _, _, rfl, rfl, abc_len, abc_at hs0 hs1, ?_⟩
        have ey : ys.length ≤ 7 := by omega
        refine ⟨.ref l, rfl, .inl ⟨rfl, _, SqL.of el5⟩, .int first, rfl, rfl, _, rfl, ite2 (fun h => ?_) (fun h => ?_)⟩
        · have hf : first = 0 := V.int.inj (of_decide_eq_true h)
          refine ⟨_, rfl, _, rfl, _, _, rfl, rfl, ?_, l, _, _, rfl, rfl, el5, ?_, ?_⟩
          · rw [hjl]
            show 1 + ys.length ≤ sizeLine
            exact Nat.le_trans (show 1 + ys.length ≤ 1000 by omega) (Nat.le_of_lt (small1000 (Nat.le_refl _)))
          · rw [List.length_map]
            exact small1000 (by omega)
          · refine ⟨ns ++ [(⟨#[97 + ((shift + 7 * (0 + (i : Int))) % 26).toNat]⟩ : Str) ++ Txt.join ("" : Str) ys], _, _, _, _, rfl, ?_, ?_, ?_, ?_, sg.snoc ?_⟩
            · obtain ⟨g, r, eb, q⟩ := b6
              exact ⟨g, r, by rw [upd_ne nbl]; exact eb, q⟩
            · exact (kk.trans k6).mut nl
            · rw [upd_same, List.map_append]
              rfl
            · rw [List.length_append, List.length_singleton, en]
            · rw [sign_first _ _ hf, en, Int.zero_add]
        · have hf : ¬ first = 0 := fun e => h (decide_eq_true (congrArg V.int e))
          refine ⟨_, rfl, _, rfl, _, _, rfl, rfl, ?_, l, _, _, rfl, rfl, el5, ?_, ?_⟩
          · rw [hjl]
            show ys.length + 1 ≤ sizeLine
            exact Nat.le_trans (show ys.length + 1 ≤ 1000 by omega) (Nat.le_of_lt (small1000 (Nat.le_refl _)))
          · rw [List.length_map]
            exact small1000 (by omega)
          · refine ⟨ns ++ [Txt.join ("" : Str) ys ++ (⟨#[97 + ((shift + 7 * (0 + (i : Int))) % 26).toNat]⟩ : Str)], _, _, _, _, rfl, ?_, ?_, ?_, ?_, sg.snoc ?_⟩
            · obtain ⟨g, r, eb, q⟩ := b6
              exact ⟨g, r, by rw [upd_ne nbl]; exact eb, q⟩
            · exact (kk.trans k6).mut nl
            · rw [upd_same, List.map_append]
              rfl
            · rw [List.length_append, List.length_singleton, en]
            · rw [sign_last _ _ hf, en, Int.zero_add]
    · rintro σ H3 ⟨ns, y6, y7, y8, y9, rfl, b3, kk, el, en, sg⟩
      have en2 : ns.length = m := by omega
      exact ⟨.ref l, rfl, k l ns H3 b3 kk nl el en2 (signed_nodup sg (by omega))⟩
end
end K47
set_option maxHeartbeats 4000000
/-! K47Net: the drawn net. -/
namespace K47
open PySem PySem.Spec PyProof.Rows L2
theorem strs_at (ns : List Str) {i : Nat} (h : i < ns.length) : ∃ z, ns[i]? = some z ∧ (ns.map V.str)[i]? = some (.str z) := ⟨ns[i], List.getElem?_eq_getElem h, by rw [List.getElem?_map, List.getElem?_eq_getElem h]; rfl⟩
theorem strs_of {ns : List Str} {i : Nat} {x : V} (h : (ns.map V.str)[i]? = some x) : ∃ z, ns[i]? = some z ∧ x = .str z := by
  rw [List.getElem?_map] at h
  cases e : ns[i]? with
  | none =>
    rw [e] at h
    cases h
  | some z =>
    rw [e] at h
    exact ⟨z, rfl, (Option.some.inj h).symm⟩
theorem map_ref {ja : List (Addr × Addr)} : (ja.map fun p => V.ref p.1) = (ja.map (·.1)).map V.ref := by
  rw [List.map_map]
  rfl
section
variable {P : Program} {w : World} {K : PySem.W.Frag} {mg : Str → Option Value} {base : Heap}
abbrev nNet : List Str := ["_law_bag_here", "_law_shape", "_law_many", "_law_lines", "_law_places", "_law_junctions", "_law_k", "_law_at", "_law_two", "_law_some", "_law_stations", "_law_line"]
theorem scNet : FnScope nNet ["_law_bag_here"] (defScope sNet) := ⟨rfl, rfl, rfl, by decide +kernel, rfl, by decide +kernel, by decide +kernel⟩
def spNet : Sp := fun vs H Q _ => ∃ (b : Addr), vs = [.ref b] ∧ BagAt H b ∧ ∀ (a : Addr) (N : Net) (H' : Hp), BagAt H' b → KB b H H' → NetAt H' a N → NetOk N → Q (.ref a) H'
theorem ok_net {f fT fN : Addr} {fd fdT fdN : FuncData} (F : Fn K "_law_net" sNet f fd) (FT : Fn K "_law_take" sTake fT fdT) (bT : Binds K fdT ["_law_bag_here", "_law_many"] []) (gT : mg "_law_take" = some (.ref fT))
    (FN : Fn K "_law_names" sNames fN fdN) (bN : Binds K fdN ["_law_bag_here", "_law_many"] []) (gN : mg "_law_names" = some (.ref fN)) (mr : mg "range" = none) (mi : mg "int" = none) (mt : mg "tuple" = none) :
    FnOk P w K mg base CX0 3 f fd ["_law_bag_here"] spNet := by
  have GT : FnOk P w K mg base CX0 1 fT fdT ["_law_bag_here", "_law_many"] spTake := ok_take FT
  have GN : FnOk P w K mg base CX0 2 fN fdN ["_law_bag_here", "_law_many"] spNames := ok_names FN FT bT gT mr
  refine F.ok scNet (fun vs H Q E h => ?_) (fun cdv A outer s H vs Q E hr h => ?_)
  · obtain ⟨b, rfl, _⟩ := h
    rfl
  · obtain ⟨b, rfl, hb, k⟩ := h
    have hr1 : Room 1 _ := hr.mono (by decide)
    refine ⟨_, PSs.nox (pss_cons (ps_set (i := 1) scNet.nd rfl (.inr rfl) (pe_call GT hr1 (by rfl) gT FT.kp bT .nil pass0 (pa_cons (pv 0) (pa_cons pe_int pa_nil))))
      (pss_cons (ps_set (i := 2) scNet.nd rfl (.inr rfl) (pe_ix ix_tup (pe_tup (pa_cons pe_int (pa_cons pe_int (pa_cons pe_int (pa_cons pe_int (pa_cons pe_int (pa_cons pe_int (pa_cons pe_int (pa_cons pe_int pa_nil)))))))))
          (pe_call GT hr1 (by rfl) gT FT.kp bT .nil pass0 (pa_cons (pv 0) (pa_cons pe_int pa_nil))) (fun _ _ => rfl)))
      (pss_cons (ps_set (i := 3) scNet.nd rfl (.inr rfl) (pe_call GN hr (by rfl) gN FN.kp bN .nil pass0 (pa_cons (pv 0) (pa_cons (pv 2) pa_nil))))
      (pss_cons (ps_set (i := 4) scNet.nd rfl (.inr rfl) (pe_call GN hr (by rfl) gN FN.kp bN .nil pass0 (pa_cons (pv 0) (pa_cons pe_int pa_nil))))
      (pss_cons (ps_set (i := 5) scNet.nd rfl (.inl rfl) (pe_lst pa_nil))
      (pss_cons (ps_for PassesOwn.never rfl (pi_range1 (by rfl) mr (pa_cons (pe_op op_mul (pe_ix ix_tup (pe_tup (pa_cons pe_int (pa_cons pe_int (pa_cons (pe_call GT hr1 (by rfl) gT FT.kp bT .nil pass0 (pa_cons (pv 0) (pa_cons pe_int pa_nil))) pa_nil))))
            (pe_call GT hr1 (by rfl) gT FT.kp bT .nil pass0 (pa_cons (pv 0) (pa_cons pe_int pa_nil))) (fun _ _ => rfl))
          (pe_callTy call_int1 (by rfl) mi PyProof.Rows.boot_int (pa_cons (pe_cmpR op_gt (pv 2) pe_int (nomark _)) pa_nil))) pa_nil)) (pg_name (i := 6) scNet.nd rfl (.inl rfl))
        (pss_cons (ps_set (i := 7) scNet.nd rfl (.inl rfl) (pe_call GT hr1 (by rfl) gT FT.kp bT .nil pass0 (pa_cons (pv 0) (pa_cons (pv 2) pa_nil))))
        (pss_cons (ps_set (i := 8) scNet.nd rfl (.inr rfl) (pe_tup (pa_cons (pe_ix ix_list (pv 3) (pv 7) (fun _ _ => rfl)) (pa_cons (pe_ix ix_list (pv 3)
            (pe_op op_mod (pe_op op_add (pe_op op_add (pv 7) pe_int) (pe_call GT hr1 (by rfl) gT FT.kp bT .nil pass0 (pa_cons (pv 0) (pa_cons (pe_op op_sub (pv 2) pe_int) pa_nil)))) (pv 2)) (fun _ _ => rfl)) pa_nil))))
        (C8.pss_cut (ps_if (PW.pt (pw_and (pt_cmpR op_eq (pv 1) pe_int (nomark _)) (pw_and1 (pt_cmpR op_lt (pv 6) (pe_op op_sub (pv 2) pe_int) (nomark _)))))
          (pss_one (ps_set (i := 8) scNet.nd rfl (.inr rfl) (pe_tup (pa_cons (pe_ix ix_list (pv 3) (pv 6) (fun _ _ => rfl)) (pa_cons (pe_ix ix_list (pv 3) (pe_op op_add (pv 6) pe_int) (fun _ _ => rfl)) pa_nil))))) pss_nil)
        (pss_cons (ps_setLc (i := 9) (own := [("_law_line", 11)]) (g := gName 11) rfl scNet.nd rfl rfl (sw_true rfl rfl rfl (by decide +kernel)) (pi_list (pv 3))
            (blkOk_by (N := nNet) (sc := defScope sNet) (by decide +kernel)) (fun _ _ _ _ _ => pg_name (i := 11) scNet.nd rfl (Or.inl rfl))
            (fun _ _ _ _ _ => pts_one (PW.pt (pw_or (pt_cmpR (r := rIn K false) op_in_seq (pv 11) (pv 8) (by rfl)) (pw_or1 (PW.pt (pw_and (pt_cmpR op_eq (pv 1) pe_int (nomark _))
              (pw_and1 (pt_cmpR op_eq (pe_call GT hr1 (by rfl) gT FT.kp bT .nil pass0 (pa_cons (pv 0) (pa_cons pe_int pa_nil))) pe_int (nomark _)))))))))
            (fun _ _ _ _ _ => pv 11))
        (pss_one (ps_expr (pe_bm PySem.F.plainAttrs_list PySem.F.slot_list_append PySem.F.type_list_append mt_append (pv 5) (pa_cons (pe_tup (pa_cons (pe_ix ix_list (pv 4) (pv 6) (fun _ _ => rfl))
          (pa_cons (pe_callTy call_tuple_of (by rfl) mt PyProof.Rows.boot_tuple (pa_cons (pv 9) pa_nil)) pa_nil))) pa_nil))))))))
      )
      (pss_cons (ps_setLc (i := 10) (own := [("_law_k", 6)]) (g := gName 6) (tt := tYes) rfl scNet.nd rfl rfl (sw_true rfl rfl rfl (by decide +kernel))
            (pi_range1 (by rfl) mr (pa_cons (pe_call GT hr1 (by rfl) gT FT.kp bT .nil pass0 (pa_cons (pv 0) (pa_cons pe_int pa_nil))) pa_nil))
            (blkOk_by (N := nNet) (sc := defScope sNet) (by decide +kernel)) (fun _ _ _ _ _ => pg_name (i := 6) scNet.nd rfl (Or.inl rfl)) (fun _ _ _ _ _ => pts_nil)
            (fun _ _ _ _ _ => pe_tup (pa_cons (pe_ix (r := rIxL K) ix_list (pv 4) (pe_op op_add pe_int (pv 6)) (fun _ _ => rfl)) (pa_cons (pe_ix (r := rIxL K) ix_list (pv 3) (pe_call GT hr1 (by rfl) gT FT.kp bT .nil pass0 (pa_cons (pv 0) (pa_cons (pv 2) pa_nil))) (fun _ _ => rfl)) pa_nil))))
      (pss_one (ps_ret (pe_tup (pa_cons (pe_callTy call_tuple_of (by rfl) mt PyProof.Rows.boot_tuple (pa_cons (pv 3) pa_nil)) (pa_cons (pe_callTy call_tuple_of (by rfl) mt PyProof.Rows.boot_tuple (pa_cons (pv 10) pa_nil))
        (pa_cons (pe_callTy call_tuple_frz (by rfl) mt PyProof.Rows.boot_tuple (pa_cons (pv 5) pa_nil)) (pa_cons (pe_tup pa_nil) pa_nil)))))))))))))), ?_⟩
    -- shape
    refine ⟨.ref b, rfl, b, 3, rfl, hb, by decide, by decide, fun shape H1 _ _ b1 k1 => ?_⟩
    -- many
    refine ⟨by show 8 ≤ sizeLine; decide, fun t ht => ?_⟩
    have b1' := b1.keep (same_upd (o := .tup [.int 8, .int 3, .int 5, .int 2, .int 4, .int 6, .int 7, .int 1]) ht)
    refine ⟨.ref b, rfl, b, 8, rfl, b1', by decide, by decide, fun d H2 d0 d1 b2 k2 => ?_⟩
    have nbt : t ≠ b := (b1.fresh ht).symm
    have et := k2 _ _ upd_same nbt
    have hz : ∃ m : Nat, 1 ≤ m ∧ m ≤ 8 ∧ atI ([.int 8, .int 3, .int 5, .int 2, .int 4, .int 6, .int 7, .int 1] : List V) d = some (.int m) := by
      have h3 : d = 0 ∨ d = 1 ∨ d = 2 ∨ d = 3 ∨ d = 4 ∨ d = 5 ∨ d = 6 ∨ d = 7 := by omega
      rcases h3 with h | h | h | h | h | h | h | h <;> subst h
      · exact ⟨8, by decide, by decide, rfl⟩
      · exact ⟨3, by decide, by decide, rfl⟩
      · exact ⟨5, by decide, by decide, rfl⟩
      · exact ⟨2, by decide, by decide, rfl⟩
      · exact ⟨4, by decide, by decide, rfl⟩
      · exact ⟨6, by decide, by decide, rfl⟩
      · exact ⟨7, by decide, by decide, rfl⟩
      · exact ⟨1, by decide, by decide, rfl⟩
    obtain ⟨m, m0, m1, em⟩ := hz
    have kk2 : KB b H H2 := (k1.trans (.new ht)).trans k2
    refine ⟨t, _, d, .int m, rfl, rfl, SqT.of et, em, ?_⟩
    -- lines
    refine ⟨.ref b, rfl, .int m, rfl, b, m, rfl, b2, by omega, fun ll lns H3 b3 k3 fl el ln _ => ?_⟩
    have nll : ll ≠ b := (b2.fresh fl).symm
    -- places
    refine ⟨.ref b, rfl, b, 14, rfl, b3, by decide, fun lp pls H4 b4 k4 fp ep lnp ndp => ?_⟩
    have nlp : lp ≠ b := (b3.fresh fp).symm
    have el4 := k4 _ _ el nll
    have kk4 : KB b H H4 := (kk2.trans k3).trans k4
    -- junctions
    refine ⟨Nat.zero_le _, fun lj fj => ?_⟩
    have nlj : lj ≠ b := (b4.fresh fj).symm
    have fjH : H lj = none := kk4.freeB b4 fj
    have s5 : Same H4 (upd H4 lj (.lst [])) := same_upd fj
    have b5 : BagAt (upd H4 lj (.lst [])) b := b4.keep s5
    have kk5 : KB b H (upd H4 lj (.lst [])) := kk4.trans (.new fj)
    have el5 := s5 _ _ el4
    have ep5 := s5 _ _ ep
    have ej5 : (upd H4 lj (.lst [])) lj = some (.lst []) := upd_same
    generalize upd H4 lj (.lst []) = H5 at b5 kk5 el5 ep5 ej5
    -- how many
    refine ⟨.ref b, rfl, b, 13, rfl, b5, by decide, by decide, fun d1' H6 e0 e1 b6 k6 => ?_⟩
    refine ⟨by show 3 ≤ sizeLine; decide, fun t2 ht2 => ?_⟩
    have b6' := b6.keep (same_upd (o := .tup [.int 12, .int 7, .int d1']) ht2)
    refine ⟨.ref b, rfl, b, 3, rfl, b6', by decide, by decide, fun d2 H7 g0 g1 b7 k7 => ?_⟩
    have nbt2 : t2 ≠ b := (b6.fresh ht2).symm
    have et2 := k7 _ _ upd_same nbt2
    have hz2 : ∃ z : Int, 0 ≤ z ∧ z ≤ 12 ∧ atI ([.int 12, .int 7, .int d1'] : List V) d2 = some (.int z) := by
      have h3 : d2 = 0 ∨ d2 = 1 ∨ d2 = 2 := by omega
      rcases h3 with h | h | h <;> subst h
      · exact ⟨12, by decide, by decide, rfl⟩
      · exact ⟨7, by decide, by decide, rfl⟩
      · exact ⟨d1', e0, by omega, rfl⟩
    obtain ⟨z, z0, z1, ez⟩ := hz2
    have kk7 : KB b H5 H7 := (k6.trans (.new ht2)).trans k7
    refine ⟨t2, _, d2, .int z, rfl, rfl, SqT.of et2, ez, .int m, rfl, (m : Int), 1, rfl, rfl, .inr ⟨_, rfl, ?_⟩⟩
    have hw : ∃ n : Nat, n ≤ 12 ∧ (0 < n → 1 < m) ∧ z * (if (decide ((1 : Int) < (m : Int))) = true then 1 else 0) = (n : Int) := by
      by_cases hm : (1 : Int) < (m : Int)
      · refine ⟨z.toNat, by omega, fun _ => by omega, ?_⟩
        rw [decide_eq_true hm, if_pos rfl]
        omega
      · refine ⟨0, by omega, fun h => absurd h (by omega), ?_⟩
        rw [decide_eq_false hm, if_neg (by decide)]
        omega
    obtain ⟨n, n1, n2, en⟩ := hw
    refine ⟨z, _, rfl, rfl, .inl ⟨by omega, by omega⟩, (n : Int), ?_, by omega, by omega, ?_⟩
    · show [V.int (z * (if (decide ((1 : Int) < (m : Int))) = true then 1 else 0))] = [V.int (n : Int)]
      rw [en]
    have el7 := kk7 _ _ el5 nll
    have ep7 := kk7 _ _ ep5 nlp
    have ej7 := kk7 _ _ ej5 nlj
    have kH7 : KB b H H7 := kk5.trans kk7
    refine for_range (lo := 0) (n := (n : Int).toNat) (fun i σ H8 => ∃ (ja : List (Addr × Addr)) (js : List (Str × List Str)) (y6 y7 y8 y9 y10 y11 : Option V),
        σ = [some (.ref b), some (.int shape), some (.int m), some (.ref ll), some (.ref lp), some (.ref lj), y6, y7, y8, y9, y10, y11] ∧ BagAt H8 b ∧ KB b H H8 ∧ H8 ll = some (.lst (lns.map V.str)) ∧ H8 lp = some (.lst (pls.map V.str)) ∧
        H8 lj = some (.lst (ja.map fun p => V.ref p.1)) ∧ Paired (JAt H8) ja js ∧ js.map (·.1) = pls.take i ∧ ∀ j ∈ js, j.2.length ≤ 8 ∧ ∀ x ∈ j.2, x ∈ lns)
      ⟨[], [], none, none, none, none, none, none, rfl, b7, kH7, el7, ep7, ej7, .nil, rfl, fun j hj => (nomatch hj)⟩ ?_ ?_
    · rintro i σ H8 hi ⟨ja, js, y6, y7, y8, y9, y10, y11, rfl, b8, kH8, el8, ep8, ej8, pj, ejs, sub⟩
      have hm1 : 1 < m := n2 (by omega)
      have hi2 : i < 12 := by omega
      have lja : ja.length = i := by
        have h1 := paired_len pj
        have h2 : (js.map (·.1)).length = (pls.take i).length := by rw [ejs]
        rw [List.length_map, List.length_take, lnp] at h2
        omega
      -- at
      refine ⟨.ref b, rfl, .int m, rfl, b, m, rfl, b8, by omega, by omega, fun at_ H9 a0 a1 b9 k9 => ?_⟩
      have el9 := k9 _ _ el8 nll
      obtain ⟨x, _, hx⟩ := strs_at lns (i := at_.toNat) (by omega)
      refine ⟨.ref ll, rfl, .int at_, rfl, ll, _, at_, .str x, rfl, rfl, SqL.of el9, at_of (j := at_.toNat) (by omega) hx, ?_⟩
      refine ⟨.ref ll, rfl, .int at_, rfl, at_, 1, rfl, rfl, .ref b, rfl, .int m, rfl, (m : Int), 1, rfl, rfl, b, (m : Int) - 1, rfl, b9, by omega, by omega, fun e H10 _ _ b10 k10 => ?_⟩
      have el10 := k10 _ _ el9 nll
      have o0 := Int.emod_nonneg (at_ + 1 + e) (show (m : Int) ≠ 0 by omega)
      have o1 := Int.emod_lt_of_pos (at_ + 1 + e) (show (0 : Int) < (m : Int) by omega)
      obtain ⟨y, _, hy⟩ := strs_at lns (i := ((at_ + 1 + e) % (m : Int)).toNat) (by omega)
      refine ⟨_, _, rfl, rfl, .int m, rfl, _, (m : Int), rfl, rfl, (by show (0 : Int) < (m : Int); omega), ll, _, _, .str y, rfl, rfl, SqL.of el10, at_of (j := ((at_ + 1 + e) % (m : Int)).toNat) (by omega) hy, by show 2 ≤ sizeLine; decide, fun t3 ht3 => ?_⟩
      have kk11 : KB b H8 (upd H10 t3 (.tup [.str x, .str y])) := (k9.trans k10).trans (.new ht3)
      have b11 : BagAt (upd H10 t3 (.tup [.str x, .str y])) b := b10.keep (same_upd ht3)
      -- two, where the lines stand in a chain
      refine ⟨fun σ' H' => ∃ (t : Addr) (x y : Str), σ' = [some (.ref b), some (.int shape), some (.int m), some (.ref ll), some (.ref lp), some (.ref lj), some (.int (0 + (i : Int))), some (.int at_), some (.ref t), y9, y10, y11] ∧ BagAt H' b ∧ KB b H8 H' ∧ H' t = some (.tup [.str x, .str y]), ?_, ?_⟩
      · refine ⟨.int shape, rfl, rfl, _, rfl, ite2 (fun h => ?_) (fun h => ?_)⟩
        · refine ⟨_, rfl, .int m, rfl, (m : Int), 1, rfl, rfl, _, _, rfl, rfl, _, rfl, ite2 (fun h => ?_) (fun h => ?_)⟩
          · have hlt : 0 + (i : Int) < (m : Int) - 1 := of_decide_eq_true h
            have el11 := kk11 _ _ el8 nll
            obtain ⟨x2, _, hx2⟩ := strs_at lns (i := i) (by omega)
            obtain ⟨y2, _, hy2⟩ := strs_at lns (i := i + 1) (by omega)
            refine ⟨.ref ll, rfl, _, rfl, ll, _, _, .str x2, rfl, rfl, SqL.of el11, at_of (j := i) (by omega) hx2, .ref ll, rfl, _, rfl, _, 1, rfl, rfl, ll, _, _, .str y2, rfl, rfl, SqL.of el11, at_of (j := i + 1) (by omega) hy2, by show 2 ≤ sizeLine; decide, fun t4 ht4 => ?_⟩
            exact ⟨t4, x2, y2, rfl, b11.keep (same_upd ht4), kk11.trans (.new ht4), upd_same⟩
          · exact ⟨t3, x, y, rfl, b11, kk11, upd_same⟩
        · exact iteF ⟨t3, x, y, rfl, b11, kk11, upd_same⟩
      rintro σ' H12 ⟨t5, x5, y5, rfl, b12, kk12, et5⟩
      have el12 := kk12 _ _ el8 nll
      have nt5 : t5 ≠ b := b12.ne et5 fun g r z => (nomatch z)
      -- some
      refine ⟨.ref ll, rfl, ll, rfl, ⟨_, SqL.of el12⟩, fun D hD => ?_⟩
      have nD : D ≠ b := (b12.fresh hD).symm
      have fD8 : H8 D = none := kk12.freeB b12 hD
      refine lc_list (K := K) (a := ll) (xs := lns.map V.str) (fun j H13 => ∃ ys : List Str, H13 D = some (.lst (ys.map V.str)) ∧ (∀ y ∈ ys, y ∈ lns) ∧ ys.length ≤ j ∧ BagAt H13 b ∧ KB b H8 H13 ∧ H13 t5 = some (.tup [.str x5, .str y5]))
        ⟨[], upd_same, fun y hy => (nomatch hy), Nat.zero_le _, b12.keep (same_upd hD), kk12.trans (.new hD), same_upd hD _ _ et5⟩ (fun j H13 _ ⟨ys, _, _, _, _, k13, _⟩ => SqL.of (k13 _ _ el8 nll)) ?_ ?_
      · rintro j v H13 hv ⟨ys, eD, hys, lys, b13, k13, et13⟩
        obtain ⟨ln1, hln1, rfl⟩ := strs_of hv
        have hjl : j < lns.length := (List.getElem?_eq_some_iff.mp hln1).1
        have hmem : ln1 ∈ lns := List.mem_of_getElem? hln1
        -- a kept line
        have yes : ∀ H14, BagAt H14 b → KB b H13 H14 → ∃ acc, H14 D = some (.lst acc) ∧ acc.length < sizeLine ∧ ∃ ys : List Str, (upd H14 D (.lst (acc ++ [V.str ln1]))) D = some (.lst (ys.map V.str)) ∧ (∀ y ∈ ys, y ∈ lns) ∧ ys.length ≤ j + 1 ∧ BagAt (upd H14 D (.lst (acc ++ [V.str ln1]))) b ∧
            KB b H8 (upd H14 D (.lst (acc ++ [V.str ln1]))) ∧ (upd H14 D (.lst (acc ++ [V.str ln1]))) t5 = some (.tup [.str x5, .str y5]) := fun H14 b14 k14 => by
          have eD14 := k14 _ _ eD nD
          have ntD : t5 ≠ D := ne_of et13 eD (fun z => nomatch z)
          refine ⟨_, eD14, ?_, ys ++ [ln1], ?_, fun y hy => ?_, ?_, b14.upd nD.symm, (k13.trans k14).mut fD8, ?_⟩
          · rw [List.length_map]
            exact small1000 (by omega)
          · rw [upd_same, List.map_append]
            rfl
          · rcases List.mem_append.mp hy with h | h
            · exact hys y h
            · rw [List.mem_singleton.mp h]
              exact hmem
          · rw [List.length_append, List.length_singleton]
            omega
          · rw [upd_ne ntD]
            exact k14 _ _ et13 nt5
        refine ⟨rfl, _, rfl, .ref t5, rfl, t5, _, rfl, .inr (SqT.of et13), rfl, rfl, _, rfl, ite2 (fun h => ?_) (fun h => ?_)⟩
        · exact ⟨_, rfl, yes H13 b13 (.refl _ _)⟩
        · refine ⟨.int shape, rfl, rfl, _, rfl, ite2 (fun h => ?_) (fun h => ?_)⟩
          · refine ⟨.ref b, rfl, b, 6, rfl, b13, by decide, by decide, fun e2 H14 _ _ b14 k14 => ⟨rfl, _, rfl, ite2 (fun h => ?_) (fun h => ?_)⟩⟩
            · exact ⟨_, rfl, yes H14 b14 k14⟩
            · exact ⟨ys, k14 _ _ eD nD, hys, by omega, b14, k13.trans k14, k14 _ _ et13 nt5⟩
          · exact iteF ⟨ys, eD, hys, by omega, b13, k13, et13⟩
      · rintro H13 ⟨ys, eD, hys, lys, b13, k13, _⟩
        rw [List.length_map] at lys
        have ep13 := k13 _ _ ep8 nlp
        have ej13 := k13 _ _ ej8 nlj
        obtain ⟨nm, hnm, hnmV⟩ := strs_at pls (i := i) (by omega)
        refine ⟨.ref lj, rfl, .inl ⟨rfl, _, SqL.of ej13⟩, .ref lp, rfl, _, rfl, lp, _, _, .str nm, rfl, rfl, SqL.of ep13, at_of (j := i) (by omega) hnmV, .ref D, rfl, D, _, rfl, .inl ⟨SqL.of eD, fun q hq => ?_⟩⟩
        refine ⟨by show 2 ≤ sizeLine; decide, fun p hp => ?_⟩
        have sq : Same H13 (upd H13 q (.tup (ys.map V.str))) := same_upd hq
        have sp := same_upd (o := HO.tup [V.str nm, .ref q]) hp
        have s14 := sq.trans sp
        have ej14 := s14 _ _ ej13
        refine ⟨lj, _, _, rfl, rfl, ej14, ?_, ?_⟩
        · rw [List.length_map]
          exact small1000 (by omega)
        have b14 : BagAt (upd (upd H13 q (.tup (ys.map V.str))) p (.tup [V.str nm, .ref q])) b := b13.keep s14
        have tk : TK H8 (upd (upd H13 q (.tup (ys.map V.str))) p (.tup [V.str nm, .ref q])) := (k13.tk b8).trans (TK.of s14)
        have eq14 : (upd (upd H13 q (.tup (ys.map V.str))) p (.tup [V.str nm, .ref q])) q = some (.tup (ys.map V.str)) := sp _ _ upd_same
        have k14 : KB b H (upd (upd H13 q (.tup (ys.map V.str))) p (.tup [V.str nm, .ref q])) := (kH8.trans k13).trans (.of s14)
        have el14 := s14 _ _ (k13 _ _ el8 nll)
        have ep14 := s14 _ _ ep13
        generalize hgen : upd (upd H13 q (.tup (ys.map V.str))) p (.tup [V.str nm, .ref q]) = H14 at *
        have ep15 : H14 p = some (.tup [V.str nm, .ref q]) := by
          rw [← hgen]
          exact upd_same
        have tk2 : TK H14 (upd H14 lj (.lst ((ja.map fun p => V.ref p.1) ++ [V.ref p]))) := TK.write ej14 .lst
        have nllj : ll ≠ lj := fun z => by
          have h1 : H lj ≠ none := by
            rw [← z]
            intro h2
            exact absurd (show H4 lj = some (.lst (lns.map V.str)) by rw [← z]; exact el4) (by rw [fj]; intro h; cases h)
          exact h1 fjH
        have nlpj : lp ≠ lj := fun z => absurd (show H4 lj = some (.lst (pls.map V.str)) by rw [← z]; exact ep) (by rw [fj]; intro h; cases h)
        refine ⟨ja ++ [(p, q)], js ++ [(nm, ys)], _, _, _, _, _, _, rfl, b14.upd nlj.symm, k14.mut fjH, ?_, ?_, ?_, ?_, ?_, ?_⟩
        · rw [upd_ne nllj]
          exact el14
        · rw [upd_ne nlpj]
          exact ep14
        · rw [upd_same, List.map_append]
          rfl
        · exact (Paired.mapP pj fun _ _ h => h.keep (tk.trans tk2)).snoc ⟨tk2.t _ _ ep15, tk2.t _ _ eq14⟩
        · rw [List.map_append, ejs, take_snoc hnm]
          rfl
        · intro j' hj'
          rcases List.mem_append.mp hj' with h | h
          · exact sub j' h
          · rw [List.mem_singleton.mp h]
            exact ⟨by show ys.length ≤ 8; omega, hys⟩
    · rintro σ H8 ⟨ja, js, y6, y7, y8, y9, y10, y11, rfl, b8, kH8, el8, ep8, ej8, pj, ejs, sub⟩
      have ljs : js.length ≤ 12 := by
        have h2 : (js.map (·.1)).length = (pls.take (n : Int).toNat).length := by rw [ejs]
        rw [List.length_map, List.length_take, lnp] at h2
        omega
      -- stations
      refine ⟨.ref b, rfl, b, 3, rfl, b8, by decide, by decide, fun d3 H9 p0 p1 b9 k9 => ⟨d3, rfl, by omega, by omega, fun D hD => ?_⟩⟩
      have fD8 : H8 D = none := k9.freeB b9 hD
      have nD : D ≠ b := (b9.fresh hD).symm
      refine lc_range (lo := 0) (n := d3.toNat) (fun j H10 => ∃ (sa : List Addr) (ss : List (Str × Str)), H10 D = some (.lst (sa.map V.ref)) ∧ Paired (SAt H10) sa ss ∧ ss.length = j ∧ BagAt H10 b ∧ KB b H8 H10)
        ⟨[], [], upd_same, .nil, rfl, b9.keep (same_upd hD), k9.trans (.new hD)⟩ ?_ ?_
      · rintro j H10 hj ⟨sa, ss, eD, ps, ls, b10, k10⟩
        have ep10 := k10 _ _ ep8 nlp
        obtain ⟨nm, hnm, hnmV⟩ := strs_at pls (i := 12 + j) (by omega)
        refine ⟨rfl, .ref lp, rfl, _, rfl, _, _, rfl, rfl, lp, _, _, .str nm, rfl, rfl, SqL.of ep10, at_of (j := 12 + j) (by omega) hnmV, .ref ll, rfl, .ref b, rfl, .int m, rfl, b, (m : Int), rfl, b10, by omega, by omega, fun e4 H11 q0 q1 b11 k11 => ?_⟩
        have k11' := k10.trans k11
        have el11 := k11' _ _ el8 nll
        obtain ⟨ln2, _, hln2⟩ := strs_at lns (i := e4.toNat) (by omega)
        refine ⟨ll, _, _, .str ln2, rfl, rfl, SqL.of el11, at_of (j := e4.toNat) (by omega) hln2, by show 2 ≤ sizeLine; decide, fun p hp => ?_⟩
        have sp := same_upd (o := HO.tup [V.str nm, .str ln2]) hp
        have eD11 := k11 _ _ eD nD
        have npD : p ≠ D := (ne_of_none eD11 hp).symm
        refine ⟨_, sp _ _ eD11, ?_, sa ++ [p], ss ++ [(nm, ln2)], ?_, ?_, ?_, (b11.keep sp).upd nD.symm, (k11'.trans (.of sp)).mut fD8⟩
        · rw [List.length_map]
          have := paired_len ps
          exact small1000 (by omega)
        · rw [upd_same, List.map_append]
          rfl
        · have tk2 : TK (upd H11 p (.tup [V.str nm, .str ln2])) (upd (upd H11 p (.tup [V.str nm, .str ln2])) D (.lst (sa.map V.ref ++ [V.ref p]))) := TK.write (sp _ _ eD11) .lst
          exact (Paired.mapP ps fun _ _ h => h.keep (((k11.tk b10).trans (TK.of sp)).trans tk2)).snoc (tk2.t _ _ upd_same)
        · rw [List.length_append, List.length_singleton, ls]
      · rintro H10 ⟨sa, ss, eD, ps, ls, b10, k10⟩
        have el10 := k10 _ _ el8 nll
        have ej10 := k10 _ _ ej8 nlj
        -- the net
        refine ⟨.ref ll, rfl, ll, _, rfl, .inl ⟨SqL.of el10, fun a1 f1 => ?_⟩⟩
        have s1 := same_upd (o := HO.tup (lns.map V.str)) f1
        have e1 : (upd H10 a1 (.tup (lns.map V.str))) a1 = some (.tup (lns.map V.str)) := upd_same
        generalize upd H10 a1 (.tup (lns.map V.str)) = G1 at s1 e1
        refine ⟨.ref D, rfl, D, _, rfl, .inl ⟨SqL.of (s1 _ _ eD), fun a2 f2 => ?_⟩⟩
        have s2 := same_upd (o := HO.tup (sa.map V.ref)) f2
        have e2 : (upd G1 a2 (.tup (sa.map V.ref))) a2 = some (.tup (sa.map V.ref)) := upd_same
        generalize upd G1 a2 (.tup (sa.map V.ref)) = G2 at s2 e2
        refine ⟨.ref lj, rfl, lj, _, rfl, SqL.of (s2 _ _ (s1 _ _ ej10)), fun a3 o3 f3 od3 => ?_⟩
        have s3 := same_upd (o := HO.frz o3 (.tup (ja.map fun p => V.ref p.1))) f3
        have e3 : (upd G2 a3 (.frz o3 (.tup (ja.map fun p => V.ref p.1)))) a3 = some (.frz o3 (.tup (ja.map fun p => V.ref p.1))) := upd_same
        generalize upd G2 a3 (.frz o3 (.tup (ja.map fun p => V.ref p.1))) = G3 at s3 e3
        refine ⟨Nat.zero_le _, fun a4 f4 => ?_⟩
        have s4 := same_upd (o := HO.tup []) f4
        generalize upd G3 a4 (.tup []) = G4 at s4
        refine ⟨by show 4 ≤ sizeLine; decide, fun a5 f5 => ?_⟩
        have s5 := same_upd (o := HO.tup [.ref a1, .ref a2, .ref a3, .ref a4]) f5
        have e5 : (upd G4 a5 (.tup [.ref a1, .ref a2, .ref a3, .ref a4])) a5 = some (.tup [.ref a1, .ref a2, .ref a3, .ref a4]) := upd_same
        have sall := ((s1.trans s2).trans s3).trans (s4.trans s5)
        refine k a5 ⟨lns, ss, js⟩ _ (b10.keep sall) ((kH8.trans k10).trans (.of sall)) ⟨a1, a2, a3, a4, sa, ja, e5, ?_, ?_, Paired.mapP ps fun _ _ h => h.keep (TK.of sall), ?_, Paired.mapP pj fun _ _ h => h.keep ((k10.tk b8).trans (TK.of sall))⟩ ?_
        · exact s5 _ _ (s4 _ _ (s3 _ _ (s2 _ _ e1)))
        · exact s5 _ _ (s4 _ _ (s3 _ _ e2))
        · exact ⟨o3, s5 _ _ (s4 _ _ e3), od3⟩
        · refine ⟨by show 1 ≤ lns.length; omega, by show lns.length ≤ 8; omega, by show ss.length ≤ 2; omega, ljs, ?_, sub⟩
          show (js.map (·.1)).Nodup
          rw [ejs]
          exact ndp.sublist (List.take_sublist _ _)
end
end K47
set_option maxHeartbeats 4000000
/-! K47On: a return by the first junction of two lines; the lines by which a wagon goes out. -/
namespace K47
open PySem PySem.Spec PyProof.Rows L2
/-- a return: its number, day, junction, line over, load -/
structure Ret where
  num : Int
  day : Int
  jn : Str
  over : Str
  load : Str
def retV (r : Ret) : List V := [.str "return", .int r.num, .int 1, .str r.jn, .int r.day, .int 12, .int 8, .str r.over, .str r.load, .str "whole"]
def RetAt (H : Hp) (p : Addr) (r : Ret) : Prop := H p = some (.tup (retV r))
theorem RetAt.keep {H H' : Hp} {p : Addr} {r : Ret} (h : RetAt H p r) (s : TK H H') : RetAt H' p r := s.t _ _ h
/-- at the junction named jn a wagon can go over from x to y -/
def By (N : Net) (jn x y : Str) : Prop := x ≠ y ∧ ∃ ls, (jn, ls) ∈ N.juncs ∧ x ∈ ls ∧ y ∈ ls
section
variable {P : Program} {w : World} {K : PySem.W.Frag} {mg : Str → Option Value} {base : Heap}
abbrev nOn : List Str := ["_law_net_here", "_law_at", "_law_over", "_law_day", "_law_load", "_law_some", "_law_place", "_law_lines"]
theorem scOn : FnScope nOn ["_law_net_here", "_law_at", "_law_over", "_law_day", "_law_load"] (defScope sOn) := ⟨rfl, rfl, rfl, by decide +kernel, rfl, by decide +kernel, by decide +kernel⟩
def spOn : Sp := fun vs H Q _ => ∃ (a : Addr) (x y : Str) (day : Int) (load : Str) (N : Net), vs = [.ref a, .str x, .str y, .int day, .str load] ∧ NetAt H a N ∧ NetOk N ∧
  ∀ (v : V) (H' : Hp), Same H H' → ((v = .non ∧ ¬ Linked N x y) ∨ ∃ p jn, v = .ref p ∧ H p = none ∧ By N jn x y ∧ RetAt H' p ⟨10 + 3 * day, day, jn, y, load⟩) → Q v H'
theorem ok_on {f : Addr} {fd : FuncData} (F : Fn K "_law_on" sOn f fd) : FnOk P w K mg base CX0 1 f fd ["_law_net_here", "_law_at", "_law_over", "_law_day", "_law_load"] spOn := by
  refine F.ok scOn (fun vs H Q E h => ?_) (fun cdv A outer s H vs Q E hr h => ?_)
  · obtain ⟨a, x, y, day, load, N, rfl, _⟩ := h
    rfl
  · obtain ⟨a, x, y, day, load, N, rfl, hN, ok, k⟩ := h
    refine ⟨_, PSs.nox (pss_cons (ps_setLc (i := 5) (own := [("_law_place", 6), ("_law_lines", 7)]) (g := gTup K 2 (gCons (gName 6) (gCons (gName 7) gNil))) rfl scOn.nd rfl rfl (sw_true rfl rfl rfl (by decide +kernel)) (pi_tup (pe_ix ix_tup (pv 0) pe_int (fun _ _ => rfl)))
          (blkOk_by (N := nOn) (sc := defScope sOn) (by decide +kernel)) (fun _ _ _ _ _ => pg_tup rfl (pgs_cons (pg_name (i := 6) scOn.nd rfl (Or.inl rfl)) (pgs_cons (pg_name (i := 7) scOn.nd rfl (Or.inl rfl)) pgs_nil)))
          (fun _ _ _ _ _ => pts_one (PW.pt (pw_and (pt_cmpR (r := rIn K false) op_in_seq (pv 1) (pv 7) (by rfl)) (pw_and (pt_cmpR (r := rIn K false) op_in_seq (pv 2) (pv 7) (by rfl)) (pw_and1 (pt_cmpR op_ne (pv 1) (pv 2) (nomark _)))))))
          (fun _ _ _ _ _ => pv 6))
      (pss_cons (ps_if (pt_cmpR (op_eqN hr.units) (pv 5) (pe_lst pa_nil) (nomark _)) (pss_one (ps_ret pe_non)) pss_nil)
      (pss_one (ps_ret (pe_tup (pa_cons pe_str (pa_cons (pe_op op_add pe_int (pe_op op_mul pe_int (pv 3))) (pa_cons pe_int (pa_cons (pe_ix ix_list (pv 5) pe_int (fun _ _ => rfl)) (pa_cons (pv 3) (pa_cons pe_int (pa_cons pe_int (pa_cons (pv 2) (pa_cons (pv 4) (pa_cons pe_str pa_nil)))))))))))))))
      , ?_⟩
    obtain ⟨l, st, j, t, sa, ja, hI⟩ := id hN
    refine ⟨.ref a, rfl, a, _, 2, .ref j, rfl, rfl, SqT.of hI.top, rfl, j, rfl, ⟨_, hI.sj⟩, fun D hD => ?_⟩
    refine lc_tup (K := K) (a := j) (xs := ja.map fun p => V.ref p.1) (fun i H1 => ∃ ys : List Str, H1 D = some (.lst (ys.map V.str)) ∧ Same H H1 ∧ ys.length ≤ i ∧ (∀ z ∈ ys, By N z x y) ∧ ∀ j', j' < i → ∀ q ls, N.juncs[j']? = some (q, ls) → x ≠ y → x ∈ ls → y ∈ ls → ys ≠ [])
      ⟨[], upd_same, same_upd hD, Nat.le_refl _, fun z hz => (nomatch hz), fun j' hj => absurd hj (Nat.not_lt_zero _)⟩ (fun i H1 _ ⟨_, _, s1, _⟩ => let ⟨o, e, _⟩ := hI.jn; .inl (.inr ⟨o, s1 _ _ e⟩)) ?_ ?_
    · rintro i v H1 hv ⟨ys, eD, s1, ly, hy, hall⟩
      rw [List.getElem?_map] at hv
      cases hq : ja[i]? with
      | none =>
        rw [hq] at hv
        cases hv
      | some q =>
      rw [hq] at hv
      obtain rfl : V.ref q.1 = v := Option.some.inj hv
      obtain ⟨⟨nm, ls⟩, hj, h1, h2⟩ := paired_at hI.jp hq
      have li : i < 12 := Nat.lt_of_lt_of_le (List.getElem?_eq_some_iff.mp hj).1 ok.j1
      have e1 := s1 _ _ h1
      have e2 := s1 _ _ h2
      -- the next turn, where this junction isn't taken
      have no : (¬ (x ≠ y ∧ x ∈ ls ∧ y ∈ ls)) → ∃ ys : List Str, H1 D = some (.lst (ys.map V.str)) ∧ Same H H1 ∧ ys.length ≤ i + 1 ∧ (∀ z ∈ ys, By N z x y) ∧ ∀ j', j' < i + 1 → ∀ q ls, N.juncs[j']? = some (q, ls) → x ≠ y → x ∈ ls → y ∈ ls → ys ≠ [] := fun hno => by
        refine ⟨ys, eD, s1, by omega, hy, fun j' hj' q' ls' hq' n1 n2 n3 => ?_⟩
        by_cases hji : j' < i
        · exact hall j' hji q' ls' hq' n1 n2 n3
        · have e : j' = i := by omega
          subst e
          rw [hj] at hq'
          cases hq'
          exact absurd ⟨n1, n2, n3⟩ hno
      refine ⟨q.1, _, rfl, SqT.of e1, rfl, .str nm, _, rfl, .ref q.2, [], rfl, rfl, rfl, ?_⟩
      refine ⟨.str x, rfl, .ref q.2, rfl, q.2, _, rfl, .inr (SqT.of e2), rfl, flat_strs ls, _, rfl, ite2 (fun h => ?_) (fun h => ?_)⟩
      · have hx : x ∈ ls := of_decide_eq_true ((inV_strs x ls).symm.trans h)
        refine ⟨.str y, rfl, .ref q.2, rfl, q.2, _, rfl, .inr (SqT.of e2), rfl, flat_strs ls, _, rfl, ite2 (fun h => ?_) (fun h => ?_)⟩
        · have hyy : y ∈ ls := of_decide_eq_true ((inV_strs y ls).symm.trans h)
          refine ⟨.str x, rfl, .str y, rfl, rfl, _, rfl, ite2 (fun h => ?_) (fun h => ?_)⟩
          · have hne : x ≠ y := fun e => by
              subst e
              rw [decide_eq_true rfl] at h
              cases h
            refine ⟨.str nm, rfl, _, eD, ?_, ys ++ [nm], ?_, same_mut s1 hD, ?_, ?_, ?_⟩
            · rw [List.length_map]
              exact small1000 (by omega)
            · rw [upd_same, List.map_append]
              rfl
            · rw [List.length_append, List.length_singleton]
              omega
            · intro z hz
              rcases List.mem_append.mp hz with h | h
              · exact hy z h
              · rw [List.mem_singleton.mp h]
                exact ⟨hne, ls, List.mem_of_getElem? hj, hx, hyy⟩
            · intro j' _ q' ls' _ _ _ _ e
              have := congrArg List.length e
              rw [List.length_append, List.length_singleton] at this
              cases this
          · refine no fun ⟨n1, _, _⟩ => h ?_
            rw [decide_eq_false (fun e => n1 (V.str.inj e))]
            rfl
        · refine iteF (no fun ⟨_, _, n3⟩ => h ?_)
          exact (inV_strs y ls).trans (decide_eq_true n3)
      · refine iteF (no fun ⟨_, n2, _⟩ => h ?_)
        exact (inV_strs x ls).trans (decide_eq_true n2)
    · rintro H1 ⟨ys, eD, s1, ly, hy, hall⟩
      have lj := paired_len hI.jp
      refine ⟨.ref D, rfl, Nat.zero_le _, fun e he => ⟨D, e, _, rfl, rfl, SqL.of (same_upd he _ _ eD), SqL.of upd_same, _, rfl, ite2 (fun h => ?_) (fun h => ?_)⟩⟩
      · refine k .non _ (s1.trans (same_upd he)) (.inl ⟨rfl, fun ⟨n1, ⟨q, ls⟩, hm, n2, n3⟩ => ?_⟩)
        obtain ⟨i, hi, hi2⟩ := List.mem_iff_getElem.mp hm
        refine hall i (by rw [List.length_map]; omega) q ls (by rw [List.getElem?_eq_getElem hi, hi2]) n1 n2 n3 ?_
        cases ys with
        | nil => rfl
        | cons z r => cases h
      · obtain ⟨z, r, rfl⟩ : ∃ z r, ys = z :: r := by
          cases ys with
          | nil => exact absurd rfl h
          | cons z r => exact ⟨z, r, rfl⟩
        have s2 := s1.trans (same_upd (o := HO.lst []) he)
        refine ⟨.int day, rfl, 3, day, rfl, rfl, .inl ⟨by decide, by decide⟩, 10, _, rfl, rfl, .ref D, rfl, D, _, 0, .str z, rfl, rfl, SqL.of (same_upd he _ _ eD), atI_nat (j := 0) rfl, .int day, rfl, .str y, rfl, .str load, rfl, by show 10 ≤ sizeLine; decide, fun p hp => ?_⟩
        exact k (.ref p) _ (s2.trans (same_upd hp)) (.inr ⟨p, z, rfl, s2.free hp, hy z List.mem_cons_self, upd_same⟩)
end
end K47
set_option maxHeartbeats 4000000
/-! K47Out: the lines by which a wagon goes out. -/
namespace K47
open PySem PySem.Spec PyProof.Rows L2
def Chained (N : Net) (out : List Str) : Prop := ∀ (i : Nat) x y, out[i]? = some x → out[i + 1]? = some y → Linked N x y
theorem Chained.snoc {N : Net} {out : List Str} {z y : Str} (h : Chained N out) (hz : out[out.length - 1]? = some z) (hl : Linked N z y) : Chained N (out ++ [y]) := fun i x w h1 h2 => by
  by_cases hi : i + 1 < out.length
  · rw [List.getElem?_append_left (by omega)] at h1
    rw [List.getElem?_append_left hi] at h2
    exact h i x w h1 h2
  · have hlen := (List.getElem?_eq_some_iff.mp h2).1
    rw [List.length_append, List.length_singleton] at hlen
    rw [List.getElem?_append_left (by omega)] at h1
    rw [List.getElem?_append_right (by omega)] at h2
    have e1 : i = out.length - 1 := by omega
    have e2 : i + 1 - out.length = 0 := by omega
    rw [e2] at h2
    rw [← e1, h1] at hz
    rw [Option.some.inj hz, ← (Option.some.inj h2 : y = w)]
    exact hl
section
variable {P : Program} {w : World} {K : PySem.W.Frag} {mg : Str → Option Value} {base : Heap}
abbrev nOut : List Str := ["_law_bag_here", "_law_net_here", "_law_line", "_law_found", "_law_step", "_law_some", "_law_one"]
theorem scOut : FnScope nOut ["_law_bag_here", "_law_net_here", "_law_line"] (defScope sOut) := ⟨rfl, rfl, rfl, by decide +kernel, rfl, by decide +kernel, by decide +kernel⟩
def spOut : Sp := fun vs H Q _ => ∃ (b a : Addr) (line : Str) (N : Net), vs = [.ref b, .ref a, .str line] ∧ BagAt H b ∧ NetAt H a N ∧ NetOk N ∧
  ∀ (l : Addr) (out : List Str) (H' : Hp), BagAt H' b → KB b H H' → H l = none → H' l = some (.lst (out.map V.str)) → out[0]? = some line → out.Nodup → out.length ≤ 8 → Chained N out → Q (.ref l) H'
theorem ok_out {f fT fO : Addr} {fd fdT fdO : FuncData} (F : Fn K "_law_out" sOut f fd) (FT : Fn K "_law_take" sTake fT fdT) (bT : Binds K fdT ["_law_bag_here", "_law_many"] []) (gT : mg "_law_take" = some (.ref fT))
    (FO : Fn K "_law_on" sOn fO fdO) (bO : Binds K fdO ["_law_net_here", "_law_at", "_law_over", "_law_day", "_law_load"] []) (gO : mg "_law_on" = some (.ref fO)) (mr : mg "range" = none) (ml : mg "len" = none) :
    FnOk P w K mg base CX0 2 f fd ["_law_bag_here", "_law_net_here", "_law_line"] spOut := by
  have GT : FnOk P w K mg base CX0 1 fT fdT ["_law_bag_here", "_law_many"] spTake := ok_take FT
  have GO : FnOk P w K mg base CX0 1 fO fdO ["_law_net_here", "_law_at", "_law_over", "_law_day", "_law_load"] spOn := ok_on FO
  refine F.ok scOut (fun vs H Q E h => ?_) (fun cdv A outer s H vs Q E hr h => ?_)
  · obtain ⟨b, a, line, N, rfl, _⟩ := h
    rfl
  · obtain ⟨b, a, line, N, rfl, hb, hN, ok, k⟩ := h
    refine ⟨_, PSs.nox (pss_cons (ps_set (i := 3) scOut.nd rfl (.inr rfl) (pe_lst (pa_cons (pv 2) pa_nil)))
      (pss_cons (ps_for PassesOwn.never rfl (pi_range1 (by rfl) mr (pa_cons (pe_call GT hr (by rfl) gT FT.kp bT .nil pass0 (pa_cons (pv 0) (pa_cons pe_int pa_nil))) pa_nil)) (pg_name (i := 4) scOut.nd rfl (.inl rfl))
        (pss_cons (ps_setLc (i := 5) (own := [("_law_one", 6)]) (g := gName 6) rfl scOut.nd rfl rfl (sw_true rfl rfl rfl (by decide +kernel)) (pi_tup (pe_ix ix_tup (pv 1) pe_int (fun _ _ => rfl)))
            (blkOk_by (N := nOut) (sc := defScope sOut) (by decide +kernel)) (fun _ _ _ _ _ => pg_name (i := 6) scOut.nd rfl (Or.inl rfl))
            (fun _ _ _ _ _ => pts_one (pt_cmpR (r := rIn K true) op_notIn_seq (pv 6) (pv 3) (by rfl))) (fun _ _ _ _ _ => pv 6))
        (pss_cons (ps_setLc (i := 5) (own := [("_law_one", 6)]) (g := gName 6) rfl scOut.nd rfl rfl (sw_true rfl rfl rfl (by decide +kernel)) (pi_list (pv 5))
            (blkOk_by (N := nOut) (sc := defScope sOut) (by decide +kernel)) (fun _ _ _ _ _ => pg_name (i := 6) scOut.nd rfl (Or.inl rfl))
            (fun _ _ _ _ _ => pts_one (pt_cmpR op_notN (pe_call GO hr (by rfl) gO FO.kp bO .nil pass0 (pa_cons (pv 1) (pa_cons (pe_ix (r := rIxL K) ix_list (pv 3) (pe_un un_neg pe_int) (fun _ _ => rfl)) (pa_cons (pv 6) (pa_cons pe_int (pa_cons pe_str pa_nil)))))) pe_non (nomark _))) (fun _ _ _ _ _ => pv 6))
        (pss_one (ps_if (pt_cmpR (op_neN hr.units) (pv 5) (pe_lst pa_nil) (nomark _))
          (pss_one (ps_expr (pe_bm PySem.F.plainAttrs_list PySem.F.slot_list_append PySem.F.type_list_append mt_append (pv 3) (pa_cons (pe_ix ix_list (pv 5) (pe_call GT hr (by rfl) gT FT.kp bT .nil pass0 (pa_cons (pv 0) (pa_cons (pe_callB call_len_seq (by rfl) ml PySem.boot_len (pa_cons (pv 5) pa_nil)) pa_nil))) (fun _ _ => rfl)) pa_nil)))) pss_nil)))))
      (pss_one (ps_ret (pv 3))))), ?_⟩
    refine ⟨.str line, rfl, by show 1 ≤ sizeLine; decide, fun l hl => ?_⟩
    have nlb : l ≠ b := (hb.fresh hl).symm
    have b1 : BagAt (upd H l (.lst [.str line])) b := hb.keep (same_upd hl)
    refine ⟨.ref b, rfl, b, 8, rfl, b1, by decide, by decide, fun d H2 d0 d1 b2 k2 => ⟨d, rfl, by omega, by omega, ?_⟩⟩
    refine for_range (lo := 0) (n := d.toNat) (fun i σ H3 => ∃ (out : List Str) (y4 y5 y6 : Option V), σ = [some (.ref b), some (.ref a), some (.str line), some (.ref l), y4, y5, y6] ∧ BagAt H3 b ∧ KB b H H3 ∧ H3 l = some (.lst (out.map V.str)) ∧ out[0]? = some line ∧ out.Nodup ∧ out.length ≤ i + 1 ∧ Chained N out)
      ⟨[line], none, none, none, rfl, b2, (KB.new hl).trans k2, k2 _ _ upd_same nlb, rfl, List.nodup_cons.mpr ⟨fun h => (nomatch h), List.nodup_nil⟩, Nat.le_refl _, fun i x y _ h2 => by simp at h2⟩ ?_ ?_
    · rintro i σ H3 hi ⟨out, y4, y5, y6, rfl, b3, k3, el, e0, nd, lo, ch⟩
      have N3 : NetAt H3 a N := hN.keep (k3.tk hb)
      obtain ⟨nl, st, jn, t, sa, ja, hI⟩ := id N3
      have lo2 : out.length ≤ 8 := by omega
      have lpos : 0 < out.length := (List.getElem?_eq_some_iff.mp e0).1
      -- those where it wasn't
      refine ⟨.ref a, rfl, a, _, 0, .ref nl, rfl, rfl, SqT.of hI.top, atI_nat (j := 0) rfl, nl, rfl, ⟨_, SqT.of hI.ln⟩, fun D hD => ?_⟩
      refine lc_tup (K := K) (a := nl) (xs := N.lines.map V.str) (fun j H4 => ∃ zs : List Str, H4 D = some (.lst (zs.map V.str)) ∧ (∀ z ∈ zs, z ∉ out) ∧ zs.length ≤ j ∧ Same H3 H4)
        ⟨[], upd_same, fun y hy => (nomatch hy), Nat.zero_le _, same_upd hD⟩ (fun j H4 _ ⟨_, _, _, _, s4⟩ => SqT.of (s4 _ _ hI.ln)) ?_ ?_
      · rintro j v H4 hv ⟨zs, eD, hz, lz, s4⟩
        obtain ⟨x, hx, rfl⟩ := strs_of hv
        have hj8 : j < 8 := Nat.lt_of_lt_of_le (List.getElem?_eq_some_iff.mp hx).1 ok.l1
        refine ⟨rfl, .str x, rfl, .ref l, rfl, l, _, rfl, .inl (SqL.of (s4 _ _ el)), rfl, flat_strs out, _, rfl, ite2 (fun h => ?_) (fun h => ?_)⟩
        · have hn : x ∉ out := fun hm => by
            have e1 : (if true = true then !inV (.str x) (out.map V.str) else inV (.str x) (out.map V.str)) = true := h
            rw [if_pos rfl, inV_strs, decide_eq_true hm] at e1
            cases e1
          refine ⟨.str x, rfl, _, eD, ?_, zs ++ [x], ?_, ?_, ?_, same_mut s4 hD⟩
          · rw [List.length_map]
            exact small1000 (by omega)
          · rw [upd_same, List.map_append]
            rfl
          · intro z hz2
            rcases List.mem_append.mp hz2 with h | h
            · exact hz z h
            · rw [List.mem_singleton.mp h]
              exact hn
          · rw [List.length_append, List.length_singleton]
            omega
        · exact ⟨zs, eD, hz, by omega, s4⟩
      · rintro H4 ⟨zs, eD, hz, lz, s4⟩
        rw [List.length_map] at lz
        have lz8 : zs.length ≤ 8 := Nat.le_trans lz ok.l1
        obtain ⟨last, hlast⟩ : ∃ z, out[out.length - 1]? = some z := ⟨out[out.length - 1], List.getElem?_eq_getElem (by omega)⟩
        have hlastV : (out.map V.str)[(out.map V.str).length - 1]? = some (.str last) := by
          rw [List.length_map, List.getElem?_map, hlast]
          rfl
        -- those to which it can go
        refine ⟨.ref D, rfl, D, rfl, ⟨_, SqL.of eD⟩, fun D2 hD2 => ?_⟩
        refine lc_list (K := K) (a := D) (xs := zs.map V.str) (fun j H5 => ∃ ws : List Str, H5 D2 = some (.lst (ws.map V.str)) ∧ (∀ z ∈ ws, z ∉ out ∧ Linked N last z) ∧ ws.length ≤ j ∧ Same H4 H5)
          ⟨[], upd_same, fun y hy => (nomatch hy), Nat.zero_le _, same_upd hD2⟩ (fun j H5 _ ⟨_, _, _, _, s5⟩ => SqL.of (s5 _ _ eD)) ?_ ?_
        · rintro j v H5 hv ⟨ws, eD2, hw, lw, s5⟩
          obtain ⟨x, hx, rfl⟩ := strs_of hv
          have hj8 : j < 8 := Nat.lt_of_lt_of_le (List.getElem?_eq_some_iff.mp hx).1 lz8
          have s35 : Same H3 H5 := Same.trans s4 s5
          refine ⟨rfl, .ref a, rfl, .ref l, rfl, 1, rfl, l, _, -1, .str last, rfl, rfl, SqL.of (s35 _ _ el), atI_back (k := 1) rfl (by decide) (by rw [List.length_map]; omega) hlastV, .str x, rfl, ?_⟩
          refine ⟨a, last, x, 1, "laden", N, rfl, N3.keep (TK.of s35), ok, fun v H6 s6 hv6 => ?_⟩
          rcases hv6 with ⟨rfl, _⟩ | ⟨p, jn6, rfl, _, by6, _⟩
          · exact ⟨rfl, _, rfl, ws, s6 _ _ eD2, hw, by omega, s5.trans s6⟩
          · refine ⟨rfl, _, rfl, .str x, rfl, _, s6 _ _ eD2, ?_, ws ++ [x], ?_, ?_, ?_, same_mut (s5.trans s6) hD2⟩
            · rw [List.length_map]
              exact small1000 (by omega)
            · rw [upd_same, List.map_append]
              rfl
            · intro z hz2
              rcases List.mem_append.mp hz2 with h | h
              · exact hw z h
              · rw [List.mem_singleton.mp h]
                exact ⟨hz x (List.mem_of_getElem? hx), by6.1, let ⟨ls, h1, h2, h3⟩ := by6.2; ⟨_, h1, h2, h3⟩⟩
            · rw [List.length_append, List.length_singleton]
              omega
        · rintro H5 ⟨ws, eD2, hw, lw, s5⟩
          rw [List.length_map] at lw
          refine ⟨.ref D2, rfl, Nat.zero_le _, fun e he => ⟨D2, e, _, rfl, rfl, SqL.of (same_upd he _ _ eD2), SqL.of upd_same, _, rfl, ite2 (fun h => ?_) (fun h => ?_)⟩⟩
          · have s6 : Same H3 (upd H5 e (.lst [])) := (Same.trans s4 s5).trans (same_upd he)
            have hpos : 0 < ws.length := by
              cases ws with
              | nil => cases h
              | cons z r => exact Nat.succ_pos _
            have eD6 := same_upd (o := HO.lst []) he _ _ eD2
            generalize upd H5 e (.lst []) = H6 at s6 eD6
            refine ⟨.ref l, rfl, .inl ⟨rfl, _, SqL.of (s6 _ _ el)⟩, .ref D2, rfl, .ref b, rfl, .ref D2, rfl, D2, _, rfl, .inl (SqL.of eD6), b, _, rfl, b3.keep s6, ?_, ?_, fun d2 H7 p0 p1 b7 k7 => ?_⟩
            · rw [List.length_map]
              omega
            · rw [List.length_map]
              omega
            · rw [List.length_map] at p1
              obtain ⟨x, hx, hxV⟩ := strs_at ws (i := d2.toNat) (by omega)
              have nD2b : D2 ≠ b := fun z => by
                have h1 := b3.keep s6
                obtain ⟨g, r, h2, _⟩ := h1
                rw [← z, eD6] at h2
                have h3 := HO.lst.inj (Option.some.inj h2)
                cases ws with
                | nil => cases h3
                | cons z r => cases h3
              have el7 := k7 _ _ (s6 _ _ el) nlb
              refine ⟨D2, _, d2, .str x, rfl, rfl, SqL.of (k7 _ _ eD6 nD2b), at_of (j := d2.toNat) (by omega) hxV, l, _, _, rfl, rfl, el7, ?_, ?_⟩
              · rw [List.length_map]
                exact small1000 (by omega)
              · have hxm := hw x (List.mem_of_getElem? hx)
                refine ⟨out ++ [x], _, _, _, rfl, b7.upd nlb.symm, ((k3.trans (.of s6)).trans k7).mut hl, ?_, ?_, ?_, ?_, ch.snoc hlast hxm.2⟩
                · rw [upd_same, List.map_append]
                  rfl
                · rw [List.getElem?_append_left lpos]
                  exact e0
                · exact List.nodup_append.mpr ⟨nd, List.nodup_cons.mpr ⟨fun h => (nomatch h), List.nodup_nil⟩, fun p hp q hq e => by
                    rw [List.mem_singleton.mp hq] at e
                    rw [e] at hp
                    exact hxm.1 hp⟩
                · rw [List.length_append, List.length_singleton]
                  omega
          · exact ⟨out, _, _, _, rfl, b3.keep ((Same.trans s4 s5).trans (same_upd he)), k3.trans (.of ((Same.trans s4 s5).trans (same_upd he))), (Same.trans s4 s5).trans (same_upd he) _ _ el, e0, nd, by omega, ch⟩
    · rintro σ H3 ⟨out, y4, y5, y6, rfl, b3, k3, el, e0, nd, lo, ch⟩
      exact ⟨.ref l, rfl, k l out H3 b3 k3 hl el e0 nd (by omega) ch⟩
end
end K47
set_option maxHeartbeats 4000000
/-! K47Dict: tables of pairs. -/
namespace K47
open PySem PySem.Spec PyProof.Rows L2
section
variable {κ : Type} [DecidableEq κ]
theorem key_iff (kvs : List (κ × V)) (k : κ) : k ∈ kvs.map (·.1) ↔ (valV kvs k).isSome = true := by
  cases e : valV kvs k with
  | none => exact ⟨fun h => absurd h (valV_not e), fun h => by cases h⟩
  | some v => exact ⟨fun _ => rfl, fun _ => valV_in e⟩
theorem put_some (kvs : List (κ × V)) (k j : κ) (y : V) : (valV (putK kvs k y) j).isSome = true ↔ j = k ∨ (valV kvs j).isSome = true := by
  rw [valV_put]
  by_cases h : j = k
  · rw [if_pos h]
    exact ⟨fun _ => .inl h, fun _ => rfl⟩
  · rw [if_neg h]
    exact ⟨fun z => .inr z, fun z => z.resolve_left h⟩
theorem nd_put {kvs : List (κ × V)} (k : κ) (v : V) (hn : (kvs.map (·.1)).Nodup) : ((putK kvs k v).map (·.1)).Nodup := by
  cases e : valV kvs k with
  | none => exact nd_putK v hn e
  | some u =>
    unfold putK
    rw [valV_any, e]
    show ((kvs.map fun kv => if kv.1 = k then (kv.1, v) else kv).map (·.1)).Nodup
    rw [List.map_map]
    have h : ((·.1) ∘ fun kv : κ × V => if kv.1 = k then (kv.1, v) else kv) = fun kv : κ × V => kv.1 := by
      funext kv
      show (if kv.1 = k then (kv.1, v) else kv).1 = kv.1
      split <;> rfl
    rw [h]
    exact hn
end
theorem merge_cons (acc : List (Key × V)) (p : Key × V) (more : List (Key × V)) : mergeK acc (p :: more) = mergeK (putK acc p.1 p.2) more := rfl
theorem merge_out {k : Key} : ∀ {more acc : List (Key × V)}, ¬ k ∈ more.map (·.1) → valV (mergeK acc more) k = valV acc k
  | [], _, _ => rfl
  | p :: more, acc, h => by
    rw [List.map_cons] at h
    rw [merge_cons, merge_out (fun z => h (List.mem_cons_of_mem _ z)), valV_put, if_neg (fun e => h (by rw [e]; exact List.mem_cons_self))]
theorem merge_in {k : Key} {v : V} : ∀ {more acc : List (Key × V)}, (more.map (·.1)).Nodup → (k, v) ∈ more → valV (mergeK acc more) k = some v
  | [], _, _, h => by cases h
  | p :: more, acc, nd, h => by
    rw [List.map_cons, List.nodup_cons] at nd
    rw [merge_cons]
    rcases List.mem_cons.mp h with e | h
    · have e1 : p.1 = k := by rw [← e]
      have e2 : p.2 = v := by rw [← e]
      rw [merge_out (by rw [← e1]; exact nd.1), valV_put, e1, if_pos rfl, e2]
    · exact merge_in nd.2 h
theorem merge_some {k : Key} : ∀ {more acc : List (Key × V)}, (valV (mergeK acc more) k).isSome = true ↔ (valV acc k).isSome = true ∨ k ∈ more.map (·.1)
  | [], acc => ⟨fun h => .inl h, fun h => h.elim id fun z => (nomatch z)⟩
  | p :: more, acc => by
    rw [merge_cons, merge_some, put_some, List.map_cons, List.mem_cons]
    constructor
    · rintro ((h | h) | h)
      · exact .inr (.inl h)
      · exact .inl h
      · exact .inr (.inr h)
    · rintro (h | h | h)
      · exact .inl (.inr h)
      · exact .inl (.inl h)
      · exact .inr h
theorem merge_val {k : Key} {v w : V} : ∀ {more acc : List (Key × V)}, (∀ p ∈ more, p.2 = w) → (∀ u, valV acc k = some u → u = w) → valV (mergeK acc more) k = some v → v = w
  | [], acc, _, h, e => h v e
  | p :: more, acc, hm, h, e => by
    rw [merge_cons] at e
    refine merge_val (fun q hq => hm q (List.mem_cons_of_mem _ hq)) (fun u hu => ?_) e
    rw [valV_put] at hu
    by_cases hk : k = p.1
    · rw [if_pos hk] at hu
      rw [← Option.some.inj hu]
      exact hm p List.mem_cons_self
    · rw [if_neg hk] at hu
      exact h u hu
theorem nd_merge : ∀ {more acc : List (Key × V)}, (acc.map (·.1)).Nodup → ((mergeK acc more).map (·.1)).Nodup
  | [], _, h => h
  | p :: more, acc, h => by
    rw [merge_cons]
    exact nd_merge (nd_put _ _ h)
/-- a table whose keys are texts, all of some list -/
structure Keyed (U : List Str) (kvs : List (Key × V)) : Prop where
  nd : (kvs.map (·.1)).Nodup
  txt : ∀ k ∈ kvs.map (·.1), ∃ x, k = Sum.inr x ∧ x ∈ U
theorem Keyed.le {U : List Str} {kvs : List (Key × V)} (h : Keyed U kvs) : kvs.length ≤ U.length := by
  have h1 : (kvs.map (·.1)).length ≤ (U.map (Sum.inr : Str → Key)).length := nodup_le h.nd fun k hk => by
    obtain ⟨x, e, hx⟩ := h.txt k hk
    rw [e]
    exact List.mem_map_of_mem hx
  rwa [List.length_map, List.length_map] at h1
theorem Keyed.nil (U : List Str) : Keyed U ([] : List (Key × V)) := ⟨List.nodup_nil, fun k h => (nomatch h)⟩
theorem Keyed.put {U : List Str} {kvs : List (Key × V)} (h : Keyed U kvs) {x : Str} (hx : x ∈ U) (v : V) : Keyed U (putK kvs (Sum.inr x) v) :=
  ⟨nd_put _ _ h.nd, fun k hk => by
    rw [key_iff, put_some] at hk
    rcases hk with e | e
    · exact ⟨x, e, hx⟩
    · exact h.txt k ((key_iff _ _).mpr e)⟩
theorem Keyed.merge {U : List Str} {kvs more : List (Key × V)} (h : Keyed U kvs) (hm : ∀ p ∈ more, ∃ x, p.1 = Sum.inr x ∧ x ∈ U) : Keyed U (mergeK kvs more) :=
  ⟨nd_merge h.nd, fun k hk => by
    rw [key_iff, merge_some] at hk
    rcases hk with e | e
    · exact h.txt k ((key_iff _ _).mpr e)
    · obtain ⟨p, hp, rfl⟩ := List.mem_map.mp e
      exact hm p hp⟩
/-- its keys as texts -/
theorem Keyed.keys {U : List Str} {kvs : List (Key × V)} (h : Keyed U kvs) : ∃ ks : List Str, kvs.map (·.1) = ks.map Sum.inr ∧ ks.length = kvs.length ∧ ∀ x, x ∈ ks ↔ (valV kvs (Sum.inr x)).isSome = true := by
  have key : ∀ l : List Key, (∀ k ∈ l, ∃ x, k = Sum.inr x ∧ x ∈ U) → ∃ ks : List Str, l = ks.map Sum.inr := fun l => by
    induction l with
    | nil => exact fun _ => ⟨[], rfl⟩
    | cons k l ih =>
      intro hl
      obtain ⟨x, e, _⟩ := hl k List.mem_cons_self
      obtain ⟨ks, e2⟩ := ih fun k' hk' => hl k' (List.mem_cons_of_mem _ hk')
      exact ⟨x :: ks, by rw [e, e2]; rfl⟩
  obtain ⟨ks, e⟩ := key _ h.txt
  refine ⟨ks, e, ?_, fun x => ?_⟩
  · have := congrArg List.length e
    rw [List.length_map, List.length_map] at this
    exact this.symm
  · rw [← key_iff, e]
    constructor
    · exact fun hx => List.mem_map_of_mem hx
    · intro hx
      obtain ⟨y, hy, e3⟩ := List.mem_map.mp hx
      rw [← Sum.inr.inj e3]
      exact hy
end K47
set_option maxHeartbeats 4000000
/-! K47Goals: places_of, lines_at, goals_of. -/
namespace K47
open PySem PySem.Spec PyProof.Rows L2
def jkv : List (Addr × Addr) → List (Str × List Str) → List (Key × V)
  | q :: ja, j :: js => (Sum.inr j.1, V.ref q.2) :: jkv ja js
  | _, _ => []
theorem jkv_paired {H : Hp} : ∀ {ja : List (Addr × Addr)} {js : List (Str × List Str)}, Paired (JAt H) ja js → Paired (fun p (kv : Key × V) => H p = some (.tup [kV kv.1, kv.2])) (ja.map (·.1)) (jkv ja js)
  | _, _, .nil => .nil
  | _, _, .cons h t => .cons h.1 (jkv_paired t)
theorem jkv_keys {H : Hp} : ∀ {ja : List (Addr × Addr)} {js : List (Str × List Str)}, Paired (JAt H) ja js → (jkv ja js).map (·.1) = (js.map (·.1)).map (Sum.inr : Str → Key)
  | _, _, .nil => rfl
  | _, _, .cons h t => congrArg (List.cons _) (jkv_keys t)
theorem jkv_mem {H : Hp} : ∀ {ja : List (Addr × Addr)} {js : List (Str × List Str)}, Paired (JAt H) ja js → ∀ {nm : Str} {ls : List Str}, (nm, ls) ∈ js → ∃ q : Addr × Addr, (Sum.inr nm, V.ref q.2) ∈ jkv ja js ∧ H q.2 = some (.tup (ls.map V.str))
  | _, _, .nil, _, _, h => by cases h
  | _, _, .cons (a := q) (b := j) h t, nm, ls, hm => by
    rcases List.mem_cons.mp hm with e | hm
    · refine ⟨q, ?_, ?_⟩
      · rw [← e]
        exact List.mem_cons_self
      · have := h.2
        rw [← e] at this
        exact this
    · obtain ⟨q2, h1, h2⟩ := jkv_mem t hm
      exact ⟨q2, List.mem_cons_of_mem _ h1, h2⟩
theorem jkv_len {H : Hp} : ∀ {ja : List (Addr × Addr)} {js : List (Str × List Str)}, Paired (JAt H) ja js → (jkv ja js).length = js.length
  | _, _, .nil => rfl
  | _, _, .cons h t => congrArg Nat.succ (jkv_len t)
theorem nodup_inr {l : List Str} (h : l.Nodup) : (l.map (Sum.inr : Str → Key)).Nodup := by
  induction l with
  | nil => exact List.nodup_nil
  | cons x l ih =>
    rw [List.nodup_cons] at h
    rw [List.map_cons, List.nodup_cons]
    refine ⟨fun hm => ?_, ih h.2⟩
    obtain ⟨y, hy, e⟩ := List.mem_map.mp hm
    rw [Sum.inr.inj e] at hy
    exact h.1 hy
section
variable {P : Program} {w : World} {K : PySem.W.Frag} {mg : Str → Option Value} {base : Heap}
abbrev nPlaces : List Str := ["stations", "junctions", "found", "place", "line"]
theorem scPlaces : FnScope nPlaces ["stations", "junctions"] (defScope sPlaces) := ⟨rfl, rfl, rfl, by decide +kernel, rfl, by decide +kernel, by decide +kernel⟩
def spPlaces : Sp := fun vs H Q _ => ∃ (a l s j t : Addr) (sa : List Addr) (ja : List (Addr × Addr)) (N : Net), vs = [.ref s, .ref j] ∧ NetIn H a l s j t sa ja N ∧ NetOk N ∧
  ∀ (p : Addr) (kvs : List (Key × V)) (H' : Hp), Same H H' → H' p = some (.dK kvs) → (∀ nm ls, (nm, ls) ∈ N.juncs → ∃ q, valV kvs (Sum.inr nm) = some (.ref q) ∧ H q = some (.tup (ls.map V.str))) → Q (.ref p) H'
theorem ok_places {f : Addr} {fd : FuncData} (F : Fn K "places_of" sPlaces f fd) (md : mg "dict" = none) : FnOk P w K mg base CX0 1 f fd ["stations", "junctions"] spPlaces := by
  refine F.ok scPlaces (fun vs H Q E h => ?_) (fun cdv A outer s H vs Q E hr h => ?_)
  · obtain ⟨a, l, s, j, t, sa, ja, N, rfl, _⟩ := h
    rfl
  · obtain ⟨a, l, st, j, t, sa, ja, N, rfl, hI, ok, k⟩ := h
    refine ⟨_, PSs.nox (pss_cons (ps_set (i := 2) scPlaces.nd rfl (.inl rfl) (pe_callTy (call_dictP rfl) (by rfl) md PyProof.Rows.boot_dict (pa_cons
          (pe_lc (own := [("place", 3), ("line", 4)]) (g := gTup K 2 (gCons (gName 3) (gCons (gName 4) gNil))) (tt := tYes) rfl scPlaces.nd (pi_tup (pv 0)) (blkOk_by (N := nPlaces) (sc := defScope sPlaces) (by decide +kernel))
            (fun _ _ _ _ _ => pg_tup rfl (pgs_cons (pg_name (i := 3) scPlaces.nd rfl (Or.inl rfl)) (pgs_cons (pg_name (i := 4) scPlaces.nd rfl (Or.inl rfl)) pgs_nil))) (fun _ _ _ _ _ => pts_nil)
            (fun _ _ _ _ _ => pe_tup (pa_cons (pv 3) (pa_cons (pe_tup (pa_cons (pv 4) pa_nil)) pa_nil)))) pa_nil)))
      (pss_cons (ps_expr (pe_bm PySem.F.plainAttrs_dict PySem.F.slot_dict_update PySem.F.type_dict_update mt_update (pv 2) (pa_cons (pe_callTy (call_dictT rfl) (by rfl) md PyProof.Rows.boot_dict (pa_cons (pv 1) pa_nil)) pa_nil)))
      (pss_one (ps_ret (pv 2))))), ?_⟩
    refine ⟨.ref st, rfl, st, rfl, ⟨_, SqT.of hI.st⟩, fun D hD => ?_⟩
    have lsa : sa.length ≤ 2 := by
      have := paired_len hI.sp
      have := ok.s1
      omega
    refine lc_tup (K := K) (a := st) (xs := sa.map V.ref) (fun i H1 => ∃ (ps : List Addr) (kv : List (Key × V)), H1 D = some (.lst (ps.map V.ref)) ∧ Paired (fun p (kv : Key × V) => SqT K H1 p [kV kv.1, kv.2]) ps kv ∧ ps.length ≤ i ∧ Same H H1)
      ⟨[], [], upd_same, .nil, Nat.le_refl _, same_upd hD⟩ (fun i H1 _ ⟨_, _, _, _, _, s1⟩ => SqT.of (s1 _ _ hI.st)) ?_ ?_
    · rintro i v H1 hv ⟨ps, kv, eD, pp, lp, s1⟩
      rw [List.getElem?_map] at hv
      cases hq : sa[i]? with
      | none =>
        rw [hq] at hv
        cases hv
      | some q =>
      rw [hq] at hv
      obtain rfl : V.ref q = v := Option.some.inj hv
      obtain ⟨⟨nm, ln⟩, hj, h1⟩ := paired_at hI.sp hq
      have li : i < 2 := Nat.lt_of_lt_of_le (List.getElem?_eq_some_iff.mp hq).1 lsa
      refine ⟨q, _, rfl, SqT.of (s1 _ _ h1), rfl, .str nm, _, rfl, .str ln, [], rfl, rfl, rfl, .str nm, rfl, .str ln, rfl, by show 1 ≤ sizeLine; decide, fun p1 hp1 => ⟨by show 2 ≤ sizeLine; decide, fun p2 hp2 => ?_⟩⟩
      have s2 : Same H1 (upd (upd H1 p1 (.tup [.str ln])) p2 (.tup [.str nm, .ref p1])) := (same_upd hp1).trans (same_upd hp2)
      have e2 := s2 _ _ eD
      have ep : (upd (upd H1 p1 (.tup [.str ln])) p2 (.tup [.str nm, .ref p1])) p2 = some (.tup [.str nm, .ref p1]) := upd_same
      generalize upd (upd H1 p1 (.tup [.str ln])) p2 (.tup [.str nm, .ref p1]) = H2 at s2 e2 ep
      refine ⟨_, e2, ?_, ps ++ [p2], kv ++ [(Sum.inr nm, .ref p1)], ?_, ?_, ?_, same_mut (s1.trans s2) hD⟩
      · rw [List.length_map]
        exact small1000 (by omega)
      · rw [upd_same, List.map_append]
        rfl
      · have tk2 : TK H2 (upd H2 D (.lst (ps.map V.ref ++ [V.ref p2]))) := TK.write e2 .lst
        have sq : ∀ p xs, SqT K H1 p xs → SqT K (upd H2 D (.lst (ps.map V.ref ++ [V.ref p2]))) p xs := fun p xs h => by
          rcases h with (h | ⟨o, h⟩) | h
          · exact .inl (.inl (tk2.t _ _ (s2 _ _ h)))
          · exact .inl (.inr ⟨o, tk2.f _ _ _ (s2 _ _ h)⟩)
          · exact .inr h
        exact (Paired.mapP pp fun p kv h => sq _ _ h).snoc (SqT.of (tk2.t _ _ ep))
      · rw [List.length_append, List.length_singleton]
        omega
    · rintro H1 ⟨ps, kv, eD, pp, lp, s1⟩
      rw [List.length_map] at lp
      refine ⟨D, ps, kv, rfl, SqL.of eD, pp, fun d1 hd1 => ?_⟩
      have s2 : Same H1 (upd H1 d1 (.dK (mergeK [] kv))) := same_upd hd1
      have e1 : (upd H1 d1 (.dK (mergeK [] kv))) d1 = some (.dK (mergeK [] kv)) := upd_same
      have fd1 : H d1 = none := s1.free hd1
      generalize upd H1 d1 (.dK (mergeK [] kv)) = H2 at s2 e1
      obtain ⟨o, ej, od⟩ := hI.jn
      refine ⟨.ref d1, rfl, .inr (.inr (.inl ⟨rfl, .inl ⟨_, e1⟩⟩)), .ref j, rfl, j, o, ja.map (·.1), jkv ja N.juncs, rfl, ?_, od, ?_, fun d2 hd2 => ?_⟩
      · rw [← map_ref]
        exact s2 _ _ (s1 _ _ ej)
      · exact Paired.mapP (jkv_paired hI.jp) fun p kv h => SqT.of (s2 _ _ (s1 _ _ h))
      · have s3 : Same H2 (upd H2 d2 (.dK (mergeK [] (jkv ja N.juncs)))) := same_upd hd2
        refine ⟨d1, d2, _, _, rfl, rfl, ne_of_none e1 hd2, s3 _ _ e1, upd_same, ?_, ?_⟩
        · have h1 := length_mergeK kv []
          have h2 := length_mergeK (jkv ja N.juncs) []
          have h3 := paired_len pp
          have h4 := jkv_len hI.jp
          have h5 := ok.j1
          rw [List.length_nil] at h1 h2
          exact Nat.le_trans (show _ ≤ 1000 by omega) (Nat.le_of_lt (small1000 (Nat.le_refl _)))
        · refine ⟨.ref d1, rfl, k d1 _ _ (same_mut ((s1.trans s2).trans s3) fd1) upd_same fun nm ls hm => ?_⟩
          obtain ⟨q, h1, h2⟩ := jkv_mem hI.jp hm
          have nd : ((jkv ja N.juncs).map (·.1)).Nodup := by
            rw [jkv_keys hI.jp]
            exact nodup_inr ok.nd
          have nd2 : ((mergeK [] (jkv ja N.juncs)).map (·.1)).Nodup := nd_merge List.nodup_nil
          have v1 : valV (mergeK [] (jkv ja N.juncs)) (Sum.inr nm) = some (.ref q.2) := merge_in nd h1
          have hmem : ((Sum.inr nm : Key), V.ref q.2) ∈ mergeK [] (jkv ja N.juncs) := by
            unfold valV at v1
            cases hf : (mergeK [] (jkv ja N.juncs)).find? fun kv => decide (kv.1 = (Sum.inr nm : Key)) with
            | none =>
              rw [hf] at v1
              cases v1
            | some kv' =>
              rw [hf] at v1
              have h3 := List.mem_of_find?_eq_some hf
              have h4 : kv'.1 = (Sum.inr nm : Key) := of_decide_eq_true (List.find?_some (p := fun kv : Key × V => decide (kv.1 = (Sum.inr nm : Key))) hf)
              have h5 : kv'.2 = .ref q.2 := Option.some.inj v1
              rw [← h4, ← h5]
              exact h3
          exact ⟨q.2, merge_in nd2 hmem, h2⟩
theorem scAt : FnScope ["net", "place"] ["net", "place"] (defScope sAt) := ⟨rfl, rfl, rfl, by decide +kernel, rfl, by decide +kernel, by decide +kernel⟩
def spAt : Sp := fun vs H Q _ => ∃ (a : Addr) (jn : Str) (N : Net) (ls : List Str), vs = [.ref a, .str jn] ∧ NetAt H a N ∧ NetOk N ∧ (jn, ls) ∈ N.juncs ∧ ∀ (q : Addr) (H' : Hp), Same H H' → H' q = some (.tup (ls.map V.str)) → Q (.ref q) H'
theorem ok_at {f fP : Addr} {fd fdP : FuncData} (F : Fn K "lines_at" sAt f fd) (FP : Fn K "places_of" sPlaces fP fdP) (bP : Binds K fdP ["stations", "junctions"] []) (gP : mg "places_of" = some (.ref fP)) (md : mg "dict" = none) :
    FnOk P w K mg base CX0 2 f fd ["net", "place"] spAt := by
  have GP : FnOk P w K mg base CX0 1 fP fdP ["stations", "junctions"] spPlaces := ok_places FP md
  refine F.ok scAt (fun vs H Q E h => ?_) (fun cdv A outer s H vs Q E hr h => ?_)
  · obtain ⟨a, jn, N, ls, rfl, _⟩ := h
    rfl
  · obtain ⟨a, jn, N, ls, rfl, hN, ok, hm, k⟩ := h
    have hu := hu_of hr
    refine ⟨_, PSs.nox (pss_one (ps_ret (pe_dget hu (pe_call GP hr (by rfl) gP FP.kp bP .nil pass0 (pa_cons (pe_ix ix_tup (pv 0) pe_int (fun _ _ => rfl)) (pa_cons (pe_ix ix_tup (pv 0) pe_int (fun _ _ => rfl)) pa_nil))) (pv 1) (fun _ _ => rfl)))), ?_⟩
    obtain ⟨l, st, j, t, sa, ja, hI⟩ := id hN
    refine ⟨.ref a, rfl, a, _, 1, .ref st, rfl, rfl, SqT.of hI.top, atI_nat (j := 1) rfl, .ref a, rfl, a, _, 2, .ref j, rfl, rfl, SqT.of hI.top, atI_nat (j := 2) rfl, a, l, st, j, t, sa, ja, N, rfl, hI, ok, fun p kvs H' s1 ep hall => ?_⟩
    obtain ⟨q, hv, hq⟩ := hall jn ls hm
    exact ⟨.str jn, rfl, p, .ref q, rfl, by rw [← hv]; exact DGet.k (k := Sum.inr jn) ep, k q H' s1 (s1 _ _ hq)⟩
abbrev nGoals : List Str := ["net", "junction", "over", "line"]
theorem scGoals : FnScope nGoals ["net", "junction", "over"] (defScope sGoals) := ⟨rfl, rfl, rfl, by decide +kernel, rfl, by decide +kernel, by decide +kernel⟩
def spGoals : Sp := fun vs H Q _ => ∃ (a : Addr) (jn over : Str) (N : Net) (ls : List Str), vs = [.ref a, .str jn, .str over] ∧ NetAt H a N ∧ NetOk N ∧ (jn, ls) ∈ N.juncs ∧
  ∀ (g : Addr) (H' : Hp), Same H H' → H' g = some (.lst ((ls.filter fun x => decide (x ≠ over)).map V.str)) → Q (.ref g) H'
theorem ok_goals {f fA fP : Addr} {fd fdA fdP : FuncData} (F : Fn K "goals_of" sGoals f fd) (FA : Fn K "lines_at" sAt fA fdA) (bA : Binds K fdA ["net", "place"] []) (gA : mg "lines_at" = some (.ref fA))
    (FP : Fn K "places_of" sPlaces fP fdP) (bP : Binds K fdP ["stations", "junctions"] []) (gP : mg "places_of" = some (.ref fP)) (md : mg "dict" = none) : FnOk P w K mg base CX0 3 f fd ["net", "junction", "over"] spGoals := by
  have GA : FnOk P w K mg base CX0 2 fA fdA ["net", "place"] spAt := ok_at FA FP bP gP md
  refine F.ok scGoals (fun vs H Q E h => ?_) (fun cdv A outer s H vs Q E hr h => ?_)
  · obtain ⟨a, jn, over, N, ls, rfl, _⟩ := h
    rfl
  · obtain ⟨a, jn, over, N, ls, rfl, hN, ok, hm, k⟩ := h
    refine ⟨_, PSs.nox (pss_one (ps_ret (pe_lc (own := [("line", 3)]) (g := gName 3) rfl scGoals.nd (pi_tup (pe_call GA hr (by rfl) gA FA.kp bA .nil pass0 (pa_cons (pv 0) (pa_cons (pv 1) pa_nil)))) (blkOk_by (N := nGoals) (sc := defScope sGoals) (by decide +kernel))
      (fun _ _ _ _ _ => pg_name (i := 3) scGoals.nd rfl (Or.inl rfl)) (fun _ _ _ _ _ => pts_one (pt_cmpR op_ne (pv 3) (pv 2) (nomark _))) (fun _ _ _ _ _ => pv 3)))), ?_⟩
    refine ⟨.ref a, rfl, .str jn, rfl, a, jn, N, ls, rfl, hN, ok, hm, fun q H1 s1 eq => ⟨q, rfl, ⟨_, SqT.of eq⟩, fun D hD => ?_⟩⟩
    have l8 := (ok.sub _ hm).1
    refine lc_tup (K := K) (a := q) (xs := ls.map V.str) (fun i H2 => H2 D = some (.lst (((ls.take i).filter fun x => decide (x ≠ over)).map V.str)) ∧ Same H1 H2)
      ⟨upd_same, same_upd hD⟩ (fun i H2 _ ⟨_, s2⟩ => SqT.of (s2 _ _ eq)) ?_ ?_
    · rintro i v H2 hv ⟨eD, s2⟩
      obtain ⟨x, hx, rfl⟩ := strs_of hv
      have li : i < 8 := Nat.lt_of_lt_of_le (List.getElem?_eq_some_iff.mp hx).1 l8
      refine ⟨rfl, .str x, rfl, .str over, rfl, rfl, _, rfl, ite2 (fun h => ?_) (fun h => ?_)⟩
      · have hne : x ≠ over := fun e => by
          subst e
          rw [decide_eq_true rfl] at h
          cases h
        refine ⟨.str x, rfl, _, eD, ?_, ?_, same_mut s2 hD⟩
        · rw [List.length_map]
          refine small1000 ?_
          have h1 := List.length_filter_le (fun x => decide (x ≠ over)) (ls.take i)
          rw [List.length_take] at h1
          omega
        · rw [upd_same, take_snoc hx, List.filter_append, List.map_append]
          have e : [x].filter (fun x => decide (x ≠ over)) = [x] := by
            rw [List.filter_cons, if_pos (decide_eq_true hne)]
            rfl
          rw [e]
          rfl
      · have he : x = over := Decidable.byContradiction fun hne => h (by rw [decide_eq_false (fun e => hne (V.str.inj e))]; rfl)
        refine ⟨?_, s2⟩
        rw [eD, take_snoc hx, List.filter_append]
        have e : [x].filter (fun x => decide (x ≠ over)) = [] := by
          rw [List.filter_cons, if_neg (by rw [he]; simp)]
          rfl
        rw [e, List.append_nil]
    · rintro H2 ⟨eD, s2⟩
      rw [List.length_map, List.take_length] at eD
      exact k D H2 (s1.trans s2) eD
end
end K47
set_option maxHeartbeats 4000000
/-! K47Beside: lines_beside. -/
namespace K47
open PySem PySem.Spec PyProof.Rows L2
theorem sqt_tk {K : PySem.W.Frag} {H H' : Hp} {p : Addr} {xs : List V} (s : TK H H') (h : SqT K H p xs) : SqT K H' p xs := by
  rcases h with (h | ⟨o, h⟩) | h
  · exact .inl (.inl (s.t _ _ h))
  · exact .inl (.inr ⟨o, s.f _ _ _ h⟩)
  · exact .inr h
section
variable {P : Program} {w : World} {K : PySem.W.Frag} {mg : Str → Option Value} {base : Heap}
abbrev nBeside : List Str := ["net", "line", "found", "place", "lines", "other"]
theorem scBeside : FnScope nBeside ["net", "line"] (defScope sBeside) := ⟨rfl, rfl, rfl, by decide +kernel, rfl, by decide +kernel, by decide +kernel⟩
def spBeside : Sp := fun vs H Q _ => ∃ (a : Addr) (x : Str) (N : Net), vs = [.ref a, .str x] ∧ NetAt H a N ∧ NetOk N ∧
  ∀ (l : Addr) (ys : List Str) (H' : Hp), Same H H' → H l = none → H' l = some (.lst (ys.map V.str)) → ys.length ≤ 8 → (∀ y, y ∈ ys ↔ Linked N x y) → Q (.ref l) H'
theorem ok_beside {f : Addr} {fd : FuncData} (F : Fn K "lines_beside" sBeside f fd) (md : mg "dict" = none) (ms : mg "sorted" = none) : FnOk P w K mg base CX0 1 f fd ["net", "line"] spBeside := by
  refine F.ok scBeside (fun vs H Q E h => ?_) (fun cdv A outer s H vs Q E hr h => ?_)
  · obtain ⟨a, x, N, rfl, _⟩ := h
    rfl
  · obtain ⟨a, x, N, rfl, hN, ok, k⟩ := h
    refine ⟨_, PSs.nox (pss_cons (ps_set (i := 2) scBeside.nd rfl (.inl rfl) pe_dnewK)
      (pss_cons (ps_for PassesOwn.never rfl (pi_tup (pe_ix ix_tup (pv 0) pe_int (fun _ _ => rfl))) (pg_tup rfl (pgs_cons (pg_name (i := 3) scBeside.nd rfl (Or.inl rfl)) (pgs_cons (pg_name (i := 4) scBeside.nd rfl (Or.inl rfl)) pgs_nil)))
        (pss_one (ps_if (pt_cmpR op_in_seq (pv 1) (pv 4) (by rfl))
          (pss_one (ps_expr (pe_bm PySem.F.plainAttrs_dict PySem.F.slot_dict_update PySem.F.type_dict_update mt_update (pv 2) (pa_cons (pe_callTy (call_dictP rfl) (by rfl) md PyProof.Rows.boot_dict (pa_cons
            (pe_lc (own := [("other", 5)]) (g := gName 5) rfl scBeside.nd (pi_tup (pv 4)) (blkOk_by (N := nBeside) (sc := defScope sBeside) (by decide +kernel)) (fun _ _ _ _ _ => pg_name (i := 5) scBeside.nd rfl (Or.inl rfl))
              (fun _ _ _ _ _ => pts_one (pt_cmpR op_ne (pv 5) (pv 1) (nomark _))) (fun _ _ _ _ _ => pe_tup (pa_cons (pv 5) (pa_cons pe_bl pa_nil)))) pa_nil)) pa_nil)))) pss_nil)))
      (pss_one (ps_ret (pe_callB (call_sortedD rfl) (by rfl) ms PyProof.Rows.boot_sorted (pa_cons (pv 2) pa_nil)))))), ?_⟩
    obtain ⟨l, st, j, t, sa, ja, hI⟩ := id hN
    intro d hd
    have s0 : Same H (upd H d (.dK [])) := same_upd hd
    have sj : ∀ H', Same H H' → SqT K H' j (ja.map fun p => V.ref p.1) := fun H' s1 => sqt_tk (TK.of s1) hI.sj
    refine ⟨.ref a, rfl, a, _, 2, .ref j, rfl, rfl, SqT.of (s0 _ _ hI.top), atI_nat (j := 2) rfl, j, rfl, ⟨_, sj _ s0⟩, ?_⟩
    refine for_tup (K := K) (a := j) (xs := ja.map fun p => V.ref p.1) (fun i σ H1 => ∃ (kvs : List (Key × V)) (y3 y4 y5 : Option V), σ = [some (.ref a), some (.str x), some (.ref d), y3, y4, y5] ∧ Same H H1 ∧ H1 d = some (.dK kvs) ∧ Keyed N.lines kvs ∧
        ∀ y, (valV kvs (Sum.inr y)).isSome = true ↔ x ≠ y ∧ ∃ j', j' < i ∧ ∃ nm ls, N.juncs[j']? = some (nm, ls) ∧ x ∈ ls ∧ y ∈ ls)
      ⟨[], none, none, none, rfl, s0, upd_same, .nil _, fun y => ⟨fun h => (nomatch h), fun ⟨_, j', h, _⟩ => absurd h (Nat.not_lt_zero _)⟩⟩ (fun i σ H1 _ ⟨_, _, _, _, _, s1, _⟩ => sj _ s1) ?_ ?_
    · rintro i v σ H1 hv ⟨kvs, y3, y4, y5, rfl, s1, ed, kd, hk⟩
      rw [List.getElem?_map] at hv
      cases hq : ja[i]? with
      | none =>
        rw [hq] at hv
        cases hv
      | some q =>
      rw [hq] at hv
      obtain rfl : V.ref q.1 = v := Option.some.inj hv
      obtain ⟨⟨nm, ls⟩, hj, h1, h2⟩ := paired_at hI.jp hq
      have hm := List.mem_of_getElem? hj
      have sub := ok.sub _ hm
      have e1 := s1 _ _ h1
      have e2 := s1 _ _ h2
      refine ⟨q.1, _, rfl, SqT.of e1, rfl, .str nm, _, rfl, .ref q.2, [], rfl, rfl, ?_⟩
      refine ⟨.str x, rfl, .ref q.2, rfl, q.2, _, rfl, .inr (SqT.of e2), rfl, flat_strs ls, _, rfl, ite2 (fun h => ?_) (fun h => ?_)⟩
      · have hx : x ∈ ls := of_decide_eq_true ((inV_strs x ls).symm.trans h)
        refine ⟨.ref d, rfl, .inr (.inr (.inl ⟨rfl, .inl ⟨_, ed⟩⟩)), .ref q.2, rfl, q.2, rfl, ⟨_, SqT.of e2⟩, fun D hD => ?_⟩
        refine lc_tup (K := K) (a := q.2) (xs := ls.map V.str) (fun n H2 => ∃ ps : List Addr, H2 D = some (.lst (ps.map V.ref)) ∧ ps.length ≤ n ∧ Paired (fun p (kv : Key × V) => SqT K H2 p [kV kv.1, kv.2]) ps (((ls.take n).filter fun y => decide (y ≠ x)).map fun y => ((Sum.inr y : Key), V.bl true)) ∧ Same H1 H2)
          ⟨[], upd_same, Nat.le_refl _, .nil, same_upd hD⟩ (fun n H2 _ ⟨_, _, _, _, s2⟩ => SqT.of (s2 _ _ e2)) ?_ ?_
        · rintro n v H2 hv2 ⟨ps, eD, lp, pp, s2⟩
          obtain ⟨y, hy, rfl⟩ := strs_of hv2
          have ln : n < 8 := Nat.lt_of_lt_of_le (List.getElem?_eq_some_iff.mp hy).1 sub.1
          refine ⟨rfl, .str y, rfl, .str x, rfl, rfl, _, rfl, ite2 (fun h => ?_) (fun h => ?_)⟩
          · have hne : y ≠ x := fun e => by
              subst e
              rw [decide_eq_true rfl] at h
              cases h
            refine ⟨.str y, rfl, by show 2 ≤ sizeLine; decide, fun p hp => ?_⟩
            have s3 : Same H2 (upd H2 p (.tup [.str y, .bl true])) := same_upd hp
            have eD3 := s3 _ _ eD
            have ep : (upd H2 p (.tup [.str y, .bl true])) p = some (.tup [.str y, .bl true]) := upd_same
            generalize upd H2 p (.tup [.str y, .bl true]) = H3 at s3 eD3 ep
            refine ⟨_, eD3, ?_, ps ++ [p], ?_, ?_, ?_, same_mut (s2.trans s3) hD⟩
            · rw [List.length_map]
              exact small1000 (by omega)
            · rw [upd_same, List.map_append]
              rfl
            · rw [List.length_append, List.length_singleton]
              omega
            · have tk2 : TK H3 (upd H3 D (.lst (ps.map V.ref ++ [V.ref p]))) := TK.write eD3 .lst
              rw [take_snoc hy, List.filter_append, List.map_append]
              have e : [y].filter (fun y => decide (y ≠ x)) = [y] := by
                rw [List.filter_cons, if_pos (decide_eq_true hne)]
                rfl
              rw [e]
              exact (Paired.mapP pp fun p kv h => sqt_tk ((TK.of s3).trans tk2) h).snoc (SqT.of (tk2.t _ _ ep))
          · have he : y = x := Decidable.byContradiction fun hne => h (by rw [decide_eq_false (fun e => hne (V.str.inj e))]; rfl)
            refine ⟨ps, eD, by omega, ?_, s2⟩
            rw [take_snoc hy, List.filter_append]
            have e : [y].filter (fun y => decide (y ≠ x)) = [] := by
              rw [List.filter_cons, if_neg (by rw [he]; simp)]
              rfl
            rw [e, List.append_nil]
            exact pp
        · rintro H2 ⟨ps, eD, lp, pp, s2⟩
          rw [List.length_map, List.take_length] at pp
          refine ⟨D, ps, _, rfl, SqL.of eD, pp, fun d2 hd2 => ?_⟩
          generalize hmore : ((ls.filter fun y => decide (y ≠ x)).map fun y => ((Sum.inr y : Key), V.bl true)) = more
          have s3 : Same H2 (upd H2 d2 (.dK (mergeK [] more))) := same_upd hd2
          have e3 : (upd H2 d2 (.dK (mergeK [] more))) d2 = some (.dK (mergeK [] more)) := upd_same
          have ed2 := s3 _ _ (s2 _ _ ed)
          have nd2 : d ≠ d2 := ne_of_none (s2 _ _ ed) hd2
          have hkeys : ∀ p ∈ more, ∃ y, p.1 = Sum.inr y ∧ y ∈ N.lines := fun p hp => by
            rw [← hmore] at hp
            obtain ⟨y, hy, rfl⟩ := List.mem_map.mp hp
            exact ⟨y, rfl, sub.2 y (List.mem_filter.mp hy).1⟩
          have kd2 : Keyed N.lines (mergeK [] more) := (Keyed.nil _).merge hkeys
          have hin : ∀ y, (Sum.inr y : Key) ∈ more.map (·.1) ↔ y ∈ ls ∧ y ≠ x := fun y => by
            rw [← hmore, List.map_map]
            constructor
            · intro hm
              obtain ⟨z, hz, e⟩ := List.mem_map.mp hm
              have e' : z = y := Sum.inr.inj e
              rw [e'] at hz
              exact ⟨(List.mem_filter.mp hz).1, of_decide_eq_true (List.mem_filter.mp hz).2⟩
            · rintro ⟨h1, h2⟩
              exact List.mem_map.mpr ⟨y, List.mem_filter.mpr ⟨h1, decide_eq_true h2⟩, rfl⟩
          refine ⟨d, d2, kvs, mergeK [] more, rfl, rfl, nd2, ed2, e3, ?_, ?_⟩
          · have h1 := kd.le
            have h2 := kd2.le
            have h3 := ok.l1
            exact Nat.le_trans (show _ ≤ 1000 by omega) (Nat.le_of_lt (small1000 (Nat.le_refl _)))
          · refine ⟨_, _, _, _, rfl, same_mut (s1.trans (Same.trans s2 s3)) hd, upd_same, kd.merge fun p hp => kd2.txt p.1 (List.mem_map_of_mem hp), fun y => ?_⟩
            rw [merge_some, key_iff, merge_some, hk y, hin y]
            constructor
            · rintro (⟨h1, j', h2, h3⟩ | h | ⟨h1, h2⟩)
              · exact ⟨h1, j', by omega, h3⟩
              · cases h
              · exact ⟨fun e => h2 e.symm, i, by omega, nm, ls, hj, hx, h1⟩
            · rintro ⟨h1, j', h2, nm', ls', h3, h4, h5⟩
              by_cases hji : j' < i
              · exact .inl ⟨h1, j', hji, nm', ls', h3, h4, h5⟩
              · have e : j' = i := by omega
                subst e
                rw [hj] at h3
                cases h3
                exact .inr (.inr ⟨h5, fun e => h1 e.symm⟩)
      · have hx : ¬ x ∈ ls := fun hm2 => h ((inV_strs x ls).trans (decide_eq_true hm2))
        refine ⟨kvs, _, _, _, rfl, s1, ed, kd, fun y => ?_⟩
        rw [hk y]
        constructor
        · rintro ⟨h1, j', h2, h3⟩
          exact ⟨h1, j', by omega, h3⟩
        · rintro ⟨h1, j', h2, nm', ls', h3, h4, h5⟩
          by_cases hji : j' < i
          · exact ⟨h1, j', hji, nm', ls', h3, h4, h5⟩
          · have e : j' = i := by omega
            subst e
            rw [hj] at h3
            cases h3
            exact absurd h4 hx
    · rintro σ H1 ⟨kvs, y3, y4, y5, rfl, s1, ed, kd, hk⟩
      obtain ⟨ks, h1, h2, h3⟩ := kd.keys
      have h4 := kd.le
      have h5 := ok.l1
      refine ⟨.ref d, rfl, d, kvs, ks, rfl, .inl ed, h1, by omega, fun ys p hp _ hn => ?_⟩
      refine k p ys _ (s1.trans (same_upd hn)) (s1.free hn) upd_same (by rw [hp.length_eq]; omega) fun y => ?_
      rw [hp.mem_iff, h3 y, hk y]
      constructor
      · rintro ⟨h1, j', _, nm, ls, h2, h3, h4⟩
        exact ⟨h1, (nm, ls), List.mem_of_getElem? h2, h3, h4⟩
      · rintro ⟨h1, ⟨nm, ls⟩, h2, h3, h4⟩
        obtain ⟨i, hi, e⟩ := List.mem_iff_getElem.mp h2
        refine ⟨h1, i, ?_, nm, ls, by rw [List.getElem?_eq_getElem hi, e], h3, h4⟩
        rw [List.length_map, paired_len hI.jp]
        exact hi
end
end K47
set_option maxHeartbeats 4000000
/-! K47Steps: steps_to: breadth first. -/
namespace K47
open PySem PySem.Spec PyProof.Rows L2
/-- the line x has n steps -/
def StepsIs (kvs : List (Key × V)) (x : Str) (n : Nat) : Prop := valV kvs (Sum.inr x) = some (.int (n : Int))
abbrev Has (kvs : List (Key × V)) (x : Str) : Prop := (valV kvs (Sum.inr x)).isSome = true
/-- what holds of the table of steps at every moment -/
structure Bfs (N : Net) (gs : List Str) (kvs : List (Key × V)) : Prop where
  kd : Keyed N.lines kvs
  val : ∀ x, Has kvs x → ∃ n : Nat, StepsIs kvs x n ∧ n < kvs.length
  goal : ∀ g ∈ gs, StepsIs kvs g 0
  down : ∀ x n, StepsIs kvs x (n + 1) → ∃ y, Linked N x y ∧ StepsIs kvs y n
/-- all neighbours of x have steps -/
def Closed (N : Net) (kvs : List (Key × V)) (x : Str) : Prop := ∀ y, Linked N x y → Has kvs y
theorem StepsIs.has {kvs : List (Key × V)} {x : Str} {n : Nat} (h : StepsIs kvs x n) : Has kvs x := by
  unfold Has
  rw [show valV kvs (Sum.inr x) = _ from h]
  rfl
theorem Linked.sub {N : Net} (ok : NetOk N) {x y : Str} (h : Linked N x y) : y ∈ N.lines := by
  obtain ⟨_, j, hj, _, hy⟩ := h
  exact (ok.sub j hj).2 y hy
theorem has_put {kvs : List (Key × V)} {o : Str} {v : V} {x : Str} : Has (putK kvs (Sum.inr o) v) x ↔ x = o ∨ Has kvs x := by
  unfold Has
  rw [put_some]
  exact ⟨fun h => h.elim (fun e => .inl (Sum.inr.inj e)) .inr, fun h => h.elim (fun e => .inl (by rw [e])) .inr⟩
theorem Closed.mono {N : Net} {kvs kvs' : List (Key × V)} {x : Str} (h : Closed N kvs x) (hm : ∀ y, Has kvs y → Has kvs' y) : Closed N kvs' x := fun y hy => hm y (h y hy)
theorem len_put {kvs : List (Key × V)} {o : Str} {v : V} (h : valV kvs (Sum.inr o) = none) : (putK kvs (Sum.inr o) v).length = kvs.length + 1 := by
  rw [putK_new v h, List.length_append]
  rfl
/-- a new line, one step behind a known one -/
theorem Bfs.put {N : Net} {gs : List Str} {kvs : List (Key × V)} (ok : NetOk N) (b : Bfs N gs kvs) {l o : Str} {n : Nat} (hl : StepsIs kvs l n) (ho : valV kvs (Sum.inr o) = none) (hlo : Linked N l o) : Bfs N gs (putK kvs (Sum.inr o) (.int ((n : Int) + 1))) := by
  have old : ∀ x, Has kvs x → valV (putK kvs (Sum.inr o) (.int ((n : Int) + 1))) (Sum.inr x) = valV kvs (Sum.inr x) := fun x hx => by
    rw [valV_put, if_neg]
    intro e
    rw [Sum.inr.inj e] at hx
    unfold Has at hx
    rw [ho] at hx
    cases hx
  have new : valV (putK kvs (Sum.inr o) (.int ((n : Int) + 1))) (Sum.inr o) = some (.int ((n : Int) + 1)) := by rw [valV_put, if_pos rfl]
  have hn : n < kvs.length := by
    obtain ⟨m, hm, hlt⟩ := b.val l hl.has
    unfold StepsIs at hl hm
    rw [hl] at hm
    have e : (n : Int) = (m : Int) := V.int.inj (Option.some.inj hm)
    omega
  refine ⟨b.kd.put (hlo.sub ok) _, fun x hx => ?_, fun g hg => ?_, fun x m hx => ?_⟩
  · rw [len_put ho]
    rcases has_put.mp hx with e | hx
    · subst e
      refine ⟨n + 1, ?_, by omega⟩
      unfold StepsIs
      rw [new]
      rfl
    · obtain ⟨m, hm, hlt⟩ := b.val x hx
      refine ⟨m, ?_, by omega⟩
      unfold StepsIs
      rw [old x hx]
      exact hm
  · have h := b.goal g hg
    unfold StepsIs
    rw [old g h.has]
    exact h
  · by_cases e : x = o
    · subst e
      unfold StepsIs at hx
      rw [new] at hx
      have e2 : (n : Int) + 1 = ((m + 1 : Nat) : Int) := V.int.inj (Option.some.inj hx)
      have e3 : m = n := by omega
      subst e3
      refine ⟨l, hlo.symm, ?_⟩
      unfold StepsIs
      rw [old l hl.has]
      exact hl
    · unfold StepsIs at hx
      rw [valV_put, if_neg (fun z => e (Sum.inr.inj z))] at hx
      obtain ⟨y, h1, h2⟩ := b.down x m hx
      refine ⟨y, h1, ?_⟩
      unfold StepsIs
      rw [old y h2.has]
      exact h2
section
variable {P : Program} {w : World} {K : PySem.W.Frag} {mg : Str → Option Value} {base : Heap}
abbrev nSteps : List Str := ["net", "goals", "line", "found", "newest", "behind", "other"]
theorem scSteps : FnScope nSteps ["net", "goals"] (defScope sSteps) := ⟨rfl, rfl, rfl, by decide +kernel, rfl, by decide +kernel, by decide +kernel⟩
def spSteps : Sp := fun vs H Q _ => ∃ (a g : Addr) (N : Net) (gs : List Str), vs = [.ref a, .ref g] ∧ NetAt H a N ∧ NetOk N ∧ H g = some (.lst (gs.map V.str)) ∧ gs.length ≤ 8 ∧ (∀ x ∈ gs, x ∈ N.lines) ∧
  ∀ (d : Addr) (kvs : List (Key × V)) (H' : Hp), Same H H' → H d = none → H' d = some (.dK kvs) → Bfs N gs kvs → (∀ x, Has kvs x → Closed N kvs x) → Q (.ref d) H'
theorem ok_steps {f fB : Addr} {fd fdB : FuncData} (F : Fn K "steps_to" sSteps f fd) (FB : Fn K "lines_beside" sBeside fB fdB) (bB : Binds K fdB ["net", "line"] []) (gB : mg "lines_beside" = some (.ref fB))
    (md : mg "dict" = none) (ms : mg "sorted" = none) (mli : mg "list" = none) : FnOk P w K mg base CX0 2 f fd ["net", "goals"] spSteps := by
  have GB : FnOk P w K mg base CX0 1 fB fdB ["net", "line"] spBeside := ok_beside FB md ms
  refine F.ok scSteps (fun vs H Q E h => ?_) (fun cdv A outer s H vs Q E hr h => ?_)
  · obtain ⟨a, g, N, gs, rfl, _⟩ := h
    rfl
  · obtain ⟨a, g, N, gs, rfl, hN, ok, hg, l8, sub, k⟩ := h
    have hu := hu_of hr
    refine ⟨_, PSs.nox (pss_cons (ps_set (i := 3) scSteps.nd rfl (.inl rfl) (pe_callTy (call_dictP rfl) (by rfl) md PyProof.Rows.boot_dict (pa_cons
          (pe_lc (own := [("line", 2)]) (g := gName 2) (tt := tYes) rfl scSteps.nd (pi_list (pv 1)) (blkOk_by (N := nSteps) (sc := defScope sSteps) (by decide +kernel)) (fun _ _ _ _ _ => pg_name (i := 2) scSteps.nd rfl (Or.inl rfl)) (fun _ _ _ _ _ => pts_nil)
            (fun _ _ _ _ _ => pe_tup (pa_cons (pv 2) (pa_cons pe_int pa_nil)))) pa_nil)))
      (pss_cons (ps_set (i := 4) scSteps.nd rfl (.inl rfl) (pe_callTy call_list_of (by rfl) mli PyProof.Rows.boot_list (pa_cons (pv 1) pa_nil)))
      (pss_cons (ps_while PassesOwn.never (pt_cmpR (op_neN hr.units) (pv 4) (pe_lst pa_nil) (nomark _))
        (pss_cons (ps_set (i := 5) scSteps.nd rfl (.inl rfl) (pe_lst pa_nil))
        (pss_cons (ps_for PassesOwn.never rfl (pi_list (pv 4)) (pg_name (i := 2) scSteps.nd rfl (.inl rfl))
          (pss_one (ps_for PassesOwn.never rfl (pi_list (pe_call GB hr (by rfl) gB FB.kp bB .nil pass0 (pa_cons (pv 0) (pa_cons (pv 2) pa_nil)))) (pg_name (i := 6) scSteps.nd rfl (.inl rfl))
            (pss_one (ps_if (pt_cmp (pc_dnotin hu (pv 6) (pv 3)))
              (pss_cons (ps_dput hu (pv 3) (pv 6) (pe_op op_add (pe_dget hu (pv 3) (pv 2) (fun _ _ => rfl)) pe_int) rfl)
              (pss_one (ps_expr (pe_bm PySem.F.plainAttrs_list PySem.F.slot_list_append PySem.F.type_list_append mt_append (pv 5) (pa_cons (pv 6) pa_nil))))) pss_nil)))))
        (pss_one (ps_set (i := 4) scSteps.nd rfl (.inl rfl) (pv 5))))))
      (pss_one (ps_ret (pv 3)))))), ?_⟩
    refine ⟨.ref g, rfl, g, rfl, ⟨_, SqL.of hg⟩, fun D hD => ?_⟩
    refine lc_list (K := K) (a := g) (xs := gs.map V.str) (fun n H2 => ∃ ps : List Addr, H2 D = some (.lst (ps.map V.ref)) ∧ ps.length = n ∧ Paired (fun p (kv : Key × V) => SqT K H2 p [kV kv.1, kv.2]) ps ((gs.take n).map fun y => ((Sum.inr y : Key), V.int 0)) ∧ Same H H2)
      ⟨[], upd_same, rfl, .nil, same_upd hD⟩ (fun n H2 _ ⟨_, _, _, _, s2⟩ => SqL.of (s2 _ _ hg)) ?_ ?_
    · rintro n v H2 hv2 ⟨ps, eD, lp, pp, s2⟩
      obtain ⟨y, hy, rfl⟩ := strs_of hv2
      have ln : n < 8 := Nat.lt_of_lt_of_le (List.getElem?_eq_some_iff.mp hy).1 l8
      refine ⟨rfl, .str y, rfl, by show 2 ≤ sizeLine; decide, fun p hp => ?_⟩
      have s3 : Same H2 (upd H2 p (.tup [.str y, .int 0])) := same_upd hp
      have eD3 := s3 _ _ eD
      have ep : (upd H2 p (.tup [.str y, .int 0])) p = some (.tup [.str y, .int 0]) := upd_same
      generalize upd H2 p (.tup [.str y, .int 0]) = H3 at s3 eD3 ep
      refine ⟨_, eD3, ?_, ps ++ [p], ?_, ?_, ?_, same_mut (s2.trans s3) hD⟩
      · rw [List.length_map]
        exact small1000 (by omega)
      · rw [upd_same, List.map_append]
        rfl
      · rw [List.length_append, List.length_singleton, lp]
      · have tk2 : TK H3 (upd H3 D (.lst (ps.map V.ref ++ [V.ref p]))) := TK.write eD3 .lst
        rw [take_snoc hy, List.map_append]
        exact (Paired.mapP pp fun p kv h => sqt_tk ((TK.of s3).trans tk2) h).snoc (SqT.of (tk2.t _ _ ep))
    · rintro H2 ⟨ps, eD, lp, pp, s2⟩
      rw [List.length_map, List.take_length] at pp
      refine ⟨D, ps, _, rfl, SqL.of eD, pp, fun d hd => ?_⟩
      have fd : H d = none := s2.free hd
      generalize hmore : (gs.map fun y => ((Sum.inr y : Key), V.int 0)) = more
      have s3 : Same H2 (upd H2 d (.dK (mergeK [] more))) := same_upd hd
      have e3 : (upd H2 d (.dK (mergeK [] more))) d = some (.dK (mergeK [] more)) := upd_same
      have sH3 : Same H (upd H2 d (.dK (mergeK [] more))) := Same.trans s2 s3
      generalize upd H2 d (.dK (mergeK [] more)) = H3 at s3 e3 sH3
      have hin : ∀ y, (Sum.inr y : Key) ∈ more.map (·.1) ↔ y ∈ gs := fun y => by
        rw [← hmore, List.map_map]
        constructor
        · intro hm
          obtain ⟨z, hz, e⟩ := List.mem_map.mp hm
          have e' : z = y := Sum.inr.inj e
          rw [← e']
          exact hz
        · exact fun h => List.mem_map.mpr ⟨y, h, rfl⟩
      have hall : ∀ x, Has (mergeK [] more) x → StepsIs (mergeK [] more) x 0 := fun x hx => by
        cases e : valV (mergeK [] more) (Sum.inr x) with
        | none =>
          unfold Has at hx
          rw [e] at hx
          cases hx
        | some v =>
          have ev : v = V.int 0 := merge_val (w := V.int 0) (fun p hp => by
            rw [← hmore] at hp
            obtain ⟨y, hy, rfl⟩ := List.mem_map.mp hp
            rfl) (fun u hu => by cases hu) e
          unfold StepsIs
          rw [e, ev]
          rfl
      have hgs : ∀ x, Has (mergeK [] more) x ↔ x ∈ gs := fun x => by
        unfold Has
        rw [merge_some, hin x]
        exact ⟨fun h => h.elim (fun z => by cases z) id, .inr⟩
      have bfs : Bfs N gs (mergeK [] more) := by
        refine ⟨(Keyed.nil _).merge fun p hp => ?_, fun x hx => ⟨0, hall x hx, ?_⟩, fun g hg => hall g ((hgs g).mpr hg), fun x n hx => ?_⟩
        · rw [← hmore] at hp
          obtain ⟨y, hy, rfl⟩ := List.mem_map.mp hp
          exact ⟨y, rfl, sub y hy⟩
        · have hk := (key_iff (mergeK [] more) (Sum.inr x)).mpr hx
          have := List.length_pos_of_mem hk
          rwa [List.length_map] at this
        · have h0 := hall x hx.has
          unfold StepsIs at hx h0
          rw [h0] at hx
          have e : ((0 : Nat) : Int) = ((n + 1 : Nat) : Int) := V.int.inj (Option.some.inj hx)
          omega
      -- newest = list(goals)
      refine ⟨.ref g, rfl, g, _, rfl, .inl (SqL.of (sH3 _ _ hg)), fun nw hnw => ?_⟩
      refine ⟨fun m σ H4 => ∃ (nw : Addr) (ns : List Str) (kvs : List (Key × V)) (y2 y5 y6 : Option V), m = (8 - kvs.length) * 2 + (if ns = [] then 0 else 1) ∧ σ = [some (.ref a), some (.ref g), y2, some (.ref d), some (.ref nw), y5, y6] ∧ Same H H4 ∧ H4 d = some (.dK kvs) ∧
          H4 nw = some (.lst (ns.map V.str)) ∧ Bfs N gs kvs ∧ (∀ x ∈ ns, Has kvs x) ∧ (∀ x, Has kvs x → x ∈ ns ∨ Closed N kvs x) ∧ ns.length ≤ 8,
        ⟨_, nw, gs, mergeK [] more, none, none, none, rfl, rfl, Same.trans sH3 (same_upd hnw), same_upd hnw _ _ e3, upd_same, bfs, fun x hx => (hgs x).mpr hx, fun x hx => .inl ((hgs x).mp hx), l8⟩, ?_⟩
      rintro m σ H4 ⟨nw, ns, kvs, y2, y5, y6, em, rfl, s4, ed, en, bf, hns, hcl, ln8⟩
      refine ⟨.ref nw, rfl, Nat.zero_le _, fun e he => ⟨nw, e, _, rfl, rfl, SqL.of (same_upd he _ _ en), SqL.of upd_same, _, rfl, ite2 (fun h => ?_) (fun h => ?_)⟩⟩
      · have hne : ns ≠ [] := fun z => by
          subst z
          cases h
        have s5 : Same H4 (upd H4 e (.lst [])) := same_upd he
        generalize upd H4 e (.lst []) = H5 at s5
        have ed5 := s5 _ _ ed
        have en5 := s5 _ _ en
        refine ⟨fun σ' H' => ∃ m', m' < m ∧ ∃ (nw : Addr) (ns : List Str) (kvs : List (Key × V)) (y2 y5 y6 : Option V), m' = (8 - kvs.length) * 2 + (if ns = [] then 0 else 1) ∧ σ' = [some (.ref a), some (.ref g), y2, some (.ref d), some (.ref nw), y5, y6] ∧ Same H H' ∧ H' d = some (.dK kvs) ∧
          H' nw = some (.lst (ns.map V.str)) ∧ Bfs N gs kvs ∧ (∀ x ∈ ns, Has kvs x) ∧ (∀ x, Has kvs x → x ∈ ns ∨ Closed N kvs x) ∧ ns.length ≤ 8, fun σ' H' h => h, Nat.zero_le _, fun bh hbh => ?_⟩
        have s6 : Same H5 (upd H5 bh (.lst [])) := same_upd hbh
        have e6 : (upd H5 bh (.lst [])) bh = some (.lst []) := upd_same
        have sH6 : Same H (upd H5 bh (.lst [])) := (Same.trans s4 s5).trans s6
        have fbh : H bh = none := (Same.trans s4 s5).free hbh
        have nbd : bh ≠ d := (ne_of_none ed5 hbh).symm
        have nbn : nw ≠ bh := ne_of_none en5 hbh
        have ed6 := s6 _ _ ed5
        have en6 := s6 _ _ en5
        generalize upd H5 bh (.lst []) = H6 at s6 e6 sH6 ed6 en6
        have nwd : nw ≠ d := ne_of en6 ed6 (fun z => nomatch z)
        refine ⟨.ref nw, rfl, nw, rfl, ⟨_, SqL.of en6⟩, for_list (K := K) (a := nw) (xs := ns.map V.str) (fun i σ H7 => ∃ (bs : List Str) (kvs' : List (Key × V)) (y2 y6 : Option V), σ = [some (.ref a), some (.ref g), y2, some (.ref d), some (.ref nw), some (.ref bh), y6] ∧ Same H H7 ∧ H7 d = some (.dK kvs') ∧
            H7 nw = some (.lst (ns.map V.str)) ∧ H7 bh = some (.lst (bs.map V.str)) ∧ Bfs N gs kvs' ∧ (∀ x ∈ bs, Has kvs' x) ∧ (∀ x, Has kvs' x → x ∈ bs ∨ x ∈ ns.drop i ∨ Closed N kvs' x) ∧ kvs'.length = kvs.length + bs.length ∧ ∀ x, Has kvs x → Has kvs' x)
          ⟨[], kvs, _, _, rfl, sH6, ed6, en6, e6, bf, fun x hx => (nomatch hx), fun x hx => .inr (hcl x hx), rfl, fun x hx => hx⟩ (fun i σ H7 _ ⟨_, _, _, _, _, _, _, en7, _⟩ => SqL.of en7) ?_ ?_⟩
        · -- a line of the newest
          rintro i v σ H7 hv ⟨bs, kvs', y2, y6, rfl, s7, ed7, en7, eb7, bf7, hb7, hc7, hl7, hm7⟩
          obtain ⟨l, hl, rfl⟩ := strs_of hv
          have hsl : Has kvs' l := hm7 l (hns l (List.mem_of_getElem? hl))
          refine ⟨.ref a, rfl, .str l, rfl, a, l, N, rfl, hN.keep (TK.of s7), ok, fun lb ys H8 s8 flb elb lys hys => ?_⟩
          have nld : lb ≠ d := (ne_of_none ed7 flb).symm
          have nlb : lb ≠ bh := (ne_of_none eb7 flb).symm
          refine ⟨lb, rfl, ⟨_, SqL.of elb⟩, for_list (K := K) (a := lb) (xs := ys.map V.str) (fun j σ H9 => ∃ (bs : List Str) (kvs' : List (Key × V)) (y6 : Option V), σ = [some (.ref a), some (.ref g), some (.str l), some (.ref d), some (.ref nw), some (.ref bh), y6] ∧ Same H H9 ∧ H9 d = some (.dK kvs') ∧
              H9 nw = some (.lst (ns.map V.str)) ∧ H9 bh = some (.lst (bs.map V.str)) ∧ H9 lb = some (.lst (ys.map V.str)) ∧ Bfs N gs kvs' ∧ (∀ x ∈ bs, Has kvs' x) ∧ (∀ x, Has kvs' x → x ∈ bs ∨ x ∈ ns.drop (i + 1) ∨ x = l ∨ Closed N kvs' x) ∧ kvs'.length = kvs.length + bs.length ∧ (∀ x, Has kvs x → Has kvs' x) ∧
              Has kvs' l ∧ ∀ y ∈ ys.take j, Has kvs' y)
            ⟨bs, kvs', _, rfl, Same.trans s7 s8, s8 _ _ ed7, s8 _ _ en7, s8 _ _ eb7, elb, bf7, hb7, fun x hx => ?_, hl7, hm7, hsl, fun y hy => by rw [List.take_zero] at hy; cases hy⟩ (fun j σ H9 _ ⟨_, _, _, _, _, _, _, _, el9, _⟩ => SqL.of el9) ?_ ?_⟩
          · rcases hc7 x hx with h | h | h
            · exact .inl h
            · have hi : i < ns.length := (List.getElem?_eq_some_iff.mp hl).1
              rw [List.drop_eq_getElem_cons hi] at h
              rcases List.mem_cons.mp h with h | h
              · have e : ns[i] = l := by
                  rw [List.getElem?_eq_getElem hi] at hl
                  exact Option.some.inj hl
                exact .inr (.inr (.inl (by rw [h, e])))
              · exact .inr (.inl h)
            · exact .inr (.inr (.inr h))
          · -- a neighbour
            rintro j v σ H9 hv2 ⟨bs, kvs', y6, rfl, s9, ed9, en9, eb9, el9, bf9, hb9, hc9, hl9, hm9, hsl9, ht9⟩
            obtain ⟨o, ho, rfl⟩ := strs_of hv2
            have hlo : Linked N l o := (hys o).mp (List.mem_of_getElem? ho)
            refine ⟨.str o, rfl, .ref d, rfl, d, _, rfl, DGet.k (k := Sum.inr o) ed9, _, rfl, ?_⟩
            cases e : valV kvs' (Sum.inr o : Key) with
            | some v =>
              refine iteF ⟨bs, kvs', _, rfl, s9, ed9, en9, eb9, el9, bf9, hb9, hc9, hl9, hm9, hsl9, fun y hy => ?_⟩
              rw [take_snoc ho] at hy
              rcases List.mem_append.mp hy with h | h
              · exact ht9 y h
              · rw [List.mem_singleton.mp h]
                unfold Has
                rw [e]
                rfl
            | none =>
              refine iteT ?_
              obtain ⟨n, hn, hlt⟩ := bf9.val l hsl9
              have bf10 := bf9.put ok hn e hlo
              have hle := bf10.kd.le
              have hl8 := ok.l1
              have hlp := len_put (v := V.int ((n : Int) + 1)) e
              have has_mono : ∀ x, Has kvs' x → Has (putK kvs' (Sum.inr o) (.int ((n : Int) + 1))) x := fun x hx => has_put.mpr (.inr hx)
              refine ⟨.ref d, rfl, .str l, rfl, d, _, rfl, by rw [← show valV kvs' (Sum.inr l) = _ from hn]; exact DGet.k (k := Sum.inr l) ed9, (n : Int), 1, rfl, rfl, .ref d, rfl, .str o, rfl, d, _, rfl, DPut.k (k := Sum.inr o) ed9 (small1000 (by omega)), ?_⟩
              have eb10 : (upd H9 d (.dK (putK kvs' (Sum.inr o) (.int ((n : Int) + 1))))) bh = some (.lst (bs.map V.str)) := by
                rw [upd_ne nbd]
                exact eb9
              refine ⟨.ref bh, rfl, .inl ⟨rfl, _, SqL.of eb10⟩, .str o, rfl, bh, _, _, rfl, rfl, eb10, ?_, ?_⟩
              · rw [List.length_map]
                exact small1000 (by omega)
              · refine ⟨bs ++ [o], putK kvs' (Sum.inr o) (.int ((n : Int) + 1)), _, rfl, same_mut (same_mut s9 fd) fbh, ?_, ?_, ?_, ?_, bf10, fun x hx => ?_, fun x hx => ?_, ?_, fun x hx => has_mono x (hm9 x hx), has_mono l hsl9, fun y hy => ?_⟩
                · rw [upd_ne nbd.symm, upd_same]
                · rw [upd_ne nbn, upd_ne nwd]
                  exact en9
                · rw [upd_same, List.map_append]
                  rfl
                · rw [upd_ne nlb, upd_ne nld]
                  exact el9
                · rcases List.mem_append.mp hx with h | h
                  · exact has_mono x (hb9 x h)
                  · rw [List.mem_singleton.mp h]
                    exact has_put.mpr (.inl rfl)
                · rcases has_put.mp hx with h | h
                  · rw [h]
                    exact .inl (List.mem_append_right _ (List.mem_singleton.mpr rfl))
                  · rcases hc9 x h with h | h | h | h
                    · exact .inl (List.mem_append_left _ h)
                    · exact .inr (.inl h)
                    · exact .inr (.inr (.inl h))
                    · exact .inr (.inr (.inr (h.mono has_mono)))
                · rw [hlp, List.length_append, List.length_singleton]
                  omega
                · rw [take_snoc ho] at hy
                  rcases List.mem_append.mp hy with h | h
                  · exact has_mono y (ht9 y h)
                  · rw [List.mem_singleton.mp h]
                    exact has_put.mpr (.inl rfl)
          · -- the line's neighbours are through
            rintro σ H9 ⟨bs, kvs', y6, rfl, s9, ed9, en9, eb9, el9, bf9, hb9, hc9, hl9, hm9, hsl9, ht9⟩
            refine ⟨bs, kvs', _, _, rfl, s9, ed9, en9, eb9, bf9, hb9, fun x hx => ?_, hl9, hm9⟩
            rcases hc9 x hx with h | h | h | h
            · exact .inl h
            · exact .inr (.inl h)
            · refine .inr (.inr ?_)
              subst h
              intro y hy
              refine ht9 y ?_
              rw [List.length_map, List.take_length]
              exact (hys y).mpr hy
            · exact .inr (.inr h)
        · -- the newest are through
          rintro σ H7 ⟨bs, kvs', y2, y6, rfl, s7, ed7, en7, eb7, bf7, hb7, hc7, hl7, hm7⟩
          have hle := bf7.kd.le
          have hl8 := ok.l1
          refine ⟨.ref bh, rfl, (8 - kvs'.length) * 2 + (if bs = [] then 0 else 1), ?_, bh, bs, kvs', _, _, _, rfl, rfl, s7, ed7, eb7, bf7, hb7, fun x hx => ?_, by omega⟩
          · rw [em, if_neg hne]
            by_cases hb : bs = []
            · rw [if_pos hb]
              subst hb
              rw [List.length_nil] at hl7
              omega
            · rw [if_neg hb]
              have : 0 < bs.length := List.length_pos_iff.mpr hb
              omega
          · rcases hc7 x hx with h | h | h
            · exact .inl h
            · rw [List.length_map, List.drop_length] at h
              cases h
            · exact .inr h
      · have hnil : ns = [] := by
          cases ns with
          | nil => rfl
          | cons z r => exact absurd rfl h
        subst hnil
        have s5 : Same H4 (upd H4 e (.lst [])) := same_upd he
        exact ⟨.ref d, rfl, k d kvs _ (Same.trans s4 s5) fd (s5 _ _ ed) bf fun x hx => (hcl x hx).elim (fun z => by cases z) id⟩
end
end K47
set_option maxHeartbeats 4000000
/-! K47Road: shortest_road, gap_road, lacking. -/
namespace K47
open PySem PySem.Spec PyProof.Rows L2
theorem steps_uniq {kvs : List (Key × V)} {x : Str} {n m : Nat} (h1 : StepsIs kvs x n) (h2 : StepsIs kvs x m) : n = m := by
  unfold StepsIs at h1 h2
  rw [h1] at h2
  have e : (n : Int) = (m : Int) := V.int.inj (Option.some.inj h2)
  omega
section
variable {P : Program} {w : World} {K : PySem.W.Frag} {mg : Str → Option Value} {base : Heap}
abbrev nRoad : List Str := ["net", "line", "goals", "steps", "found", "other"]
theorem scRoad : FnScope nRoad ["net", "line", "goals"] (defScope sRoad) := ⟨rfl, rfl, rfl, by decide +kernel, rfl, by decide +kernel, by decide +kernel⟩
def spRoad : Sp := fun vs H Q _ => ∃ (a g : Addr) (x : Str) (N : Net) (gs : List Str), vs = [.ref a, .str x, .ref g] ∧ NetAt H a N ∧ NetOk N ∧ H g = some (.lst (gs.map V.str)) ∧ gs.length ≤ 8 ∧ (∀ x ∈ gs, x ∈ N.lines) ∧
  ∀ (l : Addr) (rd : List Str) (H' : Hp), Same H H' → H l = none → H' l = some (.lst (rd.map V.str)) → rd.length ≤ 20 → (x ∈ gs → rd = [x]) → Q (.ref l) H'
theorem ok_road {f fS fB : Addr} {fd fdS fdB : FuncData} (F : Fn K "shortest_road" sRoad f fd) (FS : Fn K "steps_to" sSteps fS fdS) (bS : Binds K fdS ["net", "goals"] []) (gS : mg "steps_to" = some (.ref fS))
    (FB : Fn K "lines_beside" sBeside fB fdB) (bB : Binds K fdB ["net", "line"] []) (gB : mg "lines_beside" = some (.ref fB)) (md : mg "dict" = none) (ms : mg "sorted" = none) (mli : mg "list" = none) : FnOk P w K mg base CX0 3 f fd ["net", "line", "goals"] spRoad := by
  have GB : FnOk P w K mg base CX0 1 fB fdB ["net", "line"] spBeside := ok_beside FB md ms
  have GS : FnOk P w K mg base CX0 2 fS fdS ["net", "goals"] spSteps := ok_steps FS FB bB gB md ms mli
  refine F.ok scRoad (fun vs H Q E h => ?_) (fun cdv A outer s H vs Q E hr h => ?_)
  · obtain ⟨a, g, x, N, gs, rfl, _⟩ := h
    rfl
  · obtain ⟨a, g, x, N, gs, rfl, hN, ok, hg, l8, sub, k⟩ := h
    have hu := hu_of hr
    have hr1 : Room 1 _ := hr.mono (by decide)
    refine ⟨_, PSs.nox (pss_cons (ps_set (i := 3) scRoad.nd rfl (.inr rfl) (pe_call GS hr (by rfl) gS FS.kp bS .nil pass0 (pa_cons (pv 0) (pa_cons (pv 2) pa_nil))))
      (pss_cons (ps_if (pt_cmp (pc_dnotin hu (pv 1) (pv 3))) (pss_one (ps_ret (pe_lst pa_nil))) pss_nil)
      (pss_cons (ps_set (i := 4) scRoad.nd rfl (.inr rfl) (pe_lst (pa_cons (pv 1) pa_nil)))
      (pss_cons (ps_while PassesOwn.never (pt_cmpR op_gt (pe_dget hu (pv 3) (pe_ix ix_list (pv 4) (pe_un un_neg pe_int) (fun _ _ => rfl)) (fun _ _ => rfl)) pe_int (nomark _))
        (pss_one (ps_expr (pe_bm PySem.F.plainAttrs_list PySem.F.slot_list_append PySem.F.type_list_append mt_append (pv 4) (pa_cons (pe_ix ix_list
          (pe_lc (own := [("other", 5)]) (g := gName 5) rfl scRoad.nd (pi_list (pe_call GB hr1 (by rfl) gB FB.kp bB .nil pass0 (pa_cons (pv 0) (pa_cons (pe_ix ix_list (pv 4) (pe_un un_neg pe_int) (fun _ _ => rfl)) pa_nil))))
            (blkOk_by (N := nRoad) (sc := defScope sRoad) (by decide +kernel)) (fun _ _ _ _ _ => pg_name (i := 5) scRoad.nd rfl (Or.inl rfl))
            (fun _ _ _ _ _ => pts_one (pt_cmpR op_eq (pe_dget hu (pv 3) (pv 5) (fun _ _ => rfl)) (pe_op op_sub (pe_dget hu (pv 3) (pe_ix (r := rIxL K) ix_list (pv 4) (pe_un un_neg pe_int) (fun _ _ => rfl)) (fun _ _ => rfl)) pe_int) (nomark _)))
            (fun _ _ _ _ _ => pv 5)) pe_int (fun _ _ => rfl)) pa_nil)))))
      (pss_one (ps_ret (pv 4))))))), ?_⟩
    refine ⟨.ref a, rfl, .ref g, rfl, a, g, N, gs, rfl, hN, ok, hg, l8, sub, fun d kvs H1 s1 fd ed bf cl => ?_⟩
    refine ⟨.str x, rfl, .ref d, rfl, d, _, rfl, DGet.k (k := Sum.inr x) ed, _, rfl, ?_⟩
    cases e : valV kvs (Sum.inr x : Key) with
    | none =>
      refine iteT ⟨Nat.zero_le _, fun l hl => k l [] _ (s1.trans (same_upd hl)) (s1.free hl) upd_same (Nat.zero_le _) fun hx => ?_⟩
      have := (bf.goal x hx).has
      unfold Has at this
      rw [e] at this
      cases this
    | some v =>
      have hx : Has kvs x := by
        unfold Has
        rw [e]
        rfl
      obtain ⟨n0, hn0, hlt0⟩ := bf.val x hx
      have hle := bf.kd.le
      have hl8 := ok.l1
      refine iteF ⟨.str x, rfl, by show 1 ≤ sizeLine; decide, fun fl hfl => ?_⟩
      have ffl : H fl = none := s1.free hfl
      have s2 : Same H1 (upd H1 fl (.lst [.str x])) := same_upd hfl
      refine ⟨fun m σ H2 => ∃ (rd : List Str) (z : Str) (n : Nat) (y5 : Option V), m = n ∧ σ = [some (.ref a), some (.str x), some (.ref g), some (.ref d), some (.ref fl), y5] ∧ Same H H2 ∧ H2 d = some (.dK kvs) ∧ H2 fl = some (.lst (rd.map V.str)) ∧ rd[rd.length - 1]? = some z ∧ StepsIs kvs z n ∧ rd.length + n ≤ 9 ∧ (x ∈ gs → rd = [x]),
        ⟨n0, [x], x, n0, none, rfl, rfl, s1.trans s2, s2 _ _ ed, upd_same, rfl, hn0, by show 1 + n0 ≤ 9; omega, fun _ => rfl⟩, ?_⟩
      rintro m σ H2 ⟨rd, z, n, y5, rfl, rfl, s3, ed3, ef3, hz, hn, hlen, hgo⟩
      have hrd : 0 < rd.length := by
        have := (List.getElem?_eq_some_iff.mp hz).1
        omega
      have hzV : (rd.map V.str)[(rd.map V.str).length - 1]? = some (.str z) := by
        rw [List.length_map, List.getElem?_map, hz]
        rfl
      have atz : atI (rd.map V.str) (-1) = some (.str z) := atI_back (k := 1) rfl (by decide) (by rw [List.length_map]; omega) hzV
      have getz : ∀ H', H' d = some (.dK kvs) → DGet H' d (.str z) (some (.int (m : Int))) := fun H' h => by
        rw [← show valV kvs (Sum.inr z) = _ from hn]
        exact DGet.k (k := Sum.inr z) h
      refine ⟨.ref d, rfl, .ref fl, rfl, 1, rfl, fl, _, -1, .str z, rfl, rfl, SqL.of ef3, atz, d, _, rfl, getz _ ed3, (m : Int), 0, rfl, rfl, _, rfl, ite2 (fun h => ?_) (fun h => ?_)⟩
      · have hpos : (0 : Int) < (m : Int) := of_decide_eq_true h
        obtain ⟨n', rfl⟩ : ∃ n', m = n' + 1 := ⟨m - 1, by omega⟩
        have hng : ¬ x ∈ gs := fun hx2 => by
          have e1 := hgo hx2
          subst e1
          have e2 : z = x := (Option.some.inj hz).symm
          rw [e2] at hn
          have := steps_uniq hn (bf.goal x hx2)
          omega
        refine ⟨fun σ' H' => ∃ m', m' < n' + 1 ∧ ∃ (rd : List Str) (z : Str) (n : Nat) (y5 : Option V), m' = n ∧ σ' = [some (.ref a), some (.str x), some (.ref g), some (.ref d), some (.ref fl), y5] ∧ Same H H' ∧ H' d = some (.dK kvs) ∧ H' fl = some (.lst (rd.map V.str)) ∧ rd[rd.length - 1]? = some z ∧ StepsIs kvs z n ∧ rd.length + n ≤ 9 ∧ (x ∈ gs → rd = [x]), fun _ _ h => h, ?_⟩
        refine ⟨.ref fl, rfl, .inl ⟨rfl, _, SqL.of ef3⟩, .ref a, rfl, .ref fl, rfl, 1, rfl, fl, _, -1, .str z, rfl, rfl, SqL.of ef3, atz, a, z, N, rfl, hN.keep (TK.of s3), ok, fun lb ys H3 s4 flb elb lys hys => ⟨lb, rfl, ⟨_, SqL.of elb⟩, fun D hD => ?_⟩⟩
        have ed4 := s4 _ _ ed3
        have ef4 := s4 _ _ ef3
        refine lc_list (K := K) (a := lb) (xs := ys.map V.str) (fun j H5 => ∃ zs : List Str, H5 D = some (.lst (zs.map V.str)) ∧ zs.length ≤ j ∧ (∀ y ∈ zs, StepsIs kvs y n') ∧ (∀ y ∈ ys.take j, StepsIs kvs y n' → zs ≠ []) ∧ Same H3 H5)
          ⟨[], upd_same, Nat.le_refl _, fun y hy => (nomatch hy), fun y hy => (by rw [List.take_zero] at hy; cases hy), same_upd hD⟩ (fun j H5 _ ⟨_, _, _, _, _, s5⟩ => SqL.of (s5 _ _ elb)) ?_ ?_
        · rintro j v H5 hv ⟨zs, eD, lz, hzs, hne, s5⟩
          obtain ⟨o, ho, rfl⟩ := strs_of hv
          have hj8 : j < 8 := Nat.lt_of_lt_of_le (List.getElem?_eq_some_iff.mp ho).1 lys
          have ho2 : Has kvs o := cl z hn.has o ((hys o).mp (List.mem_of_getElem? ho))
          obtain ⟨no, hno, _⟩ := bf.val o ho2
          have ed5 := s5 _ _ ed4
          have ef5 := s5 _ _ ef4
          refine ⟨rfl, .ref d, rfl, .str o, rfl, d, _, rfl, by rw [← show valV kvs (Sum.inr o) = _ from hno]; exact DGet.k (k := Sum.inr o) ed5, .ref d, rfl, .ref fl, rfl, 1, rfl, fl, _, -1, .str z, rfl, rfl, SqL.of ef5, atz, d, _, rfl, getz _ ed5, _, 1, rfl, rfl, rfl, _, rfl, ite2 (fun h => ?_) (fun h => ?_)⟩
          · have e1 : (no : Int) = ((n' + 1 : Nat) : Int) - 1 := V.int.inj (of_decide_eq_true h)
            have e2 : no = n' := by omega
            subst e2
            refine ⟨.str o, rfl, _, eD, ?_, zs ++ [o], ?_, ?_, fun y hy => ?_, fun y _ _ e => ?_, same_mut s5 hD⟩
            · rw [List.length_map]
              exact small1000 (by omega)
            · rw [upd_same, List.map_append]
              rfl
            · rw [List.length_append, List.length_singleton]
              omega
            · rcases List.mem_append.mp hy with h | h
              · exact hzs y h
              · rw [List.mem_singleton.mp h]
                exact hno
            · have := congrArg List.length e
              rw [List.length_append, List.length_singleton] at this
              cases this
          · refine ⟨zs, eD, by omega, hzs, fun y hy hy2 => ?_, s5⟩
            rw [take_snoc ho] at hy
            rcases List.mem_append.mp hy with h2 | h2
            · exact hne y h2 hy2
            · rw [List.mem_singleton.mp h2] at hy2
              have e1 := steps_uniq hno hy2
              refine absurd (decide_eq_true (congrArg V.int ?_)) h
              show (no : Int) = ((n' + 1 : Nat) : Int) - 1
              omega
        · rintro H5 ⟨zs, eD, lz, hzs, hne, s5⟩
          rw [List.length_map] at lz hne
          rw [List.take_length] at hne
          obtain ⟨y, hy1, hy2⟩ := bf.down z n' hn
          have hzne := hne y ((hys y).mpr hy1) hy2
          obtain ⟨q, r, rfl⟩ : ∃ q r, zs = q :: r := by
            cases zs with
            | nil => exact absurd rfl hzne
            | cons q r => exact ⟨q, r, rfl⟩
          have ef5 := s5 _ _ ef4
          have ndf : d ≠ fl := ne_of ed3 ef3 (fun z => nomatch z)
          refine ⟨D, _, 0, .str q, rfl, rfl, SqL.of eD, atI_nat (j := 0) rfl, fl, _, _, rfl, rfl, ef5, ?_, n', by omega, rd ++ [q], q, n', _, rfl, rfl, same_mut (Same.trans s3 (Same.trans s4 s5)) ffl, ?_, ?_, ?_, hzs q List.mem_cons_self, ?_, fun hx2 => absurd hx2 hng⟩
          · rw [List.length_map]
            exact small1000 (by omega)
          · rw [upd_ne ndf]
            exact s5 _ _ ed4
          · rw [upd_same, List.map_append]
            rfl
          · rw [List.length_append, List.length_singleton, List.getElem?_append_right (by omega)]
            have e3 : rd.length + 1 - 1 - rd.length = 0 := by omega
            rw [e3]
            rfl
          · rw [List.length_append, List.length_singleton]
            omega
      · exact ⟨.ref fl, rfl, k fl rd H2 s3 ffl ef3 (by omega) hgo⟩
theorem scGap : FnScope ["net", "line", "junction", "over"] ["net", "line", "junction", "over"] (defScope sGap) := ⟨rfl, rfl, rfl, by decide +kernel, rfl, by decide +kernel, by decide +kernel⟩
def spGap : Sp := fun vs H Q _ => ∃ (a : Addr) (x jn over : Str) (N : Net) (ls : List Str), vs = [.ref a, .str x, .str jn, .str over] ∧ NetAt H a N ∧ NetOk N ∧ (jn, ls) ∈ N.juncs ∧
  ∀ (l : Addr) (rd : List Str) (H' : Hp), Same H H' → H l = none → H' l = some (.lst (rd.map V.str)) → rd.length ≤ 20 → (x ∈ ls → x ≠ over → rd = [x]) → Q (.ref l) H'
/-- the defs of nets that gap_road leans on -/
structure Roads (K : PySem.W.Frag) (mg : Str → Option Value) : Prop where
  road : ∃ f fd, Fn K "shortest_road" sRoad f fd ∧ mg "shortest_road" = some (.ref f)
  steps : ∃ f fd, Fn K "steps_to" sSteps f fd ∧ mg "steps_to" = some (.ref f)
  beside : ∃ f fd, Fn K "lines_beside" sBeside f fd ∧ mg "lines_beside" = some (.ref f)
  goals : ∃ f fd, Fn K "goals_of" sGoals f fd ∧ mg "goals_of" = some (.ref f)
  at_ : ∃ f fd, Fn K "lines_at" sAt f fd ∧ mg "lines_at" = some (.ref f)
  places : ∃ f fd, Fn K "places_of" sPlaces f fd ∧ mg "places_of" = some (.ref f)
  md : mg "dict" = none
  ms : mg "sorted" = none
  mli : mg "list" = none
  ml : mg "len" = none
theorem ok_gap {f : Addr} {fd : FuncData} (F : Fn K "gap_road" sGap f fd) (R : Roads K mg) : FnOk P w K mg base CX0 4 f fd ["net", "line", "junction", "over"] spGap := by
  obtain ⟨fR, fdR, FR, gR⟩ := R.road
  obtain ⟨fS, fdS, FS, gS⟩ := R.steps
  obtain ⟨fB, fdB, FB, gB⟩ := R.beside
  obtain ⟨fG, fdG, FG, gG⟩ := R.goals
  obtain ⟨fA, fdA, FA, gA⟩ := R.at_
  obtain ⟨fP, fdP, FP, gP⟩ := R.places
  have bR : Binds K fdR ["net", "line", "goals"] [] := FR.bindsN fun _ _ _ _ _ _ us hl => match us, hl with | [_, _, _], _ => rfl
  have bS : Binds K fdS ["net", "goals"] [] := FS.bindsN fun _ _ _ _ _ _ us hl => match us, hl with | [_, _], _ => rfl
  have bB : Binds K fdB ["net", "line"] [] := FB.bindsN fun _ _ _ _ _ _ us hl => match us, hl with | [_, _], _ => rfl
  have bG : Binds K fdG ["net", "junction", "over"] [] := FG.bindsN fun _ _ _ _ _ _ us hl => match us, hl with | [_, _, _], _ => rfl
  have bA : Binds K fdA ["net", "place"] [] := FA.bindsN fun _ _ _ _ _ _ us hl => match us, hl with | [_, _], _ => rfl
  have bP : Binds K fdP ["stations", "junctions"] [] := FP.bindsN fun _ _ _ _ _ _ us hl => match us, hl with | [_, _], _ => rfl
  have GR : FnOk P w K mg base CX0 3 fR fdR ["net", "line", "goals"] spRoad := ok_road FR FS bS gS FB bB gB R.md R.ms R.mli
  have GG : FnOk P w K mg base CX0 3 fG fdG ["net", "junction", "over"] spGoals := ok_goals FG FA bA gA FP bP gP R.md
  refine F.ok scGap (fun vs H Q E h => ?_) (fun cdv A outer s H vs Q E hr h => ?_)
  · obtain ⟨a, x, jn, over, N, ls, rfl, _⟩ := h
    rfl
  · obtain ⟨a, x, jn, over, N, ls, rfl, hN, ok, hm, k⟩ := h
    refine ⟨_, PSs.nox (pss_one (ps_ret (pe_call GR hr (by rfl) gR FR.kp bR .nil pass0 (pa_cons (pv 0) (pa_cons (pv 1) (pa_cons (pe_call GG hr (by rfl) gG FG.kp bG .nil pass0 (pa_cons (pv 0) (pa_cons (pv 2) (pa_cons (pv 3) pa_nil)))) pa_nil)))))), ?_⟩
    have sub := ok.sub _ hm
    refine ⟨.ref a, rfl, .str x, rfl, .ref a, rfl, .str jn, rfl, .str over, rfl, a, jn, over, N, ls, rfl, hN, ok, hm, fun g H1 s1 eg => ?_⟩
    refine ⟨a, g, x, N, _, rfl, hN.keep (TK.of s1), ok, eg, Nat.le_trans (List.length_filter_le _ _) sub.1, fun y hy => sub.2 y (List.mem_filter.mp hy).1, fun l rd H2 s2 fl el lr hx => ?_⟩
    exact k l rd H2 (s1.trans s2) (s1.free fl) el lr fun h1 h2 => hx (List.mem_filter.mpr ⟨h1, decide_eq_true h2⟩)
theorem scLacking : FnScope ["net", "line", "junction", "over", "road"] ["net", "line", "junction", "over"] (defScope sLacking) := ⟨rfl, rfl, rfl, by decide +kernel, rfl, by decide +kernel, by decide +kernel⟩
/-- None, or a number from 0 on -/
def Lack (v : V) : Prop := v = .non ∨ ∃ z : Int, 0 ≤ z ∧ v = .int z
def spLacking : Sp := fun vs H Q _ => ∃ (a : Addr) (x jn over : Str) (N : Net) (ls : List Str), vs = [.ref a, .str x, .str jn, .str over] ∧ NetAt H a N ∧ NetOk N ∧ (jn, ls) ∈ N.juncs ∧
  ∀ (v : V) (H' : Hp), Same H H' → Lack v → (x ∈ ls → x ≠ over → v = .int 0) → Q v H'
theorem ok_lacking {f fG : Addr} {fd fdG : FuncData} (F : Fn K "lacking" sLacking f fd) (FG : Fn K "gap_road" sGap fG fdG) (gG : mg "gap_road" = some (.ref fG)) (R : Roads K mg) : FnOk P w K mg base CX0 5 f fd ["net", "line", "junction", "over"] spLacking := by
  have bG : Binds K fdG ["net", "line", "junction", "over"] [] := FG.bindsN fun _ _ _ _ _ _ us hl => match us, hl with | [_, _, _, _], _ => rfl
  have GG : FnOk P w K mg base CX0 4 fG fdG ["net", "line", "junction", "over"] spGap := ok_gap FG R
  refine F.ok scLacking (fun vs H Q E h => ?_) (fun cdv A outer s H vs Q E hr h => ?_)
  · obtain ⟨a, x, jn, over, N, ls, rfl, _⟩ := h
    rfl
  · obtain ⟨a, x, jn, over, N, ls, rfl, hN, ok, hm, k⟩ := h
    refine ⟨_, PSs.nox (pss_cons (ps_set (i := 4) scLacking.nd rfl (.inl rfl) (pe_call GG hr (by rfl) gG FG.kp bG .nil pass0 (pa_cons (pv 0) (pa_cons (pv 1) (pa_cons (pv 2) (pa_cons (pv 3) pa_nil))))))
      (pss_cons (ps_if (pt_cmpR (op_eqN hr.units) (pv 4) (pe_lst pa_nil) (nomark _)) (pss_one (ps_ret pe_non)) pss_nil)
      (pss_one (ps_ret (pe_op op_sub (pe_callB call_len_seq (by rfl) R.ml PySem.boot_len (pa_cons (pv 4) pa_nil)) pe_int))))), ?_⟩
    refine ⟨.ref a, rfl, .str x, rfl, .str jn, rfl, .str over, rfl, a, x, jn, over, N, ls, rfl, hN, ok, hm, fun l rd H1 s1 fl el lr hx => ?_⟩
    refine ⟨.ref l, rfl, Nat.zero_le _, fun e he => ⟨l, e, _, rfl, rfl, SqL.of (same_upd he _ _ el), SqL.of upd_same, _, rfl, ite2 (fun h => ?_) (fun h => ?_)⟩⟩
    · refine k .non _ (s1.trans (same_upd he)) (.inl rfl) fun h1 h2 => ?_
      rw [hx h1 h2] at h
      cases h
    · have hp : 0 < rd.length := by
        cases rd with
        | nil => exact absurd rfl h
        | cons z r => exact Nat.succ_pos _
      refine ⟨.ref l, rfl, l, _, rfl, .inl (SqL.of (same_upd he _ _ el)), _, 1, rfl, rfl, k _ _ (s1.trans (same_upd he)) (.inr ⟨_, ?_, rfl⟩) fun h1 h2 => ?_⟩
      · rw [List.length_map]
        omega
      · rw [hx h1 h2]
        rfl
end
end K47
set_option maxHeartbeats 4000000
/-! K47Lam: sorted by a key that a lambda reckons. -/
namespace K47
open PySem PySem.Spec PyProof.Rows L2
/-! ### the order -/
def keyR (r : Ret) : PyData := .tuple [.int r.day, .int 12, .int r.num]
theorem dataLt_iii (x y z x' y' z' : Int) : PySem.W.dataLt (.tuple [.int x, .int y, .int z]) (.tuple [.int x', .int y', .int z']) = decide (x < x' ∨ (x = x' ∧ (y < y' ∨ (y = y' ∧ z < z')))) := by
  have a : ∀ u v : Int, PySem.W.alike (.int u) (.int v) = true := fun u v => by simp [PySem.W.alike]
  rw [PySem.W.dataLt_tuple, PySem.W.dataLt_cons (a _ _), PySem.W.dataLt_cons (a _ _), PySem.W.dataLt_cons (a _ _)]
  have e : PyProof.Rows.lexLt itemOrd (PySem.W.keyToksAll []) (PySem.W.keyToksAll []) = false := lex_irrefl (O := itemOrd) _
  rw [e, PySem.W.dataLt_int, PySem.W.dataLt_int, PySem.W.dataLt_int]
  simp only [PyData.eqv, beq_iff_eq]
  by_cases h1 : x = x' <;> by_cases h2 : y = y' <;> by_cases h3 : z = z' <;> simp [h1, h2, h3]
def leR (p q : Addr × Ret) : Bool := decide (p.2.day < q.2.day ∨ (p.2.day = q.2.day ∧ p.2.num ≤ q.2.num))
theorem dataLe_R : PySem.W.dataLe false (fun b : Addr × Ret => keyR b.2) = leR := by
  funext p q
  show (!PySem.W.dataLt (.tuple [.int q.2.day, .int 12, .int q.2.num]) (.tuple [.int p.2.day, .int 12, .int p.2.num])) = _
  rw [dataLt_iii]
  unfold leR
  by_cases h : p.2.day < q.2.day ∨ (p.2.day = q.2.day ∧ p.2.num ≤ q.2.num)
  · have h' : ¬ (q.2.day < p.2.day ∨ (q.2.day = p.2.day ∧ ((12 : Int) < 12 ∨ ((12 : Int) = 12 ∧ q.2.num < p.2.num)))) := by omega
    rw [decide_eq_true h, decide_eq_false h']
    rfl
  · have h' : q.2.day < p.2.day ∨ (q.2.day = p.2.day ∧ ((12 : Int) < 12 ∨ ((12 : Int) = 12 ∧ q.2.num < p.2.num))) := by omega
    rw [decide_eq_false h, decide_eq_true h']
    rfl
theorem perm_uniq {α : Type} {lt : α → α → Prop} (asym : ∀ a b, lt a b → lt b a → False) : ∀ {l m : List α}, l.Pairwise lt → m.Pairwise lt → l.Perm m → l = m
  | [], m, _, _, p => (List.Perm.nil_eq p)
  | a :: l, [], _, _, p => by
    have := p.length_eq
    cases this
  | a :: l, b :: m, hl, hm, p => by
    rw [List.pairwise_cons] at hl hm
    have e : a = b := by
      have ha : a ∈ b :: m := p.mem_iff.mp List.mem_cons_self
      have hb : b ∈ a :: l := p.mem_iff.mpr List.mem_cons_self
      rcases List.mem_cons.mp ha with e | ha
      · exact e
      · rcases List.mem_cons.mp hb with e | hb
        · exact e.symm
        · exact (asym a b (hl.1 b hb) (hm.1 a ha)).elim
    subst e
    rw [perm_uniq asym hl.2 hm.2 (List.Perm.cons_inv p)]
theorem sorted_is {qs ss : List (Addr × Ret)} (hp : qs.Perm ss) (hs : ss.Pairwise fun a b => a.2.day < b.2.day) : qs.mergeSort leR = ss := by
  have tr : ∀ a b c : Addr × Ret, leR a b = true → leR b c = true → leR a c = true := fun a b c h1 h2 => by
    unfold leR at *
    have h1 := of_decide_eq_true h1
    have h2 := of_decide_eq_true h2
    exact decide_eq_true (by omega)
  have tot : ∀ a b : Addr × Ret, (leR a b || leR b a) = true := fun a b => by
    unfold leR
    by_cases h : a.2.day < b.2.day ∨ (a.2.day = b.2.day ∧ a.2.num ≤ b.2.num)
    · rw [decide_eq_true h]
      rfl
    · rw [decide_eq_true (show b.2.day < a.2.day ∨ (b.2.day = a.2.day ∧ b.2.num ≤ a.2.num) by omega), Bool.or_true]
  have hpm : (qs.mergeSort leR).Perm ss := (List.mergeSort_perm qs leR).trans hp
  have h1 : (qs.mergeSort leR).Pairwise fun a b => leR a b = true := List.pairwise_mergeSort tr tot qs
  -- unlike days
  have nd : (ss.map (·.2.day)).Nodup := by
    unfold List.Nodup
    rw [List.pairwise_map]
    exact hs.imp fun h e => by omega
  have nd2 : ((qs.mergeSort leR).map (·.2.day)).Nodup := (hpm.map (·.2.day)).nodup_iff.mpr nd
  have nd3 : (qs.mergeSort leR).Pairwise fun a b => a.2.day ≠ b.2.day := by
    unfold List.Nodup at nd2
    rwa [List.pairwise_map] at nd2
  have h2 : (qs.mergeSort leR).Pairwise fun a b => a.2.day < b.2.day := (h1.and nd3).imp fun ⟨h, n⟩ => by
    unfold leR at h
    have := of_decide_eq_true h
    omega
  exact perm_uniq (lt := fun a b : Addr × Ret => a.2.day < b.2.day) (fun a b h1 h2 => by omega) h2 hs hpm
/-! ### the lambda called -/
section
variable {prog : Program} {w : World} {A : Around} {E : Value → Shared → Prop} {s : Shared}
theorem lam_item {env : Env} {x : Str} {m : Str → Option Value} {t : Addr} {items : Array Value} {i : Int} {j : Nat} {v : Value} {kk : Nat} {p1 p2 p3 : Pos} {Q : Value → Shared → Prop} (hk : env.scope.kind = .function) (hl : env.kindOf x = some .local) (hn : s.heap.Ns env.locals m)
    (hm : m x = some (.ref t)) (ht : IsTup s.heap t items) (h0 : 0 ≤ i) (h1 : i < 1000) (hj : seqIndex? i items.size = some j) (hv : items[j]? = some v) (h : Q v { s with toks := s.toks + 1 }) (hd : (x == ("__debug__" : Str)) = false := by decide) :
    wpAny (model prog w) A (eval (.Subscript (.Name x p1) (.Constant (.int i) kk p2) p3) env) Q E s := by
  refine Subscript_ (wpAny_Name (wpAny_loadName_local hk hl hn hm ?_) hd)
  refine wpAny_Constant_int ?_
  exact subscriptTail_builtinR (x := v) (s := { s with toks := s.toks + 1 }) (IsTup.typeIs (s := { s with toks := s.toks + 1 }) ht) slot_tuple_getitem.lookup
    (getItem_tuple (s := { s with toks := s.toks + 1 }) (j := j) (Q := fun r s' => r = v ∧ Q r s') ht (by omega) (by omega) hj hv ⟨rfl, h⟩) (by with_unfolding_all rfl)
/-- the lambda paper: (paper[4], paper[5], paper[1]) -/
theorem lam_turn {f c' p : Addr} {qual : Str} {params : Arguments} {scope : Scope} {clos : List (Str × Addr)} {pm ctv : Value} {its : List Value} {r : Ret} {k1 k2 k3 n : Nat} {p1 p2 p3 p4 p5 p6 p7 p8 p9 p10 : Pos} (hroom : A.depth < recursionLimit) (nl : s.heap.NoLimit)
    (of : s.heap.get? f = some (PySem.W.kla_obj "<lambda>" qual params (.Tuple [.Subscript (.Name "paper" p1) (.Constant (.int 4) k1 p2) p3, .Subscript (.Name "paper" p4) (.Constant (.int 5) k2 p5) p6, .Subscript (.Name "paper" p7) (.Constant (.int 1) k3 p8) p9] n p10) scope clos pm c' ctv))
    (hc : s.heap.CodeRec (.ref c') qual) (hk : scope.kind = .function) (co : scope.isCoroutine = false) (gen : scope.isGenerator = false) (nms : scope.names = [(("paper" : Str), NameKind.local)])
    (hbind : ∀ (e : Expr) (v : Value), bindArgs (PySem.W.kla_fn "<lambda>" qual params e scope clos pm (.ref c') ctv) ⟨[v], []⟩ = pure [(("paper" : Str), v)])
    (ht : IsTup s.heap p its.toArray) (rv : L2.Vals (retV r) its) :
    wpAny (model prog w) A (call (.ref f) [.ref p]) (PySem.W.KeyPure (keyR r) s) (fun _ _ => False) s := by
  refine wpAny_call ?_
  refine PySem.W.kla_callFunE hroom of rfl co gen rfl hc ?_
  rw [hbind]
  refine wpAny_pure (wpAny_newFunctionEnv (fun y hy => ?_) (fun y hy => ?_) (fun h₁ hns hsb => ⟨nl.fresh _ hsb, ?_⟩) hk)
  · rw [nms, List.mem_singleton] at hy
    rw [hy]
    exact fun z => nomatch z
  · rw [List.mem_singleton] at hy
    rw [hy, nms]
    rfl
  refine PySem.W.kla_codeExpr ?_
  have kp : ∀ b o, s.heap.get? b = some o → h₁.get? b = some o := fun b o e => hsb.extBut b o (Nat.ne_of_lt (Heap.lt_size e)) (Heap.get?_push_of_some _ e)
  obtain ⟨t0, t1, t2, t3, t4, t5, t6, t7, t8, t9, rfl, e0, e1, e2, e3, e4, e5, e6, e7, e8, e9⟩ : ∃ t0 t1 t2 t3 t4 t5 t6 t7 t8 t9, its = [t0, t1, t2, t3, t4, t5, t6, t7, t8, t9] ∧ L2.RelV (.str "return") t0 ∧ L2.RelV (.int r.num) t1 ∧ L2.RelV (.int 1) t2 ∧ L2.RelV (.str r.jn) t3 ∧ L2.RelV (.int r.day) t4 ∧ L2.RelV (.int 12) t5 ∧ L2.RelV (.int 8) t6 ∧ L2.RelV (.str r.over) t7 ∧ L2.RelV (.str r.load) t8 ∧ L2.RelV (.str "whole") t9 := by
    unfold retV at rv
    cases rv with | cons a0 rv => cases rv with | cons a1 rv => cases rv with | cons a2 rv => cases rv with | cons a3 rv => cases rv with | cons a4 rv => cases rv with | cons a5 rv => cases rv with | cons a6 rv => cases rv with | cons a7 rv => cases rv with | cons a8 rv => cases rv with | cons a9 rv =>
      cases rv
      exact ⟨_, _, _, _, _, _, _, _, _, _, rfl, a0, a1, a2, a3, a4, a5, a6, a7, a8, a9⟩
  obtain ⟨u4, e4⟩ := e4
  obtain ⟨u5, e5⟩ := e5
  obtain ⟨u1, e1⟩ := e1
  subst e4 e5 e1
  have ht1 := ht.keeps kp
  have hloc : ∀ e : Env, e.scope = scope → e.kindOf "paper" = some .local := fun e h => by
    unfold Env.kindOf
    rw [h, nms]
    rfl
  refine wpAny_Tuple_spliced ?_
  refine Calls.spliced_cons (lam_item (j := 4) (m := fun x => ([("paper", Value.ref p)] : List (Str × Value)).reverse.lookup x) hk (hloc _ rfl) hns rfl ht1 (by decide) (by decide) rfl rfl ?_)
  refine Calls.spliced_cons (lam_item (j := 5) (m := fun x => ([("paper", Value.ref p)] : List (Str × Value)).reverse.lookup x) hk (hloc _ rfl) hns rfl ht1 (by decide) (by decide) rfl rfl ?_)
  refine Calls.spliced_cons (lam_item (j := 1) (m := fun x => ([("paper", Value.ref p)] : List (Str × Value)).reverse.lookup x) hk (hloc _ rfl) hns rfl ht1 (by decide) (by decide) rfl rfl ?_)
  refine Calls.spliced_nil ⟨by show 3 ≤ sizeLine; decide, _, _, rfl, fun b o e => Heap.get?_push_of_some _ (kp b o e), ?_⟩
  refine .tuple (xs := [.int r.day, .int 12, .int r.num]) (Heap.get?_push_size _ rfl) rfl rfl ?_
  show ReadsAll _ [.int r.day u4, .int 12 u5, .int r.num u1] _ _
  exact .cons (as := []) (.int _ _) (.cons (as := []) (.int _ _) (.cons (as := []) (.int _ _) .nil))
end
end K47
set_option maxHeartbeats 4000000
/-! K47Order: in_order. -/
namespace K47
open PySem PySem.Spec PyProof.Rows L2
theorem vals_refs : ∀ {l : List (Addr × Ret)} {its : List Value}, L2.Vals (l.map fun p => V.ref p.1) its → its = l.map fun p => Value.ref p.1
  | [], its, h => by
    have h' : L2.Vals [] its := h
    cases h'
    rfl
  | p :: l, its, h => by
    have h' : L2.Vals (V.ref p.1 :: l.map fun p => V.ref p.1) its := h
    cases h' with
    | cons a b =>
      cases a
      rw [vals_refs b]
      rfl
theorem refs_vals : ∀ {l : List (Addr × Ret)} {out : List Value}, PySem.W.EachIs (fun v (x : Addr × Ret) => v = Value.ref x.1) out l → L2.Vals (l.map fun p => V.ref p.1) out
  | _, _, .nil => .nil
  | _, _, .cons h t => by
    subst h
    exact .cons rfl (refs_vals t)
theorem refs_each : ∀ (l : List (Addr × Ret)), PySem.W.EachIs (fun v (x : Addr × Ret) => v = Value.ref x.1) (l.map fun p => Value.ref p.1) l
  | [] => .nil
  | p :: l => .cons rfl (refs_each l)
/-- free, but for a table of code objects -/
def Fr2 (H : Hp) (l : Addr) : Prop := ∀ o, H l = some o → ∃ ps, o = .tbl ps
def tSortL (T : List (Addr × Str)) (ta : TE) : TE := fun σ H Q => ta σ H fun v H1 => LamX.Tabs T H1 ∧ ∃ (a : Addr) (qs ss : List (Addr × Ret)), v = .ref a ∧ H1 a = some (.lst (qs.map fun p => V.ref p.1)) ∧ (∀ p ∈ qs, RetAt H1 p.1 p.2) ∧ qs.Perm ss ∧ (ss.Pairwise fun a b => a.2.day < b.2.day) ∧
  ∀ (l : Addr) (H' : Hp), LamX.ExtN H1 H' → LamX.Tabs T H' → Fr2 H1 l → H' l = some (.lst (ss.map fun p => V.ref p.1)) → Q (.ref l) H'
section
variable {X : Cx}
theorem ExtN_upd {H H1 : Hp} {l : Addr} {o : HO} (e : LamX.ExtN H H1) (hl : H1 l = none) : LamX.ExtN H (upd H1 l o) := fun b u hb n => by
  have h := e b u hb n
  rw [upd_ne (ne_of_none h hl)]
  exact h
theorem pe_sortLam {T : List (Addr × Str)} {c P : Addr} {ea : Expr} {ta : TE} {k : Nat} {params : Arguments} {scope : Scope} {k1 k2 k3 n : Nat} {p1 p2 p3 p4 p5 p6 p7 p8 p9 p10 p pk lpos pos : Pos} (hr : Room k X.A) (hg : Gl X "sorted") (hm : X.mg "sorted" = none) (ha : PE X ea ta)
    (TB : LamX.TabB X.base X.mg c P) (hcode : X.env.code = .ref c) (hmT : (P, X.env.qual ++ "<lambda>") ∈ T) (hu : ∀ p ∈ T, p.1 = P → p.2 = X.env.qual ++ "<lambda>") (hdef : defaultsOf params X.env = ([], []))
    (hk : scope.kind = .function) (co : scope.isCoroutine = false) (gen : scope.isGenerator = false) (nms : scope.names = [(("paper" : Str), NameKind.local)])
    (hbind : ∀ (e : Expr) (q : Str) (cl : List (Str × Addr)) (pm cv ctv : Value) (v : Value), bindArgs (PySem.W.kla_fn "<lambda>" q params e scope cl pm cv ctv) ⟨[v], []⟩ = pure [(("paper" : Str), v)])
    (hst : ∀ env, backTo pos (starEach [ea] env) = (false, eval ea env) :: backTo pos (starEach [] env) := by exact fun _ => rfl) :
    PE X (.Call (.Name "sorted" p) [ea] [⟨some "key", .Lambda params (.Tuple [.Subscript (.Name "paper" p1) (.Constant (.int 4) k1 p2) p3, .Subscript (.Name "paper" p4) (.Constant (.int 5) k2 p5) p6, .Subscript (.Name "paper" p7) (.Constant (.int 1) k3 p8) p9] n p10) scope lpos, pk⟩] pos) (tSortL T ta) := by
  refine ⟨fun pins s σ H Q I h => ?_⟩
  refine wpAny_Call_Name_kw (ld_blt I hg hm PyProof.Rows.boot_sorted ?_)
  refine PyProof.Rows.callWith_kw ?_ (hst _) (by rw [hst]; rfl) (by rfl) (by rfl)
  rw [hst]
  refine Calls.spliced_cons (thn (ha.run pins s σ H _ I h) fun u s1 ⟨v, H1, I1, r1, q1⟩ => ?_)
  obtain ⟨hT, a, qs, ss, rfl, hq, hqs, hp, hss, q⟩ := q1
  cases r1
  refine Calls.spliced_nil ?_
  show wpAny _ _ (evalAll [(do let v ← eval _ X.env; standAt pos; pure v)]) _ _ s1
  have hfree : ∀ y ∈ scope.names, y.2 = .free → ∃ c, X.env.cells.lookup y.1 = some c := fun y hy hf => by
    rw [nms, List.mem_singleton] at hy
    rw [hy] at hf
    cases hf
  refine PySem.wpAny_evalAll_cons (wpAny_bind (LamX.lam_make2 I1 TB hcode hmT hu hT hdef hfree fun f c' pm ctv H2 s2 I2 eN T2 hf hfn hfr hco => ?_))
  refine wpAny_bind (wpAny_standAt (wpAny_pure ?_))
  refine wpAny_pure ?_
  have hq2 := eN _ _ hq (fun ps z => nomatch z)
  obtain ⟨hz, its, ep, rv, hat⟩ := I2.hok a _ hq2
  obtain rfl := vals_refs rv
  obtain ⟨⟨oc, vs, t, hoc, hdc, hvc⟩, _, _⟩ := I2.hok c' _ hco
  rw [List.length_map] at hz
  show wpAny _ _ (call (.builtin "sorted") [.ref a] [(Str.ofString "key", .ref f)]) _ _ _
  refine PySem.W.sorted_key_data (b := false) (β := Addr × Ret) (R := fun v x => v = Value.ref x.1) (bs := qs) (fun x => keyR x.2) ⟨_, hat, rfl, _, rfl⟩ (refs_each qs) (PySem.W.AllAlike.of fun _ _ => by simp [keyR, PySem.W.alike, PySem.W.alikeAll]) (PySem.W.Sortable.tuples fun _ => ⟨_, _, rfl⟩) hz (fun x _ => ?_)
    (PyProof.Rows.ksk_s1 _ _) (fun _ => PyProof.Rows.ksk_l1 _ _) (fun _ => PyProof.Rows.ksk_t1 _ _) (fun v x hv hx h tk kp => ?_) fun out c2 h' tk kp hfr' hD hlen eo => ?_
  · have hd : (keyR x.2).depth = 1 := by simp [keyR, PyData.depth, PyData.depthAll]
    have := hr.units
    omega
  · subst hv
    obtain ⟨_, its2, rv2, ht2⟩ := I2.hok x.1 _ (eN _ _ (hqs x hx) (fun ps z => nomatch z))
    exact lam_turn (s := { s2 with heap := h, toks := tk }) (by have := hr.depth; exact this) (I2.nolimit.keeps kp) (kp _ _ hf) ⟨c', oc, vs, t, rfl, kp _ _ hoc, hdc, hvc⟩ hk co gen nms (fun e v => hbind e _ _ _ _ _ v) (ht2.keeps kp) rv2
  · rw [dataLe_R, sorted_is hp hss] at eo
    have hl : H2 (s2.heap.objs.size + 1) = none := I2.hok.fresh (Nat.le_succ _)
    have hl1 : Fr2 H1 (s2.heap.objs.size + 1) := fun o e => by
      by_cases ht : ∃ ps, o = .tbl ps
      · exact ht
      · have := eN _ _ e (fun ps z => ht ⟨ps, z⟩)
        rw [hl] at this
        cases this
    have hz2 : (ss.map fun p => V.ref p.1).length ≤ sizeLine := by
      rw [List.length_map, ← hp.length_eq]
      exact hz
    have I3 := I2.laid (t' := tk) (a := s2.heap.objs.size + 1) (o := .lst (ss.map fun p => V.ref p.1)) kp (Nat.le_succ _) ⟨hz2, out, c2, refs_vals eo, hD⟩
    exact ⟨.ref _, _, I3, rfl, q _ _ (ExtN_upd eN hl) (T2.ext fun b o e => by rw [upd_ne (ne_of_none e hl)]; exact e) hl1 upd_same⟩
end
abbrev qLam : Str := (("in_order" : Str) ++ (".<locals>." : Str)) ++ ("<lambda>" : Str)
abbrev TT (P : Addr) : List (Addr × Str) := [(P, qLam)]
section
variable {P : Program} {w : World} {K : PySem.W.Frag} {mg : Str → Option Value} {base : Heap}
theorem scOrder : FnScope ["returns"] ["returns"] (defScope sOrder) := ⟨rfl, rfl, rfl, by decide +kernel, rfl, by decide +kernel, by decide +kernel⟩
def spOrder (T : Addr) : Sp := fun vs H Q _ => ∃ (a : Addr) (qs ss : List (Addr × Ret)), vs = [.ref a] ∧ LamX.Tabs (TT T) H ∧ H a = some (.lst (qs.map fun p => V.ref p.1)) ∧ (∀ p ∈ qs, RetAt H p.1 p.2) ∧ qs.Perm ss ∧ (ss.Pairwise fun a b => a.2.day < b.2.day) ∧
  ∀ (l : Addr) (H' : Hp), LamX.ExtN H H' → LamX.Tabs (TT T) H' → Fr2 H l → H' l = some (.lst (ss.map fun p => V.ref p.1)) → Q (.ref l) H'
theorem ok_order {f c T : Addr} {fd : FuncData} (F : Fn K "in_order" sOrder f fd) (hcd : fd.code = .ref c) (TB : LamX.TabB base mg c T) (ms : mg "sorted" = none) : FnOk P w K mg base CX0 1 f fd ["returns"] (spOrder T) := by
  obtain ⟨oc, od, dV, kV, doc, pm, an, cdv, ct, osl, rfl, lk, hcd2, _, _⟩ := F.ex
  have e : cdv = .ref c := hcd
  subst e
  refine fn_of lk hcd2 scOrder (fun vs H Q E h => ?_) fun A outer s H vs Q E hr h => ?_
  · obtain ⟨a, _, _, rfl, _⟩ := h
    rfl
  · obtain ⟨a, qs, ss, rfl, hT, hq, hqs, hp, hss, k⟩ := h
    refine ⟨_, PSs.nox (pss_one (ps_ret (pe_sortLam (c := c) (P := T) (T := TT T) (k := 0) hr (by rfl) ms (pv 0) TB rfl (by exact List.mem_singleton.mpr rfl) (fun p hp _ => by rw [List.mem_singleton.mp hp]; rfl) rfl rfl rfl rfl rfl (fun _ _ _ _ _ _ _ => rfl)))), ?_⟩
    exact ⟨.ref a, rfl, hT, a, qs, ss, rfl, hq, hqs, hp, hss, k⟩
end
end K47
set_option maxHeartbeats 4000000
/-! K47Chart: the class Chart. -/
namespace K47
open PySem PySem.Spec PyProof.Rows L2
/-- a chart: its class, its dict, what its fields hold -/
structure Ch where
  C : Addr
  dx : Addr
  net : Addr
  rows : Addr
  at_ : Addr
  lacks : Addr
  N : Net
  line : Str
  ss : List (Addr × Ret)
def Ch.ats (c : Ch) : List Str := c.line :: c.ss.map (·.2.over)
def Ch.flds (c : Ch) : List (Str × V) := [("net", .ref c.net), ("rows", .ref c.rows), ("at", .ref c.at_), ("lacks", .ref c.lacks)]
def Ch.keys (c : Ch) : List (List Key) := c.ats.flatMap fun z => c.ss.map fun p => [.inr z, .inr p.2.jn, .inr p.2.over]
structure LacksOk (c : Ch) (kvs : List (List Key × V)) : Prop where
  nd : (kvs.map (·.1)).Nodup
  sub : ∀ k ∈ kvs.map (·.1), k ∈ c.keys
  val : ∀ k v, valV kvs k = some v → Lack v ∧ ∀ z jn o, k = [.inr z, .inr jn, .inr o] → ∀ ls, (jn, ls) ∈ c.N.juncs → z ∈ ls → z ≠ o → v = .int 0
structure ChAt (H : Hp) (x : Addr) (c : Ch) : Prop where
  ins : H x = some (.ins c.C c.dx c.flds)
  net : NetAt H c.net c.N
  rows : H c.rows = some (.lst (c.ss.map fun p => V.ref p.1))
  ret : ∀ p ∈ c.ss, RetAt H p.1 p.2
  at_ : H c.at_ = some (.lst (c.ats.map V.str))
  lacks : ∃ kvs, H c.lacks = some (.dT kvs) ∧ LacksOk c kvs
theorem ChAt.keep {H H' : Hp} {x : Addr} {c : Ch} (h : ChAt H x c) (s : Same H H') : ChAt H' x c :=
  ⟨s _ _ h.ins, h.net.keep (TK.of s), s _ _ h.rows, fun p hp => (h.ret p hp).keep (TK.of s), s _ _ h.at_, let ⟨k, e, o⟩ := h.lacks; ⟨k, s _ _ e, o⟩⟩
/-- the table of lacks is written -/
theorem ChAt.put {H : Hp} {x : Addr} {c : Ch} (h : ChAt H x c) {kvs : List (List Key × V)} (o : LacksOk c kvs) : ChAt (upd H c.lacks (.dT kvs)) x c := by
  obtain ⟨k0, e0, _⟩ := h.lacks
  have tk : TK H (upd H c.lacks (.dT kvs)) := TK.write e0 .dT
  refine ⟨?_, h.net.keep tk, ?_, fun p hp => (h.ret p hp).keep tk, ?_, kvs, upd_same, o⟩
  · rw [upd_ne (ne_of h.ins e0 fun z => nomatch z)]
    exact h.ins
  · rw [upd_ne (ne_of h.rows e0 fun z => nomatch z)]
    exact h.rows
  · rw [upd_ne (ne_of h.at_ e0 fun z => nomatch z)]
    exact h.at_
structure ChOk (c : Ch) : Prop where
  ok : NetOk c.N
  len : c.ss.length ≤ 20
  chain : ∀ (j : Nat) (p : Addr × Ret), c.ss[j]? = some p → ∃ z ls, c.ats[j]? = some z ∧ (p.2.jn, ls) ∈ c.N.juncs ∧ z ∈ ls ∧ z ≠ p.2.over
theorem nodup_snd {α β : Type} : ∀ {l : List (α × β)} {k : α} {a b : β}, (l.map (·.1)).Nodup → (k, a) ∈ l → (k, b) ∈ l → a = b
  | [], _, _, _, _, h, _ => by cases h
  | q :: l, k, a, b, nd, h1, h2 => by
    rw [List.map_cons, List.nodup_cons] at nd
    rcases List.mem_cons.mp h1 with e1 | h1 <;> rcases List.mem_cons.mp h2 with e2 | h2
    · exact (Prod.mk.inj (e1.trans e2.symm)).2
    · exact absurd (List.mem_map.mpr ⟨_, h2, by rw [← e1]⟩) nd.1
    · exact absurd (List.mem_map.mpr ⟨_, h1, by rw [← e2]⟩) nd.1
    · exact nodup_snd nd.2 h1 h2
theorem Ch.ats_len (c : Ch) : c.ats.length = c.ss.length + 1 := by
  show (c.ss.map (·.2.over)).length + 1 = _
  rw [List.length_map]
theorem Ch.ats_at (c : Ch) {j : Nat} {p : Addr × Ret} (h : c.ss[j]? = some p) : c.ats[j + 1]? = some p.2.over := by
  show (c.ss.map (·.2.over))[j]? = _
  rw [List.getElem?_map, h]
  rfl
theorem flat_len {α β : Type} (n : Nat) (f : α → List β) : ∀ l : List α, (∀ a ∈ l, (f a).length = n) → (l.flatMap f).length = l.length * n
  | [], _ => by simp
  | a :: l, h => by
    rw [List.flatMap_cons, List.length_append, flat_len n f l (fun b hb => h b (List.mem_cons_of_mem _ hb)), h a List.mem_cons_self, List.length_cons, Nat.add_mul]
    omega
theorem Ch.keys_len {c : Ch} (h : ChOk c) : c.keys.length ≤ 420 := by
  unfold Ch.keys
  rw [flat_len c.ss.length _ _ (fun _ _ => List.length_map _), c.ats_len]
  have := h.len
  calc (c.ss.length + 1) * c.ss.length ≤ 21 * 20 := Nat.mul_le_mul (by omega) this
    _ = 420 := rfl
theorem LacksOk.small {c : Ch} (h : ChOk c) {kvs : List (List Key × V)} (o : LacksOk c kvs) : kvs.length ≤ 420 := by
  have := nodup_le o.nd o.sub
  rw [List.length_map] at this
  exact Nat.le_trans this (Ch.keys_len h)
theorem Ch.key_in (c : Ch) {i j : Nat} {z : Str} {p : Addr × Ret} (hz : c.ats[i]? = some z) (hp : c.ss[j]? = some p) : ([.inr z, .inr p.2.jn, .inr p.2.over] : List Key) ∈ c.keys :=
  List.mem_flatMap.mpr ⟨z, List.mem_of_getElem? hz, List.mem_map.mpr ⟨p, List.mem_of_getElem? hp, rfl⟩⟩
theorem LacksOk.put {c : Ch} {kvs : List (List Key × V)} (o : LacksOk c kvs) {k : List Key} {v : V} (hk : k ∈ c.keys) (hv : Lack v) (h0 : ∀ z jn o, k = [.inr z, .inr jn, .inr o] → ∀ ls, (jn, ls) ∈ c.N.juncs → z ∈ ls → z ≠ o → v = .int 0) : LacksOk c (putK kvs k v) := by
  refine ⟨nd_put k v o.nd, fun k' hk' => ?_, fun k' v' e => ?_⟩
  · rw [key_iff, put_some] at hk'
    rcases hk' with e | e
    · rw [e]
      exact hk
    · exact o.sub _ ((key_iff _ _).mpr e)
  · rw [valV_put] at e
    by_cases h : k' = k
    · rw [if_pos h] at e
      subst h
      cases e
      exact ⟨hv, h0⟩
    · rw [if_neg h] at e
      exact o.val _ _ e
/-- the class's facts -/
structure ChC (K : PySem.W.Frag) (C : Addr) : Prop where
  cl : Cls K C
  nN : NoAttr K C "net"
  nR : NoAttr K C "rows"
  nA : NoAttr K C "at"
  nL : NoAttr K C "lacks"
section
variable {P : Program} {w : World} {K : PySem.W.Frag} {mg : Str → Option Value} {base : Heap}
theorem scLack : FnScope ["self", "i", "j", "key"] ["self", "i", "j"] (defScope sLack) := ⟨rfl, rfl, rfl, by decide +kernel, rfl, by decide +kernel, by decide +kernel⟩
def spLack : Sp := fun vs H Q _ => ∃ (x : Addr) (c : Ch) (i j : Nat) (jj : Int) (z : Str) (p : Addr × Ret), vs = [.ref x, .int i, .int jj] ∧ jj = (j : Int) + 1 ∧ ChC K c.C ∧ ChAt H x c ∧ ChOk c ∧ c.ats[i]? = some z ∧ c.ss[j]? = some p ∧
  ∀ (v : V) (H' : Hp), ChAt H' x c → KB c.lacks H H' → Lack v → (i = j → v = .int 0) → Q v H'
theorem ok_lack {f fL fG : Addr} {fd fdL fdG : FuncData} (F : FnQ K "lack" "Chart.lack" sLack f fd) (FL : Fn K "lacking" sLacking fL fdL) (gL : mg "lacking" = some (.ref fL)) (FG : Fn K "gap_road" sGap fG fdG) (gG : mg "gap_road" = some (.ref fG)) (R : Roads K mg) :
    FnOk P w K mg base CX0 6 f fd ["self", "i", "j"] (spLack (K := K)) := by
  have bL : Binds K fdL ["net", "line", "junction", "over"] [] := FL.bindsN fun _ _ _ _ _ _ us hl => match us, hl with | [_, _, _, _], _ => rfl
  have GL : FnOk P w K mg base CX0 5 fL fdL ["net", "line", "junction", "over"] spLacking := ok_lacking FL FG gG R
  refine F.ok scLack (fun vs H Q E h => ?_) (fun cdv A outer s H vs Q E hr h => ?_)
  · obtain ⟨x, c, i, j, jj, z, p, rfl, _⟩ := h
    rfl
  · obtain ⟨x, c, i, j, jj, z, p, rfl, ej, cc, hx, ok, hz, hp, k⟩ := h
    have hu := hu_of hr
    refine ⟨_, PSs.nox (pss_cons (ps_set (i := 3) scLack.nd rfl (.inl rfl) (pe_tup (pa_cons (pe_ix ix_list (pe_fld (pv 0) rfl) (pv 1) (fun _ _ => rfl))
          (pa_cons (pe_ix ix_tup (pe_ix ix_list (pe_fld (pv 0) rfl) (pe_op op_sub (pv 2) pe_int) (fun _ _ => rfl)) pe_int (fun _ _ => rfl)) (pa_cons (pe_ix ix_list (pe_fld (pv 0) rfl) (pv 2) (fun _ _ => rfl)) pa_nil)))))
      (C8.pss_cut (ps_if (pt_cmp (pc_dnotin hu (pv 3) (pe_fld (pv 0) rfl)))
          (pss_one (ps_dput hu (pe_fld (pv 0) rfl) (pv 3) (pe_call GL hr (by rfl) gL FL.kp bL .nil pass0 (pa_cons (pe_fld (pv 0) rfl) (pa_cons (pe_ix ix_tup (pv 3) pe_int (fun _ _ => rfl)) (pa_cons (pe_ix ix_tup (pv 3) pe_int (fun _ _ => rfl)) (pa_cons (pe_ix ix_tup (pv 3) pe_int (fun _ _ => rfl)) pa_nil))))) rfl)) pss_nil)
      (pss_one (ps_ret (pe_dget hu (pe_fld (pv 0) rfl) (pv 3) (fun _ _ => rfl)))))), ?_⟩
    have e0 : jj - 1 = (j : Int) := by omega
    have e1 : jj = ((j + 1 : Nat) : Int) := by omega
    obtain ⟨zj, ls, hzj, hls, hin, hne⟩ := ok.chain j p hp
    have atz : atI (c.ats.map V.str) (i : Int) = some (.str z) := atI_nat (by rw [List.getElem?_map, hz]; rfl)
    have atr : atI (c.ss.map fun p => V.ref p.1) (jj - 1) = some (.ref p.1) := by
      rw [e0]
      exact atI_nat (by rw [List.getElem?_map, hp]; rfl)
    have ato : atI (c.ats.map V.str) jj = some (.str p.2.over) := by
      rw [e1]
      exact atI_nat (by rw [List.getElem?_map, c.ats_at hp]; rfl)
    have hpR : H p.1 = some (.tup (retV p.2)) := hx.ret p (List.mem_of_getElem? hp)
    refine ⟨.ref x, rfl, x, _, _, _, _, rfl, hx.ins, cc.cl, cc.nA, rfl, .int i, rfl, c.at_, _, i, .str z, rfl, rfl, SqL.of hx.at_, atz, ?_⟩
    refine ⟨.ref x, rfl, x, _, _, _, _, rfl, hx.ins, cc.cl, cc.nR, rfl, .int jj, rfl, jj, 1, rfl, rfl, c.rows, _, jj - 1, .ref p.1, rfl, rfl, SqL.of hx.rows, atr, p.1, _, 3, .str p.2.jn, rfl, rfl, SqT.of hpR, rfl, ?_⟩
    refine ⟨.ref x, rfl, x, _, _, _, _, rfl, hx.ins, cc.cl, cc.nA, rfl, .int jj, rfl, c.at_, _, jj, .str p.2.over, rfl, rfl, SqL.of hx.at_, ato, by show 3 ≤ sizeLine; decide, fun t ht => ?_⟩
    have s1 : Same H (upd H t (.tup [.str z, .str p.2.jn, .str p.2.over])) := same_upd ht
    have et : (upd H t (.tup [.str z, .str p.2.jn, .str p.2.over])) t = some (.tup (([.inr z, .inr p.2.jn, .inr p.2.over] : List Key).map kV)) := upd_same
    have hx1 := hx.keep s1
    generalize upd H t (.tup [.str z, .str p.2.jn, .str p.2.over]) = H1 at s1 et hx1
    refine ⟨fun σ' H2 => σ' = [some (.ref x), some (.int i), some (.int jj), some (.ref t)] ∧ ChAt H2 x c ∧ KB c.lacks H1 H2 ∧ H2 t = some (.tup (([.inr z, .inr p.2.jn, .inr p.2.over] : List Key).map kV)) ∧
      ∃ kvs v, H2 c.lacks = some (.dT kvs) ∧ LacksOk c kvs ∧ valV kvs ([.inr z, .inr p.2.jn, .inr p.2.over] : List Key) = some v, ?_, ?_⟩
    · obtain ⟨kvs, ek, lo⟩ := hx1.lacks
      refine ⟨.ref t, rfl, .ref x, rfl, x, _, _, _, _, rfl, hx1.ins, cc.cl, cc.nL, rfl, c.lacks, _, rfl, DGet.t ek et, _, rfl, ?_⟩
      cases e : valV kvs ([.inr z, .inr p.2.jn, .inr p.2.over] : List Key) with
      | some v => exact iteF ⟨rfl, hx1, .refl _ _, et, kvs, v, ek, lo, e⟩
      | none =>
        refine iteT ⟨.ref x, rfl, x, _, _, _, _, rfl, hx1.ins, cc.cl, cc.nN, rfl, .ref t, rfl, t, _, 0, .str z, rfl, rfl, SqT.of et, rfl, .ref t, rfl, t, _, 1, .str p.2.jn, rfl, rfl, SqT.of et, rfl, .ref t, rfl, t, _, 2, .str p.2.over, rfl, rfl, SqT.of et, rfl,
          c.net, z, p.2.jn, p.2.over, c.N, ls, rfl, hx1.net, ok.ok, hls, fun v H2 s2 hv h0 => ?_⟩
        have hx2 := hx1.keep s2
        have et2 := s2 _ _ et
        have ek2 := s2 _ _ ek
        have lo2 : LacksOk c (putK kvs ([.inr z, .inr p.2.jn, .inr p.2.over] : List Key) v) := lo.put (c.key_in hz hp) hv fun z' jn' o' ek ls' hls' hz' hn' => by
          cases ek
          have : ls' = ls := by
            have := nodup_snd ok.ok.nd hls' hls
            exact this
          subst this
          exact h0 hz' hn'
        refine ⟨.ref x, rfl, x, _, _, _, _, rfl, hx2.ins, cc.cl, cc.nL, rfl, .ref t, rfl, c.lacks, _, rfl, DPut.t ek2 et2 (Nat.lt_of_le_of_lt (lo.small ok) (by decide)), ?_⟩
        refine ⟨rfl, hx2.put lo2, (KB.of s2).trans .write, ?_, _, v, upd_same, lo2, by rw [valV_put, if_pos rfl]⟩
        rw [upd_ne (ne_of et2 ek2 fun z => nomatch z)]
        exact et2
    · rintro σ' H2 ⟨rfl, hx2, k2, et2, kvs, v, ek, lo, hv⟩
      refine ⟨.ref x, rfl, x, _, _, _, _, rfl, hx2.ins, cc.cl, cc.nL, rfl, .ref t, rfl, c.lacks, v, rfl, by rw [← hv]; exact DGet.t ek et2, ?_⟩
      have hv2 := lo.val _ _ hv
      refine k v H2 hx2 ((KB.of s1).trans k2) hv2.1 fun e => ?_
      subst e
      have : z = zj := Option.some.inj (hz.symm.trans hzj)
      subst this
      exact hv2.2 z p.2.jn p.2.over rfl ls hls hin hne
theorem scStep : FnScope ["self", "i", "j", "lack"] ["self", "i", "j"] (defScope sStep) := ⟨rfl, rfl, rfl, by decide +kernel, rfl, by decide +kernel, by decide +kernel⟩
/-- the steps' facts -/
structure Charts (K : PySem.W.Frag) (mg : Str → Option Value) (C : Addr) : Prop where
  cc : ChC K C
  lack : ∃ f fd, Meth K C "lack" f ∧ FnQ K "lack" "Chart.lack" sLack f fd
  lacking : ∃ f fd, Fn K "lacking" sLacking f fd ∧ mg "lacking" = some (.ref f)
  gap : ∃ f fd, Fn K "gap_road" sGap f fd ∧ mg "gap_road" = some (.ref f)
  roads : Roads K mg
def spStep (C : Addr) : Sp := fun vs H Q _ => ∃ (x : Addr) (c : Ch) (i j : Nat) (jj : Int) (z : Str) (p : Addr × Ret), vs = [.ref x, .int i, .int jj] ∧ jj = (j : Int) + 1 ∧ i ≤ j ∧ c.C = C ∧ ChAt H x c ∧ ChOk c ∧ c.ats[i]? = some z ∧ c.ss[j]? = some p ∧
  ∀ (v : V) (H' : Hp), ChAt H' x c → KB c.lacks H H' → Lack v → (i = j → v = .int 0) → Q v H'
theorem ok_step {f C : Addr} {fd : FuncData} (F : FnQ K "step" "Chart.step" sStep f fd) (S : Charts K mg C) : FnOk P w K mg base CX0 7 f fd ["self", "i", "j"] (spStep C) := by
  obtain ⟨fA, fdA, mA, FA⟩ := S.lack
  obtain ⟨fL, fdL, FL, gL⟩ := S.lacking
  obtain ⟨fG, fdG, FG, gG⟩ := S.gap
  have bA : Binds K fdA ["self", "i", "j"] [] := FA.bindsN fun _ _ _ _ _ _ us hl => match us, hl with | [_, _, _], _ => rfl
  have GA : FnOk P w K mg base CX0 6 fA fdA ["self", "i", "j"] (spLack (K := K)) := ok_lack FA FL gL FG gG S.roads
  refine F.ok scStep (fun vs H Q E h => ?_) (fun cdv A outer s H vs Q E hr h => ?_)
  · obtain ⟨x, c, i, j, jj, z, p, rfl, _⟩ := h
    rfl
  · obtain ⟨x, c, i, j, jj, z, p, rfl, ej, hij, eC, hx, ok, hz, hp, k⟩ := h
    have cc : ChC K c.C := by
      rw [eC]
      exact S.cc
    refine ⟨_, PSs.nox (pss_cons (ps_set (i := 3) scStep.nd rfl (.inl rfl) (pe_meth (pv 0) S.cc.cl mA GA hr bA .nil pass0 (pa_cons (pv 1) (pa_cons (pv 2) pa_nil))))
      (pss_cons (ps_if (pt_cmpR op_isN (pv 3) pe_non (nomark _)) (pss_one (ps_ret pe_non)) pss_nil)
      (pss_one (ps_ret (pe_op op_add (pe_op op_sub (pe_op op_sub (pv 2) (pv 1)) pe_int) (pv 3)))))), ?_⟩
    refine ⟨.ref x, rfl, x, c.dx, c.flds, rfl, by rw [← eC]; exact hx.ins, rfl, .int i, rfl, .int jj, rfl, x, c, i, j, jj, z, p, rfl, ej, cc, hx, ok, hz, hp, fun v H1 hx1 k1 hv h0 => ?_⟩
    · refine ⟨v, rfl, rfl, _, rfl, ite2 (fun h => ?_) (fun h => ?_)⟩
      · exact k .non H1 hx1 k1 (.inl rfl) fun e => by
          rw [h0 e] at h
          cases h
      · rcases hv with rfl | ⟨m, hm, rfl⟩
        · exact absurd rfl h
        · refine ⟨.int jj, rfl, .int i, rfl, _, _, rfl, rfl, _, 1, rfl, rfl, .int m, rfl, _, m, rfl, rfl, k _ H1 hx1 k1 (.inr ⟨_, ?_, rfl⟩) fun e => ?_⟩
          · omega
          · have h1 := V.int.inj (h0 e)
            exact congrArg V.int (by omega)
theorem scMany : FnScope ["self"] ["self"] (defScope sMany) := ⟨rfl, rfl, rfl, by decide +kernel, rfl, by decide +kernel, by decide +kernel⟩
def spMany : Sp := fun vs H Q _ => ∃ (x : Addr) (c : Ch), vs = [.ref x] ∧ ChC K c.C ∧ ChAt H x c ∧ Q (.int (c.ss.length : Int)) H
theorem ok_many {f : Addr} {fd : FuncData} (F : FnQ K "many" "Chart.many" sMany f fd) (ml : mg "len" = none) : FnOk P w K mg base CX0 1 f fd ["self"] (spMany (K := K)) := by
  refine F.ok scMany (fun vs H Q E h => ?_) (fun cdv A outer s H vs Q E hr h => ?_)
  · obtain ⟨x, c, rfl, _⟩ := h
    rfl
  · obtain ⟨x, c, rfl, cc, hx, k⟩ := h
    refine ⟨_, PSs.nox (pss_one (ps_ret (pe_callB call_len_seq (by rfl) ml PySem.boot_len (pa_cons (pe_fld (pv 0) rfl) pa_nil)))), ?_⟩
    refine ⟨.ref x, rfl, x, _, _, _, _, rfl, hx.ins, cc.cl, cc.nR, rfl, c.rows, _, rfl, .inl (SqL.of hx.rows), ?_⟩
    rw [List.length_map]
    exact k
end
end K47
set_option maxHeartbeats 4000000
/-! K47Init: a chart is made. -/
namespace K47
open PySem PySem.Spec PyProof.Rows L2
open LamX (ExtN Tabs)
theorem Fr2.of {H H' : Hp} {d : Addr} (e : ExtN H H') (h : H' d = none) : Fr2 H d := fun o ho => by
  by_cases ht : ∃ ps, o = .tbl ps
  · exact ht
  · have := e d o ho fun ps z => ht ⟨ps, z⟩
    rw [h] at this
    cases this
theorem Fr2.back {H H' : Hp} {d : Addr} (e : ExtN H H') (h : Fr2 H' d) : Fr2 H d := fun o ho => by
  by_cases ht : ∃ ps, o = .tbl ps
  · exact ht
  · exact h o (e d o ho fun ps z => ht ⟨ps, z⟩)
/-- one that is free may be written -/
theorem ExtN.kb {H H1 H2 : Hp} {d : Addr} (e : ExtN H H1) (f : Fr2 H d) (k : KB d H1 H2) : ExtN H H2 := fun b o ho n =>
  k b o (e b o ho n) fun z => by
    subst z
    obtain ⟨ps, q⟩ := f o ho
    exact n ps q
theorem ExtN.same {H H1 H2 : Hp} (e : ExtN H H1) (s : Same H1 H2) : ExtN H H2 := fun b o ho n => s b o (e b o ho n)
theorem Tabs.kb {T : List (Addr × Str)} {H H' : Hp} {b : Addr} {u : HO} (t : Tabs T H) (k : KB b H H') (hb : H b = some u) (n1 : ∀ ps, u ≠ .tbl ps) (n2 : ∀ φ, u ≠ .ext φ) : Tabs T H' := fun p hp => by
  obtain ⟨ps, h1, h2, h3⟩ := t p hp
  refine ⟨ps, k _ _ h1 (fun z => by rw [z, hb] at h1; exact n1 ps (Option.some.inj h1)), h2, fun pos cv hc => ?_⟩
  obtain ⟨c, e1, e2⟩ := h3 pos cv hc
  exact ⟨c, e1, k _ _ e2 fun z => by
    rw [z, hb] at e2
    exact n2 _ (Option.some.inj e2)⟩
theorem Tabs.same {T : List (Addr × Str)} {H H' : Hp} (t : Tabs T H) (s : Same H H') : Tabs T H' := t.ext s
/-- tuples stand where all but tables stand -/
theorem TK.extN {H H' : Hp} (e : ExtN H H') : TK H H' := ⟨fun a xs h => e a _ h (fun _ z => (nomatch z)), fun a o xs h => e a _ h (fun _ z => (nomatch z))⟩
theorem ExtN.upd2 {H : Hp} {b : Addr} {o : HO} (f : Fr2 H b) : ExtN H (upd H b o) := fun c u hc n => by
  have : c ≠ b := fun z => by
    subst z
    obtain ⟨ps, q⟩ := f u hc
    exact n ps q
  rw [upd_ne this]
  exact hc
/-- all but x and tables stand -/
def ExtX (x : Addr) (H H' : Hp) : Prop := ∀ b o, b ≠ x → H b = some o → (∀ ps, o ≠ .tbl ps) → H' b = some o
section
variable {P : Program} {w : World} {K : PySem.W.Frag} {mg : Str → Option Value} {base : Heap}
abbrev nInit : List Str := ["self", "net", "line", "returns", "paper"]
theorem scInit : FnScope nInit ["self", "net", "line", "returns"] (defScope sInit) := ⟨rfl, rfl, rfl, by decide +kernel, rfl, by decide +kernel, by decide +kernel⟩
def spInit (T C : Addr) : Sp := fun vs H Q _ => ∃ (x dx a l : Addr) (line : Str) (N : Net) (qs ss : List (Addr × Ret)), vs = [.ref x, .ref a, .str line, .ref l] ∧ H x = some (.ins C dx []) ∧ NetAt H a N ∧ Tabs (TT T) H ∧ H l = some (.lst (qs.map fun p => V.ref p.1)) ∧ (∀ p ∈ qs, RetAt H p.1 p.2) ∧
  qs.Perm ss ∧ (ss.Pairwise fun a b => a.2.day < b.2.day) ∧ ss.length ≤ 20 ∧
  ∀ (c : Ch) (H' : Hp), c.C = C → c.dx = dx → c.N = N → c.line = line → c.ss = ss → ChAt H' x c → ExtX x H H' → Tabs (TT T) H' → (∀ o, c.lacks ≠ x ∧ (H c.lacks = some o → ∃ ps, o = .tbl ps)) → Q .non H'
theorem ok_init {f fO C c0 T : Addr} {fd fdO : FuncData} (F : FnQ K "__init__" "Chart.__init__" sInit f fd) (cc : ChC K C) (FO : Fn K "in_order" sOrder fO fdO) (gO : mg "in_order" = some (.ref fO)) (hcd : fdO.code = .ref c0) (TB : LamX.TabB base mg c0 T) (ms : mg "sorted" = none) :
    FnOk P w K mg base CX0 2 f fd ["self", "net", "line", "returns"] (spInit T C) := by
  have bO : Binds K fdO ["returns"] [] := FO.bindsN fun _ _ _ _ _ _ us hl => match us, hl with | [_], _ => rfl
  have GO : FnOk P w K mg base CX0 1 fO fdO ["returns"] (spOrder T) := ok_order FO hcd TB ms
  refine F.ok scInit (fun vs H Q E h => ?_) (fun cdv A outer s H vs Q E hr h => ?_)
  · obtain ⟨x, dx, a, l, line, N, qs, ss, rfl, _⟩ := h
    rfl
  · obtain ⟨x, dx, a, l, line, N, qs, ss, rfl, hx, hN, hT, hl, hqs, hp, hss, l20, k⟩ := h
    refine ⟨_, PSs.nox (pss_cons (ps_fld (pv 0) (pv 1) rfl)
      (pss_cons (ps_fld (pv 0) (pe_call GO hr (by rfl) gO FO.kp bO .nil pass0 (pa_cons (pv 3) pa_nil)) rfl)
      (pss_cons (ps_fld (pv 0) (pe_op op_cat (pe_lst (pa_cons (pv 2) pa_nil)) (pe_lc (own := [("paper", 4)]) (g := gName 4) (tt := tYes) rfl scInit.nd (pi_list (pe_fld (pv 0) rfl)) (blkOk_by (N := nInit) (sc := defScope sInit) (by decide +kernel))
          (fun _ _ _ _ _ => pg_name (i := 4) scInit.nd rfl (Or.inl rfl)) (fun _ _ _ _ _ => pts_nil) (fun _ _ _ _ _ => pe_ix (r := rIxT K) ix_tup (pv 4) pe_int (fun _ _ => rfl)))) rfl)
      (pss_one (ps_fld (pv 0) pe_dnewT rfl))))), ?_⟩
    have nl : l ≠ x := ne_of hl hx fun z => nomatch z
    refine ⟨.ref a, rfl, .ref x, rfl, x, C, dx, [], rfl, hx, cc.cl, cc.nN, by decide, ?_⟩
    have k1 : KB x H (upd H x (.ins C dx (putF "net" (.ref a) []))) := .write
    have hT1 := Tabs.kb hT k1 hx (fun _ z => nomatch z) (fun _ z => nomatch z)
    have tk1 : TK H (upd H x (.ins C dx (putF "net" (.ref a) []))) := KB.tk' k1 hx ⟨fun _ z => (nomatch z), fun _ _ z => (nomatch z)⟩
    have ex1 : (upd H x (.ins C dx (putF "net" (.ref a) []))) x = some (.ins C dx [("net", .ref a)]) := upd_same
    have el1 := k1 _ _ hl nl
    generalize upd H x (.ins C dx (putF "net" (.ref a) [])) = H1 at k1 hT1 tk1 ex1 el1
    refine ⟨.ref l, rfl, l, qs, ss, rfl, hT1, el1, fun p hp => (hqs p hp).keep tk1, hp, hss, fun r H2 e2 hT2 fr er => ?_⟩
    have ex2 := e2 _ _ ex1 fun _ z => nomatch z
    have hqs2 : ∀ p ∈ ss, RetAt H2 p.1 p.2 := fun p hpp => ((hqs p (hp.mem_iff.mpr hpp)).keep tk1).keep (TK.extN e2)
    have hN2 : NetAt H2 a N := (hN.keep tk1).keep (TK.extN e2)
    have nr : r ≠ x := ne_of er ex2 fun z => nomatch z
    refine ⟨.ref x, rfl, x, C, dx, _, rfl, ex2, cc.cl, cc.nR, (by show 1 < 1000; decide), ?_⟩
    have k3 : KB x H2 (upd H2 x (.ins C dx (putF "rows" (.ref r) [("net", .ref a)]))) := .write
    have hT3 := Tabs.kb hT2 k3 ex2 (fun _ z => nomatch z) (fun _ z => nomatch z)
    have tk3 : TK H2 (upd H2 x (.ins C dx (putF "rows" (.ref r) [("net", .ref a)]))) := KB.tk' k3 ex2 ⟨fun _ z => (nomatch z), fun _ _ z => (nomatch z)⟩
    have ex3 : (upd H2 x (.ins C dx (putF "rows" (.ref r) [("net", .ref a)]))) x = some (.ins C dx [("net", .ref a), ("rows", .ref r)]) := upd_same
    have er3 := k3 _ _ er nr
    generalize upd H2 x (.ins C dx (putF "rows" (.ref r) [("net", .ref a)])) = H3 at k3 hT3 tk3 ex3 er3
    have hqs3 : ∀ p ∈ ss, RetAt H3 p.1 p.2 := fun p hpp => (hqs2 p hpp).keep tk3
    -- at
    refine ⟨.str line, rfl, by show 1 ≤ sizeLine; decide, fun fl hfl => ?_⟩
    have s4 : Same H3 (upd H3 fl (.lst [.str line])) := same_upd hfl
    have efl : (upd H3 fl (.lst [.str line])) fl = some (.lst [.str line]) := upd_same
    generalize upd H3 fl (.lst [.str line]) = H4 at s4 efl
    have er4 := s4 _ _ er3
    refine ⟨.ref x, rfl, x, _, _, _, _, rfl, s4 _ _ ex3, cc.cl, cc.nR, rfl, r, rfl, ⟨_, SqL.of er4⟩, fun D hD => ?_⟩
    refine lc_list (K := K) (a := r) (xs := ss.map fun p => V.ref p.1) (fun j H5 => H5 D = some (.lst (((ss.take j).map (·.2.over)).map V.str)) ∧ Same H4 H5) ⟨upd_same, same_upd hD⟩ (fun j H5 _ ⟨_, s5⟩ => SqL.of (s5 _ _ er4)) ?_ ?_
    · rintro j v H5 hv ⟨eD, s5⟩
      rw [List.getElem?_map] at hv
      cases hq : ss[j]? with
      | none =>
        rw [hq] at hv
        cases hv
      | some p =>
      rw [hq] at hv
      obtain rfl : V.ref p.1 = v := Option.some.inj hv
      have lj := (List.getElem?_eq_some_iff.mp hq).1
      have hpR : H5 p.1 = some (.tup (retV p.2)) := s5 _ _ (s4 _ _ (hqs3 p (List.mem_of_getElem? hq)))
      refine ⟨rfl, .ref p.1, rfl, p.1, _, 7, .str p.2.over, rfl, rfl, SqT.of hpR, rfl, _, eD, ?_, ?_, same_mut s5 hD⟩
      · rw [List.length_map, List.length_map, List.length_take]
        exact small1000 (by omega)
      · rw [upd_same, take_snoc hq, List.map_append, List.map_append]
        rfl
    · rintro H5 ⟨eD, s5⟩
      rw [List.length_map, List.take_length] at eD
      refine ⟨fl, D, _, _, rfl, rfl, s5 _ _ efl, eD, ?_, fun q hq => ?_⟩
      · rw [List.length_map, List.length_map]
        show 1 + ss.length ≤ sizeLine
        exact Nat.le_of_lt (small1000 (by omega))
      have s6 : Same H3 (upd H5 q (.lst ([.str line] ++ (ss.map (·.2.over)).map V.str))) := (s4.trans s5).trans (same_upd hq)
      have eq6 : (upd H5 q (.lst ([.str line] ++ (ss.map (·.2.over)).map V.str))) q = some (.lst ((line :: ss.map (·.2.over)).map V.str)) := upd_same
      generalize upd H5 q (.lst ([.str line] ++ (ss.map (·.2.over)).map V.str)) = H6 at s6 eq6
      have ex6 := s6 _ _ ex3
      have er6 := s6 _ _ er3
      refine ⟨.ref x, rfl, x, C, dx, _, rfl, ex6, cc.cl, cc.nA, (by show 2 < 1000; decide), ?_⟩
      have nq : q ≠ x := ne_of eq6 ex6 fun z => nomatch z
      have k7 : KB x H6 (upd H6 x (.ins C dx (putF "at" (.ref q) [("net", .ref a), ("rows", .ref r)]))) := .write
      have hT7 := Tabs.kb (Tabs.same hT3 s6) k7 ex6 (fun _ z => nomatch z) (fun _ z => nomatch z)
      have tk7 : TK H6 (upd H6 x (.ins C dx (putF "at" (.ref q) [("net", .ref a), ("rows", .ref r)]))) := KB.tk' k7 ex6 ⟨fun _ z => (nomatch z), fun _ _ z => (nomatch z)⟩
      have ex7 : (upd H6 x (.ins C dx (putF "at" (.ref q) [("net", .ref a), ("rows", .ref r)]))) x = some (.ins C dx [("net", .ref a), ("rows", .ref r), ("at", .ref q)]) := upd_same
      have er7 := k7 _ _ er6 nr
      have eq7 := k7 _ _ eq6 nq
      generalize upd H6 x (.ins C dx (putF "at" (.ref q) [("net", .ref a), ("rows", .ref r)])) = H7 at k7 hT7 tk7 ex7 er7 eq7
      -- lacks
      refine fun d hd => ?_
      have s8 : Same H7 (upd H7 d (.dT [])) := same_upd hd
      have ed8 : (upd H7 d (.dT [])) d = some (.dT []) := upd_same
      generalize upd H7 d (.dT []) = H8 at s8 ed8
      have ex8 := s8 _ _ ex7
      refine ⟨.ref x, rfl, x, C, dx, _, rfl, ex8, cc.cl, cc.nL, (by show 3 < 1000; decide), ?_⟩
      have nd : d ≠ x := ne_of ed8 ex8 fun z => nomatch z
      have k9 : KB x H8 (upd H8 x (.ins C dx (putF "lacks" (.ref d) [("net", .ref a), ("rows", .ref r), ("at", .ref q)]))) := .write
      have tk9 : TK H8 (upd H8 x (.ins C dx (putF "lacks" (.ref d) [("net", .ref a), ("rows", .ref r), ("at", .ref q)]))) := KB.tk' k9 ex8 ⟨fun _ z => (nomatch z), fun _ _ z => (nomatch z)⟩
      have tkA := (((TK.of s6).trans tk7).trans (TK.of s8)).trans tk9
      have exx : ExtX x H H8 := fun b o nb hb n => s8 _ _ (k7 _ _ (s6 _ _ (k3 _ _ (e2 _ _ (k1 _ _ hb nb) n) nb)) nb)
      refine k ⟨C, dx, a, r, q, d, N, line, ss⟩ _ rfl rfl rfl rfl rfl ⟨upd_same, (hN2.keep tk3).keep tkA, k9 _ _ (s8 _ _ er7) nr, fun p hpp => (hqs3 p hpp).keep tkA, k9 _ _ (s8 _ _ eq7) nq, [], k9 _ _ ed8 nd, .nil, fun _ h => (nomatch h), fun _ _ h => (nomatch h)⟩ ?_ ?_ fun o => ⟨nd, fun ho => ?_⟩
      · exact fun b o nb hb n => k9 _ _ (exx b o nb hb n) nb
      · exact Tabs.kb (Tabs.same hT7 s8) k9 ex8 (fun _ z => nomatch z) (fun _ z => nomatch z)
      · by_cases ht : ∃ ps, o = .tbl ps
        · exact ht
        · have := k7 _ _ (s6 _ _ (k3 _ _ (e2 _ _ (k1 _ _ ho nd) fun ps z => ht ⟨ps, z⟩) nd)) nd
          have hd : H7 d = none := hd
          rw [show H7 d = some o from this] at hd
          cases hd
end
end K47
set_option maxHeartbeats 4000000
/-! K47Marks: marks_of. -/
namespace K47
open PySem PySem.Spec PyProof.Rows L2
/-- what the defs over a chart lean on -/
structure Chs (K : PySem.W.Frag) (mg : Str → Option Value) (C : Addr) : Prop where
  ch : Charts K mg C
  step : ∃ f fd, Meth K C "step" f ∧ FnQ K "step" "Chart.step" sStep f fd
  many : ∃ f fd, Meth K C "many" f ∧ FnQ K "many" "Chart.many" sMany f fd
  ml : mg "len" = none
  mr : mg "range" = none
  mm : mg "min" = none
  mt : mg "tuple" = none
  far : ∃ t, mg "FAR_MARK" = some (.int 1000 t)
theorem KB.kb {d l : Addr} {H H1 H2 : Hp} (k : KB d H H1) (hl : H l = none) (k2 : KB2 d l H1 H2) : KB d H H2 := fun b o hb nd => k2 b o (k b o hb nd) nd (ne_of_none hb hl)
theorem ats_some {c : Ch} {i : Nat} (h : i < c.ss.length + 1) : ∃ z, c.ats[i]? = some z := by
  rw [← c.ats_len] at h
  exact ⟨c.ats[i], List.getElem?_eq_getElem h⟩
theorem ss_some {c : Ch} {i : Nat} (h : i < c.ss.length) : ∃ z, c.ss[i]? = some z := ⟨c.ss[i], List.getElem?_eq_getElem h⟩
/-- another list is written -/
theorem ChAt.write {H : Hp} {x l : Addr} {c : Ch} {xs ys : List V} (h : ChAt H x c) (e : H l = some (.lst xs)) (n1 : l ≠ c.rows) (n2 : l ≠ c.at_) : ChAt (upd H l (.lst ys)) x c := by
  have tk : TK H (upd H l (.lst ys)) := TK.write e .lst
  obtain ⟨k0, e0, o⟩ := h.lacks
  refine ⟨?_, h.net.keep tk, ?_, fun p hp => (h.ret p hp).keep tk, ?_, k0, ?_, o⟩
  · rw [upd_ne (ne_of h.ins e fun z => nomatch z)]
    exact h.ins
  · rw [upd_ne n1.symm]
    exact h.rows
  · rw [upd_ne n2.symm]
    exact h.at_
  · rw [upd_ne (ne_of e0 e fun z => nomatch z)]
    exact e0
section
variable {P : Program} {w : World} {K : PySem.W.Frag} {mg : Str → Option Value} {base : Heap}
abbrev nMarks : List Str := ["chart", "marks", "j", "best", "i", "step"]
theorem scMarks : FnScope nMarks ["chart"] (defScope sMarks) := ⟨rfl, rfl, rfl, by decide +kernel, rfl, by decide +kernel, by decide +kernel⟩
def spMarks (C : Addr) : Sp := fun vs H Q _ => ∃ (x : Addr) (c : Ch), vs = [.ref x] ∧ c.C = C ∧ ChAt H x c ∧ ChOk c ∧
  ∀ (l : Addr) (ms : List Int) (H' : Hp), ChAt H' x c → KB c.lacks H H' → H l = none → H' l = some (.lst (ms.map V.int)) → ms.length = c.ss.length + 1 → Q (.ref l) H'
theorem ok_marks {f C : Addr} {fd : FuncData} (F : Fn K "marks_of" sMarks f fd) (S : Chs K mg C) : FnOk P w K mg base CX0 8 f fd ["chart"] (spMarks C) := by
  obtain ⟨fS, fdS, mS, FS⟩ := S.step
  obtain ⟨fM, fdM, mM, FM⟩ := S.many
  obtain ⟨tf, hf⟩ := S.far
  have bS : Binds K fdS ["self", "i", "j"] [] := FS.bindsN fun _ _ _ _ _ _ us hl => match us, hl with | [_, _, _], _ => rfl
  have bM : Binds K fdM ["self"] [] := FM.bindsN fun _ _ _ _ _ _ us hl => match us, hl with | [_], _ => rfl
  have GS : FnOk P w K mg base CX0 7 fS fdS ["self", "i", "j"] (spStep C) := ok_step FS S.ch
  have GM : FnOk P w K mg base CX0 1 fM fdM ["self"] (spMany (K := K)) := ok_many FM S.ml
  refine F.ok scMarks (fun vs H Q E h => ?_) (fun cdv A outer s H vs Q E hr h => ?_)
  · obtain ⟨x, c, rfl, _⟩ := h
    rfl
  · obtain ⟨x, c, rfl, eC, hx, ok, k⟩ := h
    have hr1 : Room 1 _ := hr.mono (by decide)
    have cc : ChC K c.C := by
      rw [eC]
      exact S.ch.cc
    have l20 := ok.len
    refine ⟨_, PSs.nox (pss_cons (ps_set (i := 1) scMarks.nd rfl (.inl rfl) (pe_lst (pa_cons pe_int pa_nil)))
      (pss_cons (ps_for PassesOwn.never rfl (pi_range2 (by rfl) S.mr (pa_cons pe_int (pa_cons (pe_op op_add (pe_meth0 (pv 0) S.ch.cc.cl mM GM hr1 bM .nil pass0) pe_int) pa_nil))) (pg_name (i := 2) scMarks.nd rfl (.inl rfl))
        (pss_cons (ps_set (i := 3) scMarks.nd rfl (.inl rfl) (pe_glob (v := .int 1000) (by rfl) hf ⟨tf, rfl⟩))
        (pss_cons (ps_for PassesOwn.never rfl (pi_range1 (by rfl) S.mr (pa_cons (pv 2) pa_nil)) (pg_name (i := 4) scMarks.nd rfl (.inl rfl))
          (pss_cons (ps_set (i := 5) scMarks.nd rfl (.inl rfl) (pe_meth (pv 0) S.ch.cc.cl mS GS hr bS .nil pass0 (pa_cons (pv 4) (pa_cons (pv 2) pa_nil))))
          (pss_one (ps_if (pt_cmpR op_notN (pv 5) pe_non (nomark _)) (pss_one (ps_set (i := 3) scMarks.nd rfl (.inl rfl) (pe_callB (call_min2 rfl) (by rfl) S.mm PyProof.Rows.boot_min (pa_cons (pv 3) (pa_cons (pe_op op_add (pe_ix ix_list (pv 1) (pv 4) (fun _ _ => rfl)) (pv 5)) pa_nil))))) pss_nil))))
        (pss_one (ps_expr (pe_bm PySem.F.plainAttrs_list PySem.F.slot_list_append PySem.F.type_list_append mt_append (pv 1) (pa_cons (pv 3) pa_nil)))))))
      (pss_one (ps_ret (pv 1))))), ?_⟩
    refine ⟨by show 1 ≤ sizeLine; decide, fun l hl => ?_⟩
    have s1 : Same H (upd H l (.lst [.int 0])) := same_upd hl
    have el1 : (upd H l (.lst [.int 0])) l = some (.lst [.int 0]) := upd_same
    have hx1 := hx.keep s1
    generalize upd H l (.lst [.int 0]) = H1 at s1 el1 hx1
    obtain ⟨k0, e0, _⟩ := hx.lacks
    have nl : l ≠ c.lacks := (ne_of_none e0 hl).symm
    have ins : ∀ {H'}, ChAt H' x c → H' x = some (.ins C c.dx c.flds) := fun h => by
      rw [← eC]
      exact h.ins
    refine ⟨.ref x, rfl, x, c.dx, c.flds, rfl, ins hx1, rfl, x, c, rfl, cc, hx1, _, 1, rfl, rfl, 1, _, rfl, ⟨by decide, by decide, by omega, by omega⟩, ?_⟩
    refine for_range (lo := 1) (n := ((c.ss.length : Int) + 1 - 1).toNat) (fun j σ H' => ∃ (ms : List Int) (y2 y3 y4 y5 : Option V), σ = [some (.ref x), some (.ref l), y2, y3, y4, y5] ∧ ChAt H' x c ∧ KB c.lacks H H' ∧ H' l = some (.lst (ms.map V.int)) ∧ ms.length = j + 1)
      ⟨[0], none, none, none, none, rfl, hx1, KB.of s1, el1, rfl⟩ ?_ ?_
    · rintro j σ H2 hj ⟨ms, y2, y3, y4, y5, rfl, hx2, k2, el2, lm⟩
      have hj2 : j < c.ss.length := by omega
      obtain ⟨p, hp⟩ := ss_some hj2
      refine ⟨.int (1 + j), rfl, _, rfl, by omega, by omega, ?_⟩
      refine for_range (lo := 0) (n := (1 + (j : Int)).toNat) (fun i σ H' => ∃ (best : Int) (y4 y5 : Option V), σ = [some (.ref x), some (.ref l), some (.int (1 + j)), some (.int best), y4, y5] ∧ ChAt H' x c ∧ KB c.lacks H H' ∧ H' l = some (.lst (ms.map V.int)))
        ⟨1000, y4, y5, rfl, hx2, k2, el2⟩ ?_ ?_
      · rintro i σ H3 hi ⟨best, y4, y5, rfl, hx3, k3, el3⟩
        obtain ⟨z, hz⟩ := ats_some (c := c) (i := i) (by omega)
        refine ⟨.ref x, rfl, x, c.dx, c.flds, rfl, ins hx3, rfl, .int (0 + i), rfl, .int (1 + j), rfl, x, c, i, j, 1 + j, z, p, by rw [Int.zero_add]; rfl, by omega, by omega, eC, hx3, ok, hz, hp, fun v H4 hx4 k4 hv h0 => ?_⟩
        have el4 := k4 _ _ el3 nl
        refine ⟨v, rfl, rfl, _, rfl, ite2 (fun h => ?_) (fun h => ?_)⟩
        · rcases hv with rfl | ⟨q, hq, rfl⟩
          · cases h
          · obtain ⟨m, hm⟩ : ∃ m, ms[i]? = some m := ⟨ms[i]'(by omega), List.getElem?_eq_getElem _⟩
            exact ⟨.int best, rfl, .ref l, rfl, .int (0 + i), rfl, l, _, 0 + i, .int m, rfl, rfl, SqL.of el4, by rw [Int.zero_add]; exact atI_nat (by rw [List.getElem?_map, hm]; rfl), .int q, rfl, _, q, rfl, rfl, _, _, rfl, _, _, _, rfl, hx4, k3.trans k4, el4⟩
        · exact ⟨best, _, _, rfl, hx4, k3.trans k4, el4⟩
      · rintro σ H3 ⟨best, y4, y5, rfl, hx3, k3, el3⟩
        refine ⟨.ref l, rfl, .inl ⟨rfl, _, SqL.of el3⟩, .int best, rfl, l, _, _, rfl, rfl, el3, ?_, ms ++ [best], _, _, _, _, rfl, ?_, k3.mut hl, ?_, ?_⟩
        · rw [List.length_map]
          exact small1000 (by omega)
        · exact hx3.write el3 (ne_of_none hx.rows hl).symm (ne_of_none hx.at_ hl).symm
        · rw [upd_same, List.map_append]
          rfl
        · rw [List.length_append, List.length_singleton, lm]
    · rintro σ H2 ⟨ms, y2, y3, y4, y5, rfl, hx2, k2, el2, lm⟩
      exact ⟨.ref l, rfl, k l ms H2 hx2 k2 hl el2 (by omega)⟩
end
end K47
set_option maxHeartbeats 4000000
/-! K47Rests: rests_of, held_after. -/
namespace K47
open PySem PySem.Spec PyProof.Rows L2
def zs (n : Nat) : List V := List.replicate (n + 1) (.int 0)
theorem zs_len (n : Nat) : (zs n).length = n + 1 := List.length_replicate
theorem zs_at {n j : Nat} (h : j ≤ n) : (zs n)[j]? = some (.int 0) := by
  unfold zs
  rw [List.getElem?_replicate, if_pos (by omega)]
theorem zs_set {n i : Nat} : (zs n).set i (.int 0) = zs n := by
  unfold zs
  rw [List.set_replicate_self]
theorem ix_nat {n i : Nat} (h : i < n) : ixN n (i : Int) = some i := by
  unfold ixN
  rw [if_pos (by omega), if_pos (by omega), Int.toNat_natCast]
theorem set_same {n i : Nat} {v : V} (h : i ≤ n) : ((zs n).set i v)[i]? = some v := by
  rw [List.getElem?_set, if_pos rfl, if_pos (by rw [zs_len]; omega)]
theorem set_other {n i j : Nat} {v : V} (h : j ≤ n) (ne : i ≠ j) : ((zs n).set i v)[j]? = some (.int 0) := by
  rw [List.getElem?_set, if_neg ne, zs_at h]
section
variable {P : Program} {w : World} {K : PySem.W.Frag} {mg : Str → Option Value} {base : Heap}
abbrev nRests : List Str := ["chart", "many", "rests", "i", "j", "step", "at"]
theorem scRests : FnScope nRests ["chart"] (defScope sRests) := ⟨rfl, rfl, rfl, by decide +kernel, rfl, by decide +kernel, by decide +kernel⟩
def spRests (C : Addr) : Sp := fun vs H Q _ => ∃ (x : Addr) (c : Ch), vs = [.ref x] ∧ c.C = C ∧ ChAt H x c ∧ ChOk c ∧
  ∀ (l : Addr) (H' : Hp), ChAt H' x c → KB c.lacks H H' → H l = none → H' l = some (.lst (zs c.ss.length)) → Q (.ref l) H'
theorem ok_rests {f C : Addr} {fd : FuncData} (F : Fn K "rests_of" sRests f fd) (S : Chs K mg C) : FnOk P w K mg base CX0 8 f fd ["chart"] (spRests C) := by
  obtain ⟨fS, fdS, mS, FS⟩ := S.step
  obtain ⟨fM, fdM, mM, FM⟩ := S.many
  have bS : Binds K fdS ["self", "i", "j"] [] := FS.bindsN fun _ _ _ _ _ _ us hl => match us, hl with | [_, _, _], _ => rfl
  have bM : Binds K fdM ["self"] [] := FM.bindsN fun _ _ _ _ _ _ us hl => match us, hl with | [_], _ => rfl
  have GS : FnOk P w K mg base CX0 7 fS fdS ["self", "i", "j"] (spStep C) := ok_step FS S.ch
  have GM : FnOk P w K mg base CX0 1 fM fdM ["self"] (spMany (K := K)) := ok_many FM S.ml
  refine F.ok scRests (fun vs H Q E h => ?_) (fun cdv A outer s H vs Q E hr h => ?_)
  · obtain ⟨x, c, rfl, _⟩ := h
    rfl
  · obtain ⟨x, c, rfl, eC, hx, ok, k⟩ := h
    have hr1 : Room 1 _ := hr.mono (by decide)
    have cc : ChC K c.C := by
      rw [eC]
      exact S.ch.cc
    have l20 := ok.len
    refine ⟨_, PSs.nox (pss_cons (ps_set (i := 1) scRests.nd rfl (.inl rfl) (pe_meth0 (pv 0) S.ch.cc.cl mM GM hr1 bM .nil pass0))
      (pss_cons (ps_setLc (i := 2) (own := [("at", 6)]) (g := gName 6) (tt := tYes) rfl scRests.nd rfl rfl (sw_true rfl rfl rfl (by decide +kernel))
            (pi_range1 (by rfl) S.mr (pa_cons (pe_op op_add (pv 1) pe_int) pa_nil))
            (blkOk_by (N := nRests) (sc := defScope sRests) (by decide +kernel)) (fun _ _ _ _ _ => pg_name (i := 6) scRests.nd rfl (Or.inl rfl)) (fun _ _ _ _ _ => pts_nil)
            (fun _ _ _ _ _ => pe_int))
      (pss_cons (ps_for PassesOwn.never rfl (pi_range3 (by rfl) S.mr (pa_cons (pv 1) (pa_cons (pe_un un_neg pe_int) (pa_cons (pe_un un_neg pe_int) pa_nil)))) (pg_name (i := 3) scRests.nd rfl (.inl rfl))
        (pss_cons (ps_asg (pe_op op_sub (pv 1) (pv 3)) (pg_sub (pv 2) (pv 3) set_list))
        (pss_one (ps_for PassesOwn.never rfl (pi_range2 (by rfl) S.mr (pa_cons (pe_op op_add (pv 3) pe_int) (pa_cons (pe_op op_add (pv 1) pe_int) pa_nil))) (pg_name (i := 4) scRests.nd rfl (.inl rfl))
          (pss_cons (ps_set (i := 5) scRests.nd rfl (.inl rfl) (pe_meth (pv 0) S.ch.cc.cl mS GS hr bS .nil pass0 (pa_cons (pv 3) (pa_cons (pv 4) pa_nil))))
          (pss_one (ps_if (pt_cmpR op_notN (pv 5) pe_non (nomark _)) (pss_one (ps_asg (pe_callB (call_min2 rfl) (by rfl) S.mm PyProof.Rows.boot_min (pa_cons (pe_ix ix_list (pv 2) (pv 3) (fun _ _ => rfl)) (pa_cons (pe_op op_add (pv 5) (pe_ix ix_list (pv 2) (pv 4) (fun _ _ => rfl))) pa_nil)))
            (pg_sub (pv 2) (pv 3) set_list))) pss_nil)))))))
      (pss_one (ps_ret (pv 2)))))), ?_⟩
    obtain ⟨k0, e0, _⟩ := hx.lacks
    have ins : ∀ {H'}, ChAt H' x c → H' x = some (.ins C c.dx c.flds) := fun h => by
      rw [← eC]
      exact h.ins
    refine ⟨.ref x, rfl, x, c.dx, c.flds, rfl, ins hx, rfl, x, c, rfl, cc, hx, ?_⟩
    generalize hn : c.ss.length = n at *
    refine ⟨.int n, rfl, _, 1, rfl, rfl, _, rfl, by omega, by omega, fun l hl => ?_⟩
    have nl : l ≠ c.lacks := (ne_of_none e0 hl).symm
    refine lc_range (lo := 0) (n := ((n : Int) + 1).toNat) (fun j H1 => H1 l = some (.lst (List.replicate j (.int 0))) ∧ Same H H1) ⟨upd_same, same_upd hl⟩ ?_ ?_
    · rintro j H1 hj ⟨el, s1⟩
      refine ⟨rfl, _, el, ?_, ?_, same_mut s1 hl⟩
      · rw [List.length_replicate]
        exact small1000 (by omega)
      · rw [upd_same, List.replicate_succ']
    rintro H1 ⟨el1, s1⟩
    have en : ((n : Int) + 1).toNat = n + 1 := by omega
    rw [en] at el1
    have hx1 := hx.keep s1
    refine ⟨.int n, rfl, 1, rfl, 1, rfl, n, -1, -1, ((n : Int) - (-1)).toNat, rfl, RgC.neg (by omega) (by omega) (by decide) (by decide), ?_⟩
    refine for_rangeC (lo := n) (c := -1) (n := ((n : Int) - (-1)).toNat) (fun j σ H' => ∃ (y3 y4 y5 : Option V), σ = [some (.ref x), some (.int n), some (.ref l), y3, y4, y5, none] ∧ ChAt H' x c ∧ KB c.lacks H H' ∧ H' l = some (.lst (zs n)))
      ⟨none, none, none, rfl, hx1, KB.of s1, el1⟩ ?_ ?_
    · rintro kk σ H2 hk ⟨y3, y4, y5, rfl, hx2, k2, el2⟩
      obtain ⟨i, hi, ei⟩ : ∃ i : Nat, i ≤ n ∧ (n : Int) + (kk : Nat) * (-1) = (i : Int) := ⟨n - kk, by omega, by omega⟩
      rw [ei]
      refine ⟨.int n, rfl, .int i, rfl, _, _, rfl, rfl, .ref l, rfl, .int i, rfl, l, _, i, i, rfl, rfl, el2, ix_nat (by rw [zs_len]; omega), ?_⟩
      have hx3 : ChAt (upd H2 l (.lst ((zs n).set i (.int ((n : Int) - i))))) x c := hx2.write el2 (ne_of_none hx.rows hl).symm (ne_of_none hx.at_ hl).symm
      refine ⟨.int i, rfl, _, 1, rfl, rfl, .int n, rfl, _, 1, rfl, rfl, _, _, rfl, ⟨by omega, by omega, by omega, by omega⟩, ?_⟩
      refine for_range (lo := (i : Int) + 1) (n := ((n : Int) + 1 - (i + 1)).toNat) (fun t σ H' => ∃ (v : Int) (y4 y5 : Option V), σ = [some (.ref x), some (.int n), some (.ref l), some (.int i), y4, y5, none] ∧ ChAt H' x c ∧ KB c.lacks H H' ∧ H' l = some (.lst ((zs n).set i (.int v))) ∧ (t = 0 → v = (n : Int) - i) ∧ (0 < t → v = 0))
        ⟨_, y4, y5, rfl, hx3, k2.mut hl, upd_same, fun _ => rfl, fun h => absurd h (Nat.lt_irrefl 0)⟩ ?_ ?_
      · rintro t σ H4 ht ⟨v, y4, y5, rfl, hx4, k4, el4, v0, v1⟩
        have hj : i + t < n := by omega
        obtain ⟨p, hp⟩ := ss_some (c := c) (i := i + t) (by omega)
        obtain ⟨z, hz⟩ := ats_some (c := c) (i := i) (by omega)
        refine ⟨.ref x, rfl, x, c.dx, c.flds, rfl, ins hx4, rfl, .int i, rfl, .int ((i : Int) + 1 + t), rfl, x, c, i, i + t, (i : Int) + 1 + t, z, p, rfl, by omega, by omega, eC, hx4, ok, hz, hp, fun u H5 hx5 k5 hv h0 => ?_⟩
        have el5 := k5 _ _ el4 nl
        have hu0 : t = 0 → u = .int 0 := fun e => h0 (by omega)
        have hxw : ∀ u' : Int, ChAt (upd H5 l (.lst (((zs n).set i (.int v)).set i (.int u')))) x c := fun u' => hx5.write el5 (ne_of_none hx.rows hl).symm (ne_of_none hx.at_ hl).symm
        refine ⟨u, rfl, rfl, _, rfl, ite2 (fun h => ?_) (fun h => ?_)⟩
        · rcases hv with rfl | ⟨q, hq, rfl⟩
          · cases h
          · have ej : (i : Int) + 1 + t = ((i + 1 + t : Nat) : Int) := by omega
            refine ⟨.ref l, rfl, .int i, rfl, l, _, i, .int v, rfl, rfl, SqL.of el5, atI_nat (set_same hi), .int q, rfl, .ref l, rfl, .int ((i : Int) + 1 + t), rfl, l, _, (i : Int) + 1 + t, .int 0, rfl, rfl, SqL.of el5, by rw [ej]; exact atI_nat (set_other (by omega) (by omega)), q, 0, rfl, rfl, v, q + 0, rfl,
              .ref l, rfl, .int i, rfl, l, _, i, i, rfl, rfl, el5, ix_nat (by rw [List.length_set, zs_len]; omega), _, _, _, rfl, hxw _, (k4.trans k5).mut hl, by rw [upd_same, List.set_set], fun e => absurd e (Nat.succ_ne_zero _), fun _ => ?_⟩
            by_cases e : t = 0
            · have h1 : q = 0 := V.int.inj (hu0 e)
              have h2 := v0 e
              rw [if_pos (by omega)]
              omega
            · have h2 := v1 (by omega)
              rw [if_neg (by omega)]
              exact h2
        · refine ⟨v, _, _, rfl, hx5, k4.trans k5, el5, fun e => absurd e (Nat.succ_ne_zero _), fun _ => ?_⟩
          by_cases e : t = 0
          · rw [hu0 e] at h
            exact absurd rfl h
          · exact v1 (by omega)
      · rintro σ H4 ⟨v, y4, y5, rfl, hx4, k4, el4, v0, v1⟩
        have ev : v = 0 := by
          by_cases e : ((n : Int) + 1 - (i + 1)).toNat = 0
          · rw [v0 e]
            omega
          · exact v1 (by omega)
        rw [ev, zs_set] at el4
        exact ⟨_, _, _, rfl, hx4, k4, el4⟩
    · rintro σ H2 ⟨y3, y4, y5, rfl, hx2, k2, el2⟩
      exact ⟨.ref l, rfl, k l H2 hx2 k2 hl el2⟩
end
end K47
set_option maxHeartbeats 4000000
/-! K47Held: held_after, steps_held. -/
namespace K47
open PySem PySem.Spec PyProof.Rows L2
section
variable {P : Program} {w : World} {K : PySem.W.Frag} {mg : Str → Option Value} {base : Heap}
abbrev nHeld : List Str := ["chart", "rests", "i", "j", "step"]
theorem scHeld : FnScope nHeld ["chart", "rests", "i"] (defScope sAfter) := ⟨rfl, rfl, rfl, by decide +kernel, rfl, by decide +kernel, by decide +kernel⟩
def spAfter (C : Addr) : Sp := fun vs H Q _ => ∃ (x l : Addr) (c : Ch) (i : Nat), vs = [.ref x, .ref l, .int i] ∧ c.C = C ∧ ChAt H x c ∧ ChOk c ∧ i ≤ c.ss.length ∧ H l = some (.lst (zs c.ss.length)) ∧ l ≠ c.lacks ∧
  ∀ (H' : Hp), ChAt H' x c → KB c.lacks H H' → Q (.int ((i : Int) + 1)) H'
theorem ok_after {f C : Addr} {fd : FuncData} (F : Fn K "held_after" sAfter f fd) (S : Chs K mg C) : FnOk P w K mg base CX0 8 f fd ["chart", "rests", "i"] (spAfter C) := by
  obtain ⟨fS, fdS, mS, FS⟩ := S.step
  obtain ⟨fM, fdM, mM, FM⟩ := S.many
  have bS : Binds K fdS ["self", "i", "j"] [] := FS.bindsN fun _ _ _ _ _ _ us hl => match us, hl with | [_, _, _], _ => rfl
  have bM : Binds K fdM ["self"] [] := FM.bindsN fun _ _ _ _ _ _ us hl => match us, hl with | [_], _ => rfl
  have GS : FnOk P w K mg base CX0 7 fS fdS ["self", "i", "j"] (spStep C) := ok_step FS S.ch
  have GM : FnOk P w K mg base CX0 1 fM fdM ["self"] (spMany (K := K)) := ok_many FM S.ml
  refine F.ok scHeld (fun vs H Q E h => ?_) (fun cdv A outer s H vs Q E hr h => ?_)
  · obtain ⟨x, l, c, i, rfl, _⟩ := h
    rfl
  · obtain ⟨x, l, c, i, rfl, eC, hx, ok, hi, el, nl, k⟩ := h
    have hr1 : Room 1 _ := hr.mono (by decide)
    have cc : ChC K c.C := by
      rw [eC]
      exact S.ch.cc
    have l20 := ok.len
    refine ⟨_, PSs.nox (pss_cons (ps_for PassesOwn.never rfl (pi_range2 (by rfl) S.mr (pa_cons (pe_op op_add (pv 2) pe_int) (pa_cons (pe_op op_add (pe_meth0 (pv 0) S.ch.cc.cl mM GM hr1 bM .nil pass0) pe_int) pa_nil))) (pg_name (i := 3) scHeld.nd rfl (.inl rfl))
        (pss_cons (ps_set (i := 4) scHeld.nd rfl (.inl rfl) (pe_meth (pv 0) S.ch.cc.cl mS GS hr bS .nil pass0 (pa_cons (pv 2) (pa_cons (pv 3) pa_nil))))
        (pss_one (ps_if (PW.pt (pw_and (pt_cmpR op_notN (pv 4) pe_non (nomark _)) (pw_and1 (pt_cmpR op_eq (pe_op op_add (pv 4) (pe_ix ix_list (pv 1) (pv 3) (fun _ _ => rfl))) (pe_ix ix_list (pv 1) (pv 2) (fun _ _ => rfl)) (nomark _)))))
          (pss_one (ps_ret (pv 3))) pss_nil))))
      (pss_one (ps_ret (pe_op op_add (pe_meth0 (pv 0) S.ch.cc.cl mM GM hr1 bM .nil pass0) pe_int)))), ?_⟩
    have ins : ∀ {H'}, ChAt H' x c → H' x = some (.ins C c.dx c.flds) := fun h => by
      rw [← eC]
      exact h.ins
    generalize hn : c.ss.length = n at *
    refine ⟨.int i, rfl, _, 1, rfl, rfl, .ref x, rfl, x, c.dx, c.flds, rfl, ins hx, rfl, x, c, rfl, cc, hx, c.ss.length, 1, rfl, rfl, _, _, rfl, ⟨by omega, by omega, by omega, by omega⟩, ?_⟩
    rw [hn]
    refine for_range (lo := (i : Int) + 1) (n := ((n : Int) + 1 - (i + 1)).toNat) (fun t σ H' => t = 0 ∧ σ = [some (.ref x), some (.ref l), some (.int i), none, none] ∧ H' = H) ⟨rfl, rfl, rfl⟩ ?_ ?_
    · rintro t σ H2 ht ⟨rfl, rfl, rfl⟩
      obtain ⟨p, hp⟩ := ss_some (c := c) (i := i) (by omega)
      obtain ⟨z, hz⟩ := ats_some (c := c) (i := i) (by omega)
      refine ⟨.ref x, rfl, x, c.dx, c.flds, rfl, ins hx, rfl, .int i, rfl, .int ((i : Int) + 1 + (0 : Nat)), rfl, x, c, i, i, (i : Int) + 1 + (0 : Nat), z, p, rfl, by omega, by omega, eC, hx, ok, hz, hp, fun u H5 hx5 k5 hv h0 => ?_⟩
      have el5 := k5 _ _ el nl
      obtain rfl := h0 rfl
      have ej : (i : Int) + 1 + (0 : Nat) = ((i + 1 : Nat) : Int) := by omega
      have hret := k H5 hx5 k5
      refine ⟨_, rfl, rfl, _, rfl, ite2 (fun _ => ?_) (fun h => absurd rfl h)⟩
      refine ⟨_, rfl, .ref l, rfl, .int ((i : Int) + 1 + (0 : Nat)), rfl, l, _, _, .int 0, rfl, rfl, SqL.of el5, by rw [ej]; exact atI_nat (zs_at (by omega)), 0, 0, rfl, rfl, .ref l, rfl, .int i, rfl, l, _, i, .int 0, rfl, rfl, SqL.of el5, atI_nat (zs_at (by omega)), rfl, _, rfl, ite2 (fun _ => ?_) (fun h => absurd (decide_eq_true (show V.int (0 + 0) = V.int 0 from rfl)) h)⟩
      refine ⟨_, rfl, ?_⟩
      have e2 : (i : Int) + 1 + (0 : Nat) = (i : Int) + 1 := by omega
      rw [e2]
      exact hret
    · rintro σ H2 ⟨ht, rfl, rfl⟩
      refine ⟨.ref x, rfl, x, c.dx, c.flds, rfl, ins hx, rfl, x, c, rfl, cc, hx, c.ss.length, 1, rfl, rfl, ?_⟩
      have e2 : (c.ss.length : Int) + 1 = (i : Int) + 1 := by omega
      show Q (.int ((c.ss.length : Int) + 1)) H2
      rw [e2]
      exact k H2 hx (.refl _ _)
abbrev nHS : List Str := ["chart", "i", "j", "paper", "road", "found", "one"]
theorem scHS : FnScope nHS ["chart", "i", "j"] (defScope sHeld) := ⟨rfl, rfl, rfl, by decide +kernel, rfl, by decide +kernel, by decide +kernel⟩
def heldV (p : Ret) (z : Str) : List V := [.str "held", .int p.num, .str z, .str p.over]
def spHS (C : Addr) : Sp := fun vs H Q _ => ∃ (x : Addr) (c : Ch) (i : Nat) (jj : Int) (z : Str) (p : Addr × Ret), vs = [.ref x, .int i, .int jj] ∧ jj = (i : Int) + 1 ∧ c.C = C ∧ ChAt H x c ∧ ChOk c ∧ c.ats[i]? = some z ∧ c.ss[i]? = some p ∧
  ∀ (l t : Addr) (H' : Hp), Same H H' → H l = none → H t = none → H' l = some (.lst [.ref t]) → H' t = some (.tup (heldV p.2 z)) → Q (.ref l) H'
theorem ok_hs {f C : Addr} {fd : FuncData} (F : Fn K "steps_held" sHeld f fd) (S : Chs K mg C) : FnOk P w K mg base CX0 5 f fd ["chart", "i", "j"] (spHS C) := by
  obtain ⟨fG, fdG, FG, gG⟩ := S.ch.gap
  have bG : Binds K fdG ["net", "line", "junction", "over"] [] := FG.bindsN fun _ _ _ _ _ _ us hl => match us, hl with | [_, _, _, _], _ => rfl
  have GG : FnOk P w K mg base CX0 4 fG fdG ["net", "line", "junction", "over"] spGap := ok_gap FG S.ch.roads
  refine F.ok scHS (fun vs H Q E h => ?_) (fun cdv A outer s H vs Q E hr h => ?_)
  · obtain ⟨x, c, i, jj, z, p, rfl, _⟩ := h
    rfl
  · obtain ⟨x, c, i, jj, z, p, rfl, ej, eC, hx, ok, hz, hp, k⟩ := h
    have cc : ChC K c.C := by
      rw [eC]
      exact S.ch.cc
    have l20 := ok.len
    refine ⟨_, PSs.nox (pss_cons (ps_set (i := 3) scHS.nd rfl (.inl rfl) (pe_ix ix_list (pe_fld (pv 0) rfl) (pe_op op_sub (pv 2) pe_int) (fun _ _ => rfl)))
      (pss_cons (ps_set (i := 4) scHS.nd rfl (.inl rfl) (pe_call GG hr (by rfl) gG FG.kp bG .nil pass0 (pa_cons (pe_fld (pv 0) rfl) (pa_cons (pe_ix ix_list (pe_fld (pv 0) rfl) (pv 1) (fun _ _ => rfl)) (pa_cons (pe_ix ix_tup (pv 3) pe_int (fun _ _ => rfl)) (pa_cons (pe_ix ix_tup (pv 3) pe_int (fun _ _ => rfl)) pa_nil))))))
      (pss_cons (ps_setLc (i := 5) (own := [("one", 6)]) (g := gName 6) (tt := tYes) rfl scHS.nd rfl rfl (sw_true rfl rfl rfl (by decide +kernel))
            (pi_list (pe_slice sl_list (pe_fld (pv 0) rfl) (po_some (pv 1)) (po_some (pe_op op_sub (pv 2) pe_int))))
            (blkOk_by (N := nHS) (sc := defScope sHeld) (by decide +kernel)) (fun _ _ _ _ _ => pg_name (i := 6) scHS.nd rfl (Or.inl rfl)) (fun _ _ _ _ _ => pts_nil)
            (fun _ _ _ _ _ => pe_tup (pa_cons pe_str (pa_cons (pe_ix (r := rIxT K) ix_tup (pv 6) pe_int (fun _ _ => rfl)) pa_nil))))
      (pss_cons (ps_if (pt_cmpR op_gt (pe_callB call_len_seq (by rfl) S.ml PySem.boot_len (pa_cons (pv 4) pa_nil)) pe_int (nomark _))
        (pss_one (ps_expr (pe_bm PySem.F.plainAttrs_list PySem.F.slot_list_append PySem.F.type_list_append mt_append (pv 5) (pa_cons (pe_tup (pa_cons pe_str (pa_cons (pe_callTy call_tuple_of (by rfl) S.mt PyProof.Rows.boot_tuple (pa_cons (pv 4) pa_nil)) pa_nil))) pa_nil)))) pss_nil)
      (pss_one (ps_ret (pe_op op_cat (pv 5) (pe_lst (pa_cons (pe_tup (pa_cons pe_str (pa_cons (pe_ix ix_tup (pv 3) pe_int (fun _ _ => rfl)) (pa_cons (pe_ix ix_list (pv 4) (pe_un un_neg pe_int) (fun _ _ => rfl)) (pa_cons (pe_ix ix_tup (pv 3) pe_int (fun _ _ => rfl)) pa_nil))))) pa_nil))))))))), ?_⟩
    obtain ⟨zj, ls, hzj, hls, hin, hne⟩ := ok.chain i p hp
    obtain rfl : z = zj := Option.some.inj (hz.symm.trans hzj)
    have e0 : jj - 1 = (i : Int) := by omega
    have atz : atI (c.ats.map V.str) (i : Int) = some (.str z) := atI_nat (by rw [List.getElem?_map, hz]; rfl)
    have atr : atI (c.ss.map fun p => V.ref p.1) (jj - 1) = some (.ref p.1) := by
      rw [e0]
      exact atI_nat (by rw [List.getElem?_map, hp]; rfl)
    have hpR : H p.1 = some (.tup (retV p.2)) := hx.ret p (List.mem_of_getElem? hp)
    refine ⟨.ref x, rfl, x, _, _, _, _, rfl, hx.ins, cc.cl, cc.nR, rfl, .int jj, rfl, jj, 1, rfl, rfl, c.rows, _, jj - 1, .ref p.1, rfl, rfl, SqL.of hx.rows, atr, ?_⟩
    refine ⟨.ref x, rfl, x, _, _, _, _, rfl, hx.ins, cc.cl, cc.nN, rfl, .ref x, rfl, x, _, _, _, _, rfl, hx.ins, cc.cl, cc.nA, rfl, .int i, rfl, c.at_, _, i, .str z, rfl, rfl, SqL.of hx.at_, atz,
      .ref p.1, rfl, p.1, _, 3, .str p.2.jn, rfl, rfl, SqT.of hpR, rfl, .ref p.1, rfl, p.1, _, 7, .str p.2.over, rfl, rfl, SqT.of hpR, rfl, c.net, z, p.2.jn, p.2.over, c.N, ls, rfl, hx.net, ok.ok, hls, fun rl rd H1 s1 fr er lr hrd => ?_⟩
    obtain rfl := hrd hin hne
    have hx1 := hx.keep s1
    refine ⟨.ref x, rfl, x, _, _, _, _, rfl, hx1.ins, cc.cl, cc.nR, rfl, .int i, rfl, i, rfl, .int jj, rfl, jj, 1, rfl, rfl, jj - 1, rfl, c.rows, _, rfl, SqL.of hx1.rows, fun sl fs => ?_⟩
    have ecut : cutV (c.ss.map fun p => V.ref p.1) (some (i : Int)) (some (jj - 1)) = [] := by
      rw [e0]
      unfold cutV
      rw [Nat.sub_eq_zero_of_le (by rw [HT.sIx_nat, HT.sIx_nat]; exact Nat.le_refl _), List.take_zero]
    rw [ecut]
    have s2 : Same H1 (upd H1 sl (.lst [])) := same_upd fs
    have esl : (upd H1 sl (.lst [])) sl = some (.lst []) := upd_same
    generalize upd H1 sl (.lst []) = H2 at s2 esl
    refine ⟨sl, rfl, ⟨_, SqL.of esl⟩, fun D hD => ?_⟩
    refine lc_list (K := K) (a := sl) (xs := []) (fun _ H3 => H3 = upd H2 D (.lst [])) rfl (fun j H3 _ e => by rw [e]; exact SqL.of (same_upd hD _ _ esl)) (fun j v H3 hv => by simp at hv) ?_
    rintro H3 rfl
    have s3 : Same H2 (upd H2 D (.lst [])) := same_upd hD
    have eD : (upd H2 D (.lst [])) D = some (.lst []) := upd_same
    generalize upd H2 D (.lst []) = H3 at s3 eD
    have er3 := s3 _ _ (s2 _ _ er)
    have hpR3 : H3 p.1 = some (.tup (retV p.2)) := s3 _ _ (s2 _ _ (s1 _ _ hpR))
    refine ⟨.ref rl, rfl, rl, _, rfl, .inl (SqL.of er3), _, 1, rfl, rfl, _, rfl, ite2 (fun h => ?_) (fun _ => ?_)⟩
    · exact absurd h (by show ¬ (decide ((1 : Int) < (1 : Int))) = true; decide)
    refine ⟨.ref D, rfl, .ref p.1, rfl, p.1, _, 1, .int p.2.num, rfl, rfl, SqT.of hpR3, rfl, .ref rl, rfl, 1, rfl, rl, _, -1, .str z, rfl, rfl, SqL.of er3, rfl, .ref p.1, rfl, p.1, _, 7, .str p.2.over, rfl, rfl, SqT.of hpR3, rfl, by show 4 ≤ sizeLine; decide, fun t ht => ?_⟩
    refine ⟨by show 1 ≤ sizeLine; decide, fun q hq => ?_⟩
    have s4 : Same H3 (upd H3 t (.tup (heldV p.2 z))) := same_upd ht
    have s5 := same_upd (o := HO.lst [.ref t]) hq
    refine ⟨D, q, _, _, rfl, rfl, s5 _ _ (s4 _ _ eD), upd_same, (by show 0 + 1 ≤ sizeLine; decide), fun l hl => ?_⟩
    have s6 := same_upd (o := HO.lst ([] ++ [V.ref t])) hl
    have sH3 : Same H H3 := (s1.trans s2).trans s3
    have s35 : Same H3 (upd (upd H3 t (.tup (heldV p.2 z))) q (.lst [.ref t])) := s4.trans s5
    exact k l t _ ((sH3.trans s35).trans s6) ((sH3.trans s35).free hl) (sH3.free ht) upd_same (s6 _ _ (s5 _ _ upd_same))
end
end K47
set_option maxHeartbeats 4000000
/-! K47Hist: history. -/
namespace K47
open PySem PySem.Spec PyProof.Rows L2
open LamX (ExtN Tabs)
/-- the held steps: the line before, the paper -/
def hSteps (line : Str) (ss : List (Addr × Ret)) : List (Str × Ret) := (line :: ss.map (·.2.over)).zip (ss.map (·.2))
def HeldAt (H : Hp) (t : Addr) (v : Str × Ret) : Prop := H t = some (.tup (heldV v.2 v.1))
theorem hSteps_len (line : Str) (ss : List (Addr × Ret)) : (hSteps line ss).length = ss.length := by
  unfold hSteps
  rw [List.length_zip, List.length_cons, List.length_map, List.length_map]
  omega
/-- each consecutive return goes over from the line before -/
def ChainAt (N : Net) (line : Str) (ss : List (Addr × Ret)) : Prop := ∀ (j : Nat) (p : Addr × Ret), ss[j]? = some p → ∃ z ls, (line :: ss.map (·.2.over))[j]? = some z ∧ (p.2.jn, ls) ∈ N.juncs ∧ z ∈ ls ∧ z ≠ p.2.over
structure Hists (K : PySem.W.Frag) (mg : Str → Option Value) (base : Heap) (C T : Addr) : Prop where
  chs : Chs K mg C
  make : ∃ f fd, Mk K C f ∧ FnQ K "__init__" "Chart.__init__" sInit f fd
  chart : mg "Chart" = some (.ref C)
  order : ∃ f fd c0, Fn K "in_order" sOrder f fd ∧ mg "in_order" = some (.ref f) ∧ fd.code = .ref c0 ∧ LamX.TabB base mg c0 T
  marks : ∃ f fd, Fn K "marks_of" sMarks f fd ∧ mg "marks_of" = some (.ref f)
  rests : ∃ f fd, Fn K "rests_of" sRests f fd ∧ mg "rests_of" = some (.ref f)
  after : ∃ f fd, Fn K "held_after" sAfter f fd ∧ mg "held_after" = some (.ref f)
  held : ∃ f fd, Fn K "steps_held" sHeld f fd ∧ mg "steps_held" = some (.ref f)
  ms : mg "sorted" = none
section
variable {P : Program} {w : World} {K : PySem.W.Frag} {mg : Str → Option Value} {base : Heap}
abbrev nHist : List Str := ["net", "line", "returns", "chart", "rests", "steps", "i", "j", "paper"]
theorem scHist : FnScope nHist ["net", "line", "returns"] (defScope sHistory) := ⟨rfl, rfl, rfl, by decide +kernel, rfl, by decide +kernel, by decide +kernel⟩
def spHist (T : Addr) : Sp := fun vs H Q _ => ∃ (a l : Addr) (line : Str) (N : Net) (qs ss : List (Addr × Ret)), vs = [.ref a, .str line, .ref l] ∧ NetAt H a N ∧ NetOk N ∧ Tabs (TT T) H ∧ H l = some (.lst (qs.map fun p => V.ref p.1)) ∧ (∀ p ∈ qs, RetAt H p.1 p.2) ∧
  qs.Perm ss ∧ (ss.Pairwise fun a b => a.2.day < b.2.day) ∧ ss.length ≤ 20 ∧ ChainAt N line ss ∧
  ∀ (q st mk : Addr) (hs : List Addr) (H' : Hp), ExtN H H' → Tabs (TT T) H' → H' q = some (.tup [.ref st, .ref mk]) → H' st = some (.lst (hs.map V.ref)) → Paired (HeldAt H') hs (hSteps line ss) → Q (.ref q) H'
theorem ok_hist {f C T : Addr} {fd : FuncData} (F : Fn K "history" sHistory f fd) (S : Hists K mg base C T) : FnOk P w K mg base CX0 9 f fd ["net", "line", "returns"] (spHist T) := by
  obtain ⟨fI, fdI, MI, FI⟩ := S.make
  obtain ⟨fO, fdO, c0, FO, gO, hcd, TB⟩ := S.order
  obtain ⟨fK, fdK, FK, gK⟩ := S.marks
  obtain ⟨fR, fdR, FR, gR⟩ := S.rests
  obtain ⟨fA, fdA, FA, gA⟩ := S.after
  obtain ⟨fH, fdH, FH, gH⟩ := S.held
  obtain ⟨fM, fdM, mM, FM⟩ := S.chs.many
  have bI : Binds K fdI ["self", "net", "line", "returns"] [] := FI.bindsN fun _ _ _ _ _ _ us hl => match us, hl with | [_, _, _, _], _ => rfl
  have bK : Binds K fdK ["chart"] [] := FK.bindsN fun _ _ _ _ _ _ us hl => match us, hl with | [_], _ => rfl
  have bR : Binds K fdR ["chart"] [] := FR.bindsN fun _ _ _ _ _ _ us hl => match us, hl with | [_], _ => rfl
  have bA : Binds K fdA ["chart", "rests", "i"] [] := FA.bindsN fun _ _ _ _ _ _ us hl => match us, hl with | [_, _, _], _ => rfl
  have bH : Binds K fdH ["chart", "i", "j"] [] := FH.bindsN fun _ _ _ _ _ _ us hl => match us, hl with | [_, _, _], _ => rfl
  have bM : Binds K fdM ["self"] [] := FM.bindsN fun _ _ _ _ _ _ us hl => match us, hl with | [_], _ => rfl
  have GI : FnOk P w K mg base CX0 2 fI fdI ["self", "net", "line", "returns"] (spInit T C) := ok_init FI S.chs.ch.cc FO gO hcd TB S.ms
  have GK : FnOk P w K mg base CX0 8 fK fdK ["chart"] (spMarks C) := ok_marks FK S.chs
  have GR : FnOk P w K mg base CX0 8 fR fdR ["chart"] (spRests C) := ok_rests FR S.chs
  have GA : FnOk P w K mg base CX0 8 fA fdA ["chart", "rests", "i"] (spAfter C) := ok_after FA S.chs
  have GH : FnOk P w K mg base CX0 5 fH fdH ["chart", "i", "j"] (spHS C) := ok_hs FH S.chs
  have GM : FnOk P w K mg base CX0 1 fM fdM ["self"] (spMany (K := K)) := ok_many FM S.chs.ml
  refine F.ok scHist (fun vs H Q E h => ?_) (fun cdv A outer s H vs Q E hr h => ?_)
  · obtain ⟨a, l, line, N, qs, ss, rfl, _⟩ := h
    rfl
  · obtain ⟨a, l, line, N, qs, ss, rfl, hN, okN, hT, hl, hqs, hp, hss, l20, hch, k⟩ := h
    have hr1 : Room 1 _ := hr.mono (by decide)
    have hr3 : Room 3 _ := hr.mono (by decide)
    have hr5 : Room 5 _ := hr.mono (by decide)
    refine ⟨_, PSs.nox (pss_cons (ps_set (i := 3) scHist.nd rfl (.inl rfl) (pe_make MI GI hr3 (by rfl) S.chart bI .nil pass0 (pa_cons (pv 0) (pa_cons (pv 1) (pa_cons (pv 2) pa_nil)))))
      (pss_cons (ps_set (i := 4) scHist.nd rfl (.inl rfl) (pe_call GR hr (by rfl) gR FR.kp bR .nil pass0 (pa_cons (pv 3) pa_nil)))
      (pss_cons (ps_set (i := 5) scHist.nd rfl (.inl rfl) (pe_lst pa_nil))
      (pss_cons (ps_set (i := 6) scHist.nd rfl (.inl rfl) pe_int)
      (pss_cons (ps_set (i := 7) scHist.nd rfl (.inl rfl) (pe_call GA hr (by rfl) gA FA.kp bA .nil pass0 (pa_cons (pv 3) (pa_cons (pv 4) (pa_cons (pv 6) pa_nil)))))
      (pss_cons (ps_while PassesOwn.never (pt_cmpR op_le (pv 7) (pe_meth0 (pv 3) S.chs.ch.cc.cl mM GM hr1 bM .nil pass0) (nomark _))
        (pss_cons (ps_set (i := 5) scHist.nd rfl (.inl rfl) (pe_op op_cat (pv 5) (pe_call GH hr5 (by rfl) gH FH.kp bH .nil pass0 (pa_cons (pv 3) (pa_cons (pv 6) (pa_cons (pv 7) pa_nil))))))
        (pss_cons (ps_set (i := 6) scHist.nd rfl (.inl rfl) (pv 7))
        (pss_one (ps_set (i := 7) scHist.nd rfl (.inl rfl) (pe_call GA hr (by rfl) gA FA.kp bA .nil pass0 (pa_cons (pv 3) (pa_cons (pv 4) (pa_cons (pv 6) pa_nil)))))))))
      (pss_cons (ps_set (i := 5) scHist.nd rfl (.inl rfl) (pe_op op_cat (pv 5) (pe_lc (own := [("paper", 8)]) (g := gName 8) (tt := tYes) rfl scHist.nd
            (pi_list (pe_slice sl_list (pe_fld (pv 3) rfl) (po_some (pv 6)) po_none))
            (blkOk_by (N := nHist) (sc := defScope sHistory) (by decide +kernel)) (fun _ _ _ _ _ => pg_name (i := 8) scHist.nd rfl (Or.inl rfl)) (fun _ _ _ _ _ => pts_nil)
            (fun _ _ _ _ _ => pe_tup (pa_cons pe_str (pa_cons (pe_ix (r := rIxT K) ix_tup (pv 8) pe_int (fun _ _ => rfl)) pa_nil))))))
      (pss_one (ps_ret (pe_tup (pa_cons (pv 5) (pa_cons (pe_slice sl_list (pe_call GK hr (by rfl) gK FK.kp bK .nil pass0 (pa_cons (pv 3) pa_nil)) (po_some pe_int) po_none) pa_nil)))))))))))), ?_⟩
    refine ⟨.ref a, rfl, .str line, rfl, .ref l, rfl, fun x dx fx fdx ndx => ?_⟩
    have s1 : Same H (upd (upd H dx (.own x)) x (.ins C dx [])) := (same_upd fdx).trans (same_upd (by rw [upd_ne ndx.symm]; exact fx))
    have ex1 : (upd (upd H dx (.own x)) x (.ins C dx [])) x = some (.ins C dx []) := upd_same
    generalize upd (upd H dx (.own x)) x (.ins C dx []) = H1 at s1 ex1
    refine ⟨x, dx, a, l, line, N, qs, ss, rfl, ex1, hN.keep (TK.of s1), Tabs.same hT s1, s1 _ _ hl, fun p h => (hqs p h).keep (TK.of s1), hp, hss, l20, fun c H2 e1 e2 e3 e4 e5 hx2 ex hT2 hfr => ⟨rfl, ?_⟩⟩
    have cc : ChC K c.C := by
      rw [e1]
      exact S.chs.ch.cc
    have ats : c.ats = line :: ss.map (·.2.over) := by
      unfold Ch.ats
      rw [e4, e5]
    have ok : ChOk c := ⟨by rw [e3]; exact okN, by rw [e5]; exact l20, fun j p h => by
      rw [e5] at h
      rw [e3, ats]
      exact hch j p h⟩
    have E2 : ExtN H H2 := fun b o hb n => ex b o (ne_of_none hb fx) (s1 _ _ hb) n
    have fL : Fr2 H c.lacks := fun o ho => (hfr o).2 (s1 _ _ ho)
    have tkb : ∀ {H3 H4 : Hp}, ChAt H3 x c → Tabs (TT T) H3 → KB c.lacks H3 H4 → Tabs (TT T) H4 := fun h t k => by
      obtain ⟨k0, e0, _⟩ := h.lacks
      exact Tabs.kb t k e0 (fun _ z => nomatch z) (fun _ z => nomatch z)
    have ins : ∀ {H'}, ChAt H' x c → H' x = some (.ins C c.dx c.flds) := fun h => by
      rw [← e1]
      exact h.ins
    have l20' := ok.len
    -- rests
    refine ⟨.ref x, rfl, x, c, rfl, e1, hx2, ok, fun r H3 hx3 k3 fr er => ?_⟩
    have E3 := ExtN.kb E2 fL k3
    have hT3 := tkb hx2 hT2 k3
    have nr : r ≠ c.lacks := by
      obtain ⟨k0, e0, _⟩ := hx2.lacks
      exact (ne_of_none e0 fr).symm
    -- steps, i, j
    refine ⟨Nat.zero_le _, fun st hst => ?_⟩
    have s4 : Same H3 (upd H3 st (.lst [])) := same_upd hst
    have est : (upd H3 st (.lst [])) st = some (.lst []) := upd_same
    have hx4 := hx3.keep s4
    have hT4 := Tabs.same hT3 s4
    have E4 := ExtN.same E3 s4
    have er4 := s4 _ _ er
    generalize upd H3 st (.lst []) = H4 at s4 est hx4 hT4 E4 er4
    have nst : ∀ {H' : Hp} {s' : Addr} {xs : List V}, ChAt H' x c → H' s' = some (.lst xs) → s' ≠ c.lacks := fun h e => by
      obtain ⟨k0, e0, _⟩ := h.lacks
      exact ne_of e e0 fun z => nomatch z
    refine ⟨.ref x, rfl, .ref r, rfl, .int 0, rfl, x, r, c, 0, rfl, e1, hx4, ok, Nat.zero_le _, er4, nr, fun H5 hx5 k5 => ?_⟩
    have est5 := k5 _ _ est (nst hx4 est)
    have er5 := k5 _ _ er4 nr
    refine ⟨fun m σ H' => ∃ (i : Nat) (st : Addr) (hs : List Addr), m = c.ss.length - i ∧ i ≤ c.ss.length ∧ σ = [some (.ref a), some (.str line), some (.ref l), some (.ref x), some (.ref r), some (.ref st), some (.int i), some (.int ((i : Int) + 1)), none] ∧ ChAt H' x c ∧ ExtN H H' ∧ Tabs (TT T) H' ∧
        H' r = some (.lst (zs c.ss.length)) ∧ H' st = some (.lst (hs.map V.ref)) ∧ Paired (HeldAt H') hs ((hSteps line ss).take i), ⟨c.ss.length, 0, st, [], rfl, Nat.zero_le _, rfl, hx5, ExtN.kb E4 fL k5, tkb hx4 hT4 k5, er5, est5, .nil⟩, ?_⟩
    rintro m σ H6 ⟨i, s6, hs, rfl, hi, rfl, hx6, E6, hT6, er6, es6, ph⟩
    refine ⟨.int ((i : Int) + 1), rfl, .ref x, rfl, x, c.dx, c.flds, rfl, ins hx6, rfl, x, c, rfl, cc, hx6, _, _, rfl, rfl, _, rfl, ite2 (fun h => ?_) (fun h => ?_)⟩
    · have hlt : (i : Int) + 1 ≤ (c.ss.length : Int) := of_decide_eq_true h
      obtain ⟨p, hpi⟩ := ss_some (c := c) (i := i) (by omega)
      obtain ⟨z, hz⟩ := ats_some (c := c) (i := i) (by omega)
      refine ⟨fun σ' H' => ∃ m', m' < c.ss.length - i ∧ ∃ (i : Nat) (st : Addr) (hs : List Addr), m' = c.ss.length - i ∧ i ≤ c.ss.length ∧ σ' = [some (.ref a), some (.str line), some (.ref l), some (.ref x), some (.ref r), some (.ref st), some (.int i), some (.int ((i : Int) + 1)), none] ∧ ChAt H' x c ∧ ExtN H H' ∧ Tabs (TT T) H' ∧
        H' r = some (.lst (zs c.ss.length)) ∧ H' st = some (.lst (hs.map V.ref)) ∧ Paired (HeldAt H') hs ((hSteps line ss).take i), fun _ _ h => h, ?_⟩
      refine ⟨.ref s6, rfl, .ref x, rfl, .int i, rfl, .int ((i : Int) + 1), rfl, x, c, i, (i : Int) + 1, z, p, rfl, rfl, e1, hx6, ok, hz, hpi, fun l2 t2 H7 s7 _ _ el2 et2 => ?_⟩
      have lhs : hs.length ≤ 20 := by
        have := paired_len ph
        rw [List.length_take, hSteps_len] at this
        omega
      refine ⟨s6, l2, _, _, rfl, rfl, s7 _ _ es6, el2, ?_, fun q hq => ?_⟩
      · rw [List.length_map]
        show hs.length + 1 ≤ sizeLine
        exact Nat.le_of_lt (small1000 (by omega))
      have s8 := same_upd (o := HO.lst (hs.map V.ref ++ [V.ref t2])) hq
      have eq8 : (upd H7 q (.lst (hs.map V.ref ++ [V.ref t2]))) q = some (.lst (hs.map V.ref ++ [V.ref t2])) := upd_same
      have et8 := s8 _ _ et2
      have s68 := s7.trans s8
      generalize upd H7 q (.lst (hs.map V.ref ++ [V.ref t2])) = H8 at s8 eq8 et8 s68
      have hx8 := hx6.keep s68
      refine ⟨.int ((i : Int) + 1), rfl, .ref x, rfl, .ref r, rfl, .int ((i : Int) + 1), rfl, x, r, c, i + 1, rfl, e1, hx8, ok, by omega, s68 _ _ er6, nr, fun H9 hx9 k9 => ?_⟩
      obtain ⟨k0, e0, _⟩ := hx8.lacks
      have tk : TK H6 H9 := (TK.of s68).trans (KB.tk' k9 e0 .dT)
      have tk8 : TK H8 H9 := KB.tk' k9 e0 .dT
      refine ⟨c.ss.length - (i + 1), by omega, i + 1, q, hs ++ [t2], rfl, by omega, rfl, hx9, ExtN.kb (ExtN.same E6 s68) fL k9, tkb hx8 (Tabs.same hT6 s68) k9, k9 _ _ (s68 _ _ er6) nr, ?_, ?_⟩
      · rw [k9 _ _ eq8 (nst hx8 eq8), List.map_append]
        rfl
      · have hst : (hSteps line ss)[i]? = some (z, p.2) := by
          rw [ats] at hz
          rw [e5] at hpi
          unfold hSteps
          rw [List.getElem?_zip_eq_some]
          exact ⟨hz, by rw [List.getElem?_map, hpi]; rfl⟩
        rw [take_snoc hst]
        exact paired_snoc (Paired.mapP ph fun t v hv => tk.t _ _ hv) (tk8.t _ _ et8)
    · have hge : ¬ (i : Int) + 1 ≤ (c.ss.length : Int) := fun z => h (decide_eq_true z)
      have ei : i = c.ss.length := by omega
      subst ei
      have ph2 : Paired (HeldAt H6) hs (hSteps line ss) := by
        rwa [List.take_of_length_le (by rw [hSteps_len, e5]; exact Nat.le_refl _)] at ph
      have lhs : hs.length ≤ 20 := by
        have := paired_len ph2
        rw [hSteps_len, ← e5] at this
        omega
      refine ⟨.ref s6, rfl, .ref x, rfl, x, _, _, _, _, rfl, hx6.ins, cc.cl, cc.nR, rfl, .int (c.ss.length : Nat), rfl, _, rfl, c.rows, _, rfl, SqL.of hx6.rows, fun sl fs => ?_⟩
      have ecut : cutV (c.ss.map fun p => V.ref p.1) (some ((c.ss.length : Nat) : Int)) none = [] := by
        unfold cutV
        rw [HT.sIx_nat, List.drop_of_length_le (by rw [List.length_map]; omega), List.take_nil]
      rw [ecut]
      have s7 : Same H6 (upd H6 sl (.lst [])) := same_upd fs
      have esl : (upd H6 sl (.lst [])) sl = some (.lst []) := upd_same
      generalize upd H6 sl (.lst []) = H7 at s7 esl
      refine ⟨sl, rfl, ⟨_, SqL.of esl⟩, fun D hD => ?_⟩
      refine lc_list (K := K) (a := sl) (xs := []) (fun _ H8 => H8 = upd H7 D (.lst [])) rfl (fun j H8 _ e => by rw [e]; exact SqL.of (same_upd hD _ _ esl)) (fun j v H8 hv => by simp at hv) ?_
      rintro H8 rfl
      have s8 := s7.trans (same_upd (o := HO.lst []) hD)
      have eD : (upd H7 D (.lst [])) D = some (.lst []) := upd_same
      generalize upd H7 D (.lst []) = H8 at s8 eD
      refine ⟨s6, D, _, _, rfl, rfl, s8 _ _ es6, eD, ?_, fun q hq => ?_⟩
      · rw [List.length_map]
        show hs.length + 0 ≤ sizeLine
        exact Nat.le_of_lt (small1000 (by omega))
      have s9 := s8.trans (same_upd (o := HO.lst (hs.map V.ref ++ [])) hq)
      have eq9 : (upd H8 q (.lst (hs.map V.ref ++ []))) q = some (.lst (hs.map V.ref)) := by
        rw [upd_same, List.append_nil]
      generalize upd H8 q (.lst (hs.map V.ref ++ [])) = H9 at s9 eq9
      have hx9 := hx6.keep s9
      refine ⟨.ref q, rfl, .ref x, rfl, x, c, rfl, e1, hx9, ok, fun lm ms HA hxA kA flm elm lms => ?_⟩
      obtain ⟨k0, e0, _⟩ := hx9.lacks
      have tkA : TK H9 HA := KB.tk' kA e0 .dT
      have EA := ExtN.kb (ExtN.same E6 s9) fL kA
      have hTA := tkb hx9 (Tabs.same hT6 s9) kA
      have eqA := kA _ _ eq9 (nst hx9 eq9)
      refine ⟨1, rfl, lm, _, rfl, SqL.of elm, fun mk fmk => ?_⟩
      have sB := same_upd (o := HO.lst (cutV (ms.map V.int) (some 1) none)) fmk
      generalize upd HA mk (.lst (cutV (ms.map V.int) (some 1) none)) = HB at sB
      refine ⟨by show 2 ≤ sizeLine; decide, fun qt fqt => ?_⟩
      have sC := sB.trans (same_upd (o := HO.tup [.ref q, .ref mk]) fqt)
      exact k qt q mk hs _ (ExtN.same EA sC) (Tabs.same hTA sC) upd_same (sC _ _ eqA) (Paired.mapP ph2 fun t v hv => ((((TK.of s9).trans tkA).trans (TK.of sC)).t _ _ hv))
end
end K47
set_option maxHeartbeats 4000000
/-! K47Astray: papers_by_number, kept_behind, astray. -/
namespace K47
open PySem PySem.Spec PyProof.Rows L2
theorem keptB_len (ks : List Str) (x : Str) : (keptB ks x).length ≤ ks.length + 1 := by
  unfold keptB
  by_cases h : x ∈ ks
  · rw [if_pos h, List.length_take]
    omega
  · rw [if_neg h, List.length_append, List.length_singleton]
    omega
theorem keptAll_len : ∀ (r : List (Int × Str × Bool)) (ks : List Str), (keptAll ks r).length ≤ ks.length + r.length
  | [], ks => Nat.le_refl _
  | t :: r, ks => by
    have h1 := keptAll_len r (keptB ks t.2.1)
    have h2 := keptB_len ks t.2.1
    show (keptAll (keptB ks t.2.1) r).length ≤ _
    rw [List.length_cons]
    omega
theorem strays_len : ∀ (r : List (Int × Str × Bool)) (ks : List Str) (i : Nat), r.length ≤ i → (strays ks r).length ≤ i
  | [], ks, i, _ => Nat.zero_le _
  | t :: r, ks, i, h => by
    rw [List.length_cons] at h
    have h1 := strays_len r (keptB ks t.2.1) (i - 1) (by omega)
    show ((if isStray ks t.2.1 t.2.2 then [t.1] else []) ++ strays (keptB ks t.2.1) r).length ≤ i
    rw [List.length_append]
    have h2 : (if isStray ks t.2.1 t.2.2 = true then [t.1] else []).length ≤ 1 := by
      split
      · exact Nat.le_refl _
      · exact Nat.zero_le _
    omega
def trip (p : Addr × Ret) : Int × Str × Bool := (p.2.num, p.2.over, decide (p.2.load = "empty"))
section
variable {P : Program} {w : World} {K : PySem.W.Frag} {mg : Str → Option Value} {base : Heap}
theorem scKept : FnScope ["kept", "line"] ["kept", "line"] (defScope sKept) := ⟨rfl, rfl, rfl, by decide +kernel, rfl, by decide +kernel, by decide +kernel⟩
def spKept : Sp := fun vs H Q _ => ∃ (l : Addr) (x : Str) (ks : List Str), vs = [.ref l, .str x] ∧ H l = some (.lst (ks.map V.str)) ∧ ks.length ≤ 100 ∧
  ∀ (q : Addr) (H' : Hp), Same H H' → H q = none → H' q = some (.lst ((keptB ks x).map V.str)) → Q (.ref q) H'
theorem ok_kept {f : Addr} {fd : FuncData} (F : Fn K "kept_behind" sKept f fd) : FnOk P w K mg base CX0 1 f fd ["kept", "line"] spKept := by
  refine F.ok scKept (fun vs H Q E h => ?_) (fun cdv A outer s H vs Q E hr h => ?_)
  · obtain ⟨l, x, ks, rfl, _⟩ := h
    rfl
  · obtain ⟨l, x, ks, rfl, el, lk, k⟩ := h
    refine ⟨_, PSs.nox (pss_cons (ps_if (pt_cmpR op_in_seq (pv 1) (pv 0) (by rfl)) (pss_one (ps_ret (pe_slice sl_list (pv 0) po_none (po_some (pe_op op_add
          (pe_bm PySem.F.plainAttrs_list PySem.F.slot_list_index PySem.F.type_list_index mt_index (pv 0) (pa_cons (pv 1) pa_nil)) pe_int))))) pss_nil)
      (pss_one (ps_ret (pe_op op_cat (pv 0) (pe_lst (pa_cons (pv 1) pa_nil)))))), ?_⟩
    refine ⟨.str x, rfl, .ref l, rfl, l, _, rfl, .inl (SqL.of el), rfl, flat_strs ks, _, rfl, ?_⟩
    show if (inV (.str x) (ks.map V.str)) = true then _ else _
    rw [inV_strs]
    refine ite2 (fun h => ?_) (fun h => ?_)
    · have hx : x ∈ ks := of_decide_eq_true h
      have hlt := List.idxOf_lt_length_of_mem hx
      have hat : ks[ks.idxOf x]? = some x := by
        rw [List.getElem?_eq_getElem hlt]
        congr 1
        exact List.getElem_idxOf hlt
      refine ⟨.ref l, rfl, .ref l, rfl, .inl ⟨rfl, _, SqL.of el⟩, .str x, rfl, l, _, .str x, ks.idxOf x, .str x, rfl, rfl, SqL.of el, rfl, flat_strs ks, by rw [List.getElem?_map, hat]; rfl, ?_, fun m z hm hz => ?_, _, 1, rfl, rfl, _, rfl, l, _, rfl, SqL.of el, fun q hq => ?_⟩
      · show (x == x) = true
        exact beq_self_eq_true x
      · obtain ⟨y, hy, rfl⟩ := strs_of hz
        show (y == x) = false
        refine beq_eq_false_iff_ne.mpr fun e => ?_
        subst e
        have := List.not_of_lt_findIdx (p := (· == y)) (xs := ks) (i := m) (by exact hm)
        have hyl := (List.getElem?_eq_some_iff.mp hy)
        obtain ⟨h1, h2⟩ := hyl
        rw [h2] at this
        rw [beq_self_eq_true] at this
        cases this
      · refine k q _ (same_upd hq) hq ?_
        rw [upd_same]
        have e : ((ks.idxOf x : Nat) : Int) + 1 = ((ks.idxOf x + 1 : Nat) : Int) := rfl
        have e2 : cutV (ks.map V.str) none (some (((ks.idxOf x : Nat) : Int) + 1)) = (keptB ks x).map V.str := by
          unfold cutV keptB
          rw [if_pos hx, e, HT.sIx_nat, HT.sIx_none, List.drop_zero, List.length_map, Nat.sub_zero, List.map_take, Nat.min_eq_left (by omega)]
        rw [e2]
    · have hx : ¬ x ∈ ks := fun z => h (decide_eq_true z)
      refine ⟨.ref l, rfl, .str x, rfl, by show 1 ≤ sizeLine; decide, fun e he => ?_⟩
      have s1 := same_upd (o := HO.lst [.str x]) he
      refine ⟨l, e, _, _, rfl, rfl, s1 _ _ el, upd_same, ?_, fun q hq => ?_⟩
      · rw [List.length_map]
        show ks.length + 1 ≤ sizeLine
        exact Nat.le_of_lt (small1000 (by omega))
      · refine k q _ (s1.trans (same_upd hq)) (s1.free hq) ?_
        rw [upd_same]
        unfold keptB
        rw [if_neg hx, List.map_append]
        rfl
theorem scPapers : FnScope ["returns", "paper"] ["returns"] (defScope sByNum) := ⟨rfl, rfl, rfl, by decide +kernel, rfl, by decide +kernel, by decide +kernel⟩
def spPapers : Sp := fun vs H Q _ => ∃ (l : Addr) (qs : List (Addr × Ret)), vs = [.ref l] ∧ H l = some (.lst (qs.map fun p => V.ref p.1)) ∧ (∀ p ∈ qs, RetAt H p.1 p.2) ∧ (qs.map (·.2.num)).Nodup ∧ qs.length ≤ 20 ∧
  ∀ (d : Addr) (kvs : List (Key × V)) (H' : Hp), Same H H' → H' d = some (.dK kvs) → (∀ p ∈ qs, valV kvs (Sum.inl p.2.num) = some (.ref p.1)) → Q (.ref d) H'
theorem ok_papers {f : Addr} {fd : FuncData} (F : Fn K "papers_by_number" sByNum f fd) (md : mg "dict" = none) : FnOk P w K mg base CX0 1 f fd ["returns"] spPapers := by
  refine F.ok scPapers (fun vs H Q E h => ?_) (fun cdv A outer s H vs Q E hr h => ?_)
  · obtain ⟨l, qs, rfl, _⟩ := h
    rfl
  · obtain ⟨l, qs, rfl, el, hqs, nd, l20, k⟩ := h
    refine ⟨_, PSs.nox (pss_one (ps_ret (pe_callTy (call_dictP rfl) (by rfl) md PyProof.Rows.boot_dict (pa_cons
          (pe_lc (own := [("paper", 1)]) (g := gName 1) (tt := tYes) rfl scPapers.nd (pi_list (pv 0)) (blkOk_by (N := ["returns", "paper"]) (sc := defScope sByNum) (by decide +kernel))
            (fun _ _ _ _ _ => pg_name (i := 1) scPapers.nd rfl (Or.inl rfl)) (fun _ _ _ _ _ => pts_nil)
            (fun _ _ _ _ _ => pe_tup (pa_cons (pe_ix (r := rIxT K) ix_tup (pv 1) pe_int (fun _ _ => rfl)) (pa_cons (pv 1) pa_nil)))) pa_nil)))), ?_⟩
    refine ⟨.ref l, rfl, l, rfl, ⟨_, SqL.of el⟩, fun D hD => ?_⟩
    refine lc_list (K := K) (a := l) (xs := qs.map fun p => V.ref p.1) (fun i H1 => ∃ (ps : List Addr), H1 D = some (.lst (ps.map V.ref)) ∧ Paired (fun p (kv : Key × V) => SqT K H1 p [kV kv.1, kv.2]) ps ((qs.take i).map fun p => ((Sum.inl p.2.num : Key), V.ref p.1)) ∧ Same H H1)
      ⟨[], upd_same, .nil, same_upd hD⟩ (fun i H1 _ ⟨_, _, _, s1⟩ => SqL.of (s1 _ _ el)) ?_ ?_
    · rintro i v H1 hv ⟨ps, eD, pp, s1⟩
      rw [List.getElem?_map] at hv
      cases hq : qs[i]? with
      | none =>
        rw [hq] at hv
        cases hv
      | some q =>
      rw [hq] at hv
      obtain rfl : V.ref q.1 = v := Option.some.inj hv
      have hqR : H1 q.1 = some (.tup (retV q.2)) := s1 _ _ (hqs q (List.mem_of_getElem? hq))
      have li := (List.getElem?_eq_some_iff.mp hq).1
      refine ⟨rfl, .ref q.1, rfl, q.1, _, 1, .int q.2.num, rfl, rfl, SqT.of hqR, rfl, .ref q.1, rfl, by show 2 ≤ sizeLine; decide, fun p1 hp1 => ?_⟩
      have s2 := same_upd (o := HO.tup [.int q.2.num, .ref q.1]) hp1
      have ep : (upd H1 p1 (.tup [.int q.2.num, .ref q.1])) p1 = some (.tup [.int q.2.num, .ref q.1]) := upd_same
      have e2 := s2 _ _ eD
      generalize upd H1 p1 (.tup [.int q.2.num, .ref q.1]) = H2 at s2 ep e2
      have lp : ps.length ≤ 20 := by
        have := paired_len pp
        rw [List.length_map, List.length_take] at this
        omega
      refine ⟨_, e2, ?_, ps ++ [p1], ?_, ?_, same_mut (s1.trans s2) hD⟩
      · rw [List.length_map]
        exact small1000 (by omega)
      · rw [upd_same, List.map_append]
        rfl
      · have tk2 : TK H2 (upd H2 D (.lst (ps.map V.ref ++ [V.ref p1]))) := TK.write e2 .lst
        have sq : ∀ p xs, SqT K H1 p xs → SqT K (upd H2 D (.lst (ps.map V.ref ++ [V.ref p1]))) p xs := fun p xs h => by
          rcases h with (h | ⟨o, h⟩) | h
          · exact .inl (.inl (tk2.t _ _ (s2 _ _ h)))
          · exact .inl (.inr ⟨o, tk2.f _ _ _ (s2 _ _ h)⟩)
          · exact .inr h
        rw [take_snoc hq, List.map_append]
        exact (Paired.mapP pp fun p kv h => sq _ _ h).snoc (SqT.of (tk2.t _ _ ep))
    · rintro H1 ⟨ps, eD, pp, s1⟩
      rw [List.length_map, List.take_length] at pp
      refine ⟨D, ps, _, rfl, SqL.of eD, pp, fun d hd => ?_⟩
      refine k d _ _ (s1.trans (same_upd hd)) upd_same fun p hp => ?_
      refine merge_in ?_ (List.mem_map.mpr ⟨p, hp, rfl⟩)
      rw [List.map_map]
      have e : ((fun q : Key × V => q.1) ∘ fun p : Addr × Ret => ((Sum.inl p.2.num : Key), V.ref p.1)) = (Sum.inl ∘ fun p : Addr × Ret => p.2.num) := rfl
      rw [e, ← List.map_map]
      unfold List.Nodup at nd ⊢
      rw [List.pairwise_map]
      exact nd.imp fun h z => h (Sum.inl.inj z)
abbrev nAstray : List Str := ["line", "steps", "returns", "known", "found", "kept", "step", "one"]
theorem scAstray : FnScope nAstray ["line", "steps", "returns"] (defScope sAstray) := ⟨rfl, rfl, rfl, by decide +kernel, rfl, by decide +kernel, by decide +kernel⟩
def spAstray : Sp := fun vs H Q _ => ∃ (st l : Addr) (line : Str) (qs ss : List (Addr × Ret)) (hs : List Addr), vs = [.str line, .ref st, .ref l] ∧ H st = some (.lst (hs.map V.ref)) ∧ Paired (HeldAt H) hs (hSteps line ss) ∧ H l = some (.lst (qs.map fun p => V.ref p.1)) ∧ (∀ p ∈ qs, RetAt H p.1 p.2) ∧
  qs.Perm ss ∧ (ss.map (·.2.num)).Nodup ∧ ss.length ≤ 20 ∧
  ∀ (f : Addr) (H' : Hp), Same H H' → H f = none → H' f = some (.lst ((strays [line] (ss.map trip)).map V.int)) → Q (.ref f) H'
theorem ok_astray {f fP fK : Addr} {fd fdP fdK : FuncData} (F : Fn K "astray" sAstray f fd) (FP : Fn K "papers_by_number" sByNum fP fdP) (gP : mg "papers_by_number" = some (.ref fP)) (FK : Fn K "kept_behind" sKept fK fdK) (gK : mg "kept_behind" = some (.ref fK)) (md : mg "dict" = none) (ml : mg "len" = none) :
    FnOk P w K mg base CX0 2 f fd ["line", "steps", "returns"] spAstray := by
  have bP : Binds K fdP ["returns"] [] := FP.bindsN fun _ _ _ _ _ _ us hl => match us, hl with | [_], _ => rfl
  have bK : Binds K fdK ["kept", "line"] [] := FK.bindsN fun _ _ _ _ _ _ us hl => match us, hl with | [_, _], _ => rfl
  have GP : FnOk P w K mg base CX0 1 fP fdP ["returns"] spPapers := ok_papers FP md
  have GK : FnOk P w K mg base CX0 1 fK fdK ["kept", "line"] spKept := ok_kept FK
  refine F.ok scAstray (fun vs H Q E h => ?_) (fun cdv A outer s H vs Q E hr h => ?_)
  · obtain ⟨st, l, line, qs, ss, hs, rfl, _⟩ := h
    rfl
  · obtain ⟨st, l, line, qs, ss, hs, rfl, est, ph, el, hqs, hp, nd, l20, k⟩ := h
    have hu := hu_of hr
    refine ⟨_, PSs.nox (pss_cons (ps_set (i := 3) scAstray.nd rfl (.inl rfl) (pe_call GP hr (by rfl) gP FP.kp bP .nil pass0 (pa_cons (pv 2) pa_nil)))
      (pss_cons (ps_set (i := 4) scAstray.nd rfl (.inl rfl) (pe_lst pa_nil))
      (pss_cons (ps_set (i := 5) scAstray.nd rfl (.inl rfl) (pe_lst (pa_cons (pv 0) pa_nil)))
      (pss_cons (ps_for PassesOwn.never rfl (pi_list (pv 1)) (pg_name (i := 6) scAstray.nd rfl (.inl rfl))
        (pss_cons (ps_if (pt_cmpR op_eq (pe_ix ix_tup (pv 6) pe_int (fun _ _ => rfl)) pe_str (nomark _))
          (pss_one (ps_for PassesOwn.never rfl (pi_tup (pe_ix ix_tup (pv 6) pe_int (fun _ _ => rfl))) (pg_name (i := 7) scAstray.nd rfl (.inl rfl))
            (pss_one (ps_set (i := 5) scAstray.nd rfl (.inl rfl) (pe_call GK hr (by rfl) gK FK.kp bK .nil pass0 (pa_cons (pv 5) (pa_cons (pv 7) pa_nil))))))) pss_nil)
        (pss_one (ps_if (pt_cmpR op_eq (pe_ix ix_tup (pv 6) pe_int (fun _ _ => rfl)) pe_str (nomark _))
          (C8.pss_cut (ps_if (PW.pt (pw_and (pt_cmpR op_eq (pe_ix ix_tup (pe_dget hu (pv 3) (pe_ix ix_tup (pv 6) pe_int (fun _ _ => rfl)) (fun _ _ => rfl)) pe_int (fun _ _ => rfl)) pe_str (nomark _))
              (pw_and (pt_cmpR op_gt (pe_callB call_len_seq (by rfl) ml PySem.boot_len (pa_cons (pv 5) pa_nil)) pe_int (nomark _))
              (pw_and1 (pt_cmpR op_ne (pe_ix ix_tup (pv 6) pe_int (fun _ _ => rfl)) (pe_ix ix_list (pv 5) (pe_un un_neg pe_int) (fun _ _ => rfl)) (nomark _))))))
            (pss_one (ps_expr (pe_bm PySem.F.plainAttrs_list PySem.F.slot_list_append PySem.F.type_list_append mt_append (pv 4) (pa_cons (pe_ix ix_tup (pv 6) pe_int (fun _ _ => rfl)) pa_nil)))) pss_nil)
          (pss_one (ps_set (i := 5) scAstray.nd rfl (.inl rfl) (pe_call GK hr (by rfl) gK FK.kp bK .nil pass0 (pa_cons (pv 5) (pa_cons (pe_ix ix_tup (pv 6) pe_int (fun _ _ => rfl)) pa_nil)))))) pss_nil))))
      (pss_one (ps_ret (pv 4))))))), ?_⟩
    have lqs : qs.length ≤ 20 := by
      rw [hp.length_eq]
      exact l20
    refine ⟨.ref l, rfl, l, qs, rfl, el, hqs, (hp.map (·.2.num)).nodup_iff.mpr nd, lqs, fun d kvs H1 s1 ed hkv => ?_⟩
    refine ⟨Nat.zero_le _, fun fl hfl => ?_⟩
    have s2 := s1.trans (same_upd (o := HO.lst []) hfl)
    have fflH : H fl = none := s1.free hfl
    have efl : (upd H1 fl (.lst [])) fl = some (.lst []) := upd_same
    have ed2 := same_upd (o := HO.lst []) hfl _ _ ed
    generalize upd H1 fl (.lst []) = H2 at s2 efl ed2
    refine ⟨.str line, rfl, by show 1 ≤ sizeLine; decide, fun kl0 hkl => ?_⟩
    have s3 := s2.trans (same_upd (o := HO.lst [.str line]) hkl)
    have ekl0 : (upd H2 kl0 (.lst [.str line])) kl0 = some (.lst [.str line]) := upd_same
    have ed3 := same_upd (o := HO.lst [.str line]) hkl _ _ ed2
    have efl3 := same_upd (o := HO.lst [.str line]) hkl _ _ efl
    have nkf : kl0 ≠ fl := (ne_of_none efl hkl).symm
    generalize upd H2 kl0 (.lst [.str line]) = H3 at s3 ekl0 ed3 efl3
    have ndf : d ≠ fl := ne_of ed3 efl3 fun z => nomatch z
    have ltr : (ss.map trip).length = ss.length := List.length_map _
    refine ⟨.ref st, rfl, st, rfl, ⟨_, SqL.of (s3 _ _ est)⟩, ?_⟩
    refine for_list (K := K) (a := st) (xs := hs.map V.ref) (fun i σ H' => ∃ (kl : Addr) (y6 : Option V), σ = [some (.str line), some (.ref st), some (.ref l), some (.ref d), some (.ref fl), some (.ref kl), y6, none] ∧ kl ≠ fl ∧ Same H H' ∧ H' d = some (.dK kvs) ∧
        H' fl = some (.lst ((strays [line] ((ss.map trip).take i)).map V.int)) ∧ H' kl = some (.lst ((keptAll [line] ((ss.map trip).take i)).map V.str)))
      ⟨kl0, none, rfl, nkf, s3, ed3, efl3, ekl0⟩ (fun i σ H' _ ⟨_, _, _, _, s, _⟩ => SqL.of (s _ _ est)) ?_ ?_
    · rintro i v σ H4 hv ⟨kl, y6, rfl, nkl, s4, ed4, efl4, ekl4⟩
      rw [List.getElem?_map] at hv
      cases ht : hs[i]? with
      | none =>
        rw [ht] at hv
        cases hv
      | some t =>
      rw [ht] at hv
      obtain rfl : V.ref t = v := Option.some.inj hv
      obtain ⟨⟨z, r⟩, hzr, hHt⟩ := paired_at ph ht
      obtain ⟨p, hpi, hr'⟩ : ∃ p, ss[i]? = some p ∧ p.2 = r := by
        unfold hSteps at hzr
        rw [List.getElem?_zip_eq_some] at hzr
        have h2 := hzr.2
        rw [List.getElem?_map] at h2
        cases hq : ss[i]? with
        | none =>
          rw [hq] at h2
          cases h2
        | some p =>
          rw [hq] at h2
          exact ⟨p, rfl, Option.some.inj h2⟩
      subst hr'
      have et4 : H4 t = some (.tup (heldV p.2 z)) := s4 _ _ hHt
      have hpm : p ∈ qs := hp.mem_iff.mpr (List.mem_of_getElem? hpi)
      have hpR4 : H4 p.1 = some (.tup (retV p.2)) := s4 _ _ (hqs p hpm)
      have li := (List.getElem?_eq_some_iff.mp hpi).1
      have htr : (ss.map trip)[i]? = some (trip p) := by rw [List.getElem?_map, hpi]; rfl
      have lks : (keptAll [line] ((ss.map trip).take i)).length ≤ 21 := by
        have := keptAll_len ((ss.map trip).take i) [line]
        rw [List.length_take] at this
        have e1 : ([line] : List Str).length = 1 := rfl
        rw [e1] at this
        omega
      have lst : (strays [line] ((ss.map trip).take i)).length ≤ i := strays_len _ _ i (by rw [List.length_take]; omega)
      have stp := strays_step [line] (ss.map trip) htr
      have kst := keptAll_step [line] (ss.map trip) htr
      generalize hks : keptAll [line] ((ss.map trip).take i) = ks at *
      generalize hsr : strays [line] ((ss.map trip).take i) = sr at *
      refine ⟨.ref t, rfl, t, _, 0, .str "held", rfl, rfl, SqT.of et4, rfl, rfl, _, rfl, ite2 (fun h => absurd (V.str.inj (of_decide_eq_true h)) (by decide)) (fun _ => ?_)⟩
      refine ⟨.ref t, rfl, t, _, 0, .str "held", rfl, rfl, SqT.of et4, rfl, rfl, _, rfl, ite2 (fun _ => ?_) (fun h => absurd (decide_eq_true rfl) h)⟩
      -- the stray told or not
      refine ⟨fun σ' H' => σ' = [some (.str line), some (.ref st), some (.ref l), some (.ref d), some (.ref fl), some (.ref kl), some (.ref t), none] ∧ Same H H' ∧ H' d = some (.dK kvs) ∧ H' fl = some (.lst ((strays [line] ((ss.map trip).take (i + 1))).map V.int)) ∧ H' kl = some (.lst (ks.map V.str)), ?_, ?_⟩
      · have no : isStray ks p.2.over (decide (p.2.load = "empty")) = false → H4 fl = some (.lst ((strays [line] ((ss.map trip).take (i + 1))).map V.int)) := fun e => by
          rw [stp, show isStray ks (trip p).2.1 (trip p).2.2 = false from e]
          show H4 fl = some (.lst ((sr ++ []).map V.int))
          rw [List.append_nil]
          exact efl4
        refine ⟨.ref d, rfl, .ref t, rfl, t, _, 1, .int p.2.num, rfl, rfl, SqT.of et4, rfl, d, .ref p.1, rfl, by rw [← hkv p hpm]; exact DGet.k (k := Sum.inl p.2.num) ed4, p.1, _, 8, .str p.2.load, rfl, rfl, SqT.of hpR4, rfl, rfl, _, rfl, ite2 (fun h1 => ?_) (fun h1 => ?_)⟩
        · have h1' : p.2.load = "empty" := V.str.inj (of_decide_eq_true h1)
          refine ⟨.ref kl, rfl, kl, _, rfl, .inl (SqL.of ekl4), _, 1, rfl, rfl, _, rfl, ite2 (fun h2 => ?_) (fun h2 => ?_)⟩
          · have h2' : (1 : Int) < ((ks.map V.str).length : Int) := of_decide_eq_true h2
            rw [List.length_map] at h2'
            obtain ⟨y, hy, hyV⟩ := strs_at ks (i := ks.length - 2) (by omega)
            refine ⟨.ref t, rfl, t, _, 3, .str p.2.over, rfl, rfl, SqT.of et4, rfl, .ref kl, rfl, 2, rfl, kl, _, -2, .str y, rfl, rfl, SqL.of ekl4, atI_back (k := 2) rfl (by decide) (by rw [List.length_map]; omega) (by rw [List.length_map]; exact hyV), rfl, _, rfl, ite2 (fun h3 => ?_) (fun h3 => ?_)⟩
            · refine ⟨.ref fl, rfl, .inl ⟨rfl, _, SqL.of efl4⟩, .ref t, rfl, t, _, 1, .int p.2.num, rfl, rfl, SqT.of et4, rfl, fl, _, _, rfl, rfl, efl4, ?_, rfl, same_mut s4 fflH, ?_, ?_, ?_⟩
              · rw [List.length_map]
                exact small1000 (by omega)
              · rw [upd_ne ndf]
                exact ed4
              · have hyes : isStray ks (trip p).2.1 (trip p).2.2 = true := by
                  show (decide (p.2.load = "empty") && (decide (1 < ks.length) && decide (ks[ks.length - 2]? ≠ some p.2.over))) = true
                  rw [decide_eq_true h1', decide_eq_true (show 1 < ks.length by omega), hy]
                  have h3' : ¬ (decide (V.str p.2.over = V.str y)) = true := by
                    intro hh
                    have h3 : (!decide (V.str p.2.over = V.str y)) = true := h3
                    rw [hh] at h3
                    cases h3
                  rw [decide_eq_true (show (some y ≠ some p.2.over) from fun e => h3' (decide_eq_true (by rw [Option.some.inj e])))]
                  rfl
                rw [upd_same, stp, hyes, List.map_append]
                rfl
              · rw [upd_ne nkl]
                exact ekl4
            · refine ⟨rfl, s4, ed4, no ?_, ekl4⟩
              have e : p.2.over = y := by
                by_cases e : p.2.over = y
                · exact e
                · refine absurd ?_ h3
                  show (!decide (V.str p.2.over = V.str y)) = true
                  rw [decide_eq_false (fun z => e (V.str.inj z))]
                  rfl
              show (decide (p.2.load = "empty") && (decide (1 < ks.length) && decide (ks[ks.length - 2]? ≠ some p.2.over))) = false
              rw [hy, e, decide_eq_false (show ¬ (some y ≠ some y) from fun z => z rfl), Bool.and_false, Bool.and_false]
          · refine ite2 (fun h => absurd h (by decide)) (fun _ => ⟨rfl, s4, ed4, no ?_, ekl4⟩)
            have h2' : ¬ (1 : Int) < ((ks.map V.str).length : Int) := fun z => h2 (decide_eq_true z)
            rw [List.length_map] at h2'
            show (decide (p.2.load = "empty") && (decide (1 < ks.length) && decide (ks[ks.length - 2]? ≠ some p.2.over))) = false
            rw [decide_eq_false (show ¬ 1 < ks.length by omega), Bool.false_and, Bool.and_false]
        · refine ite2 (fun h => absurd h (by decide)) (fun _ => ⟨rfl, s4, ed4, no ?_, ekl4⟩)
          have h1' : ¬ p.2.load = "empty" := fun e => h1 (decide_eq_true (by rw [e]))
          show (decide (p.2.load = "empty") && (decide (1 < ks.length) && decide (ks[ks.length - 2]? ≠ some p.2.over))) = false
          rw [decide_eq_false h1', Bool.false_and]
      · rintro σ' H5 ⟨rfl, s5, ed5, efl5, ekl5⟩
        have et5 : H5 t = some (.tup (heldV p.2 z)) := s5 _ _ hHt
        refine ⟨.ref kl, rfl, .ref t, rfl, t, _, 3, .str p.2.over, rfl, rfl, SqT.of et5, rfl, kl, p.2.over, ks, rfl, ekl5, by omega, fun q H6 s6 fq eq => ?_⟩
        refine ⟨q, _, rfl, (ne_of_none efl5 fq).symm, s5.trans s6, s6 _ _ ed5, s6 _ _ efl5, ?_⟩
        rw [kst]
        exact eq
    · rintro σ H4 ⟨kl, y6, rfl, nkl, s4, ed4, efl4, ekl4⟩
      have lhs : hs.length = ss.length := by
        rw [paired_len ph, hSteps_len]
      rw [List.length_map, lhs, List.take_of_length_le (by rw [ltr]; exact Nat.le_refl _)] at efl4
      exact ⟨.ref fl, rfl, k fl H4 s4 fflH efl4⟩
end
end K47
set_option maxHeartbeats 4000000
/-! K47Told: _law_told. -/
namespace K47
open PySem PySem.Spec PyProof.Rows L2
open LamX (ExtN Tabs)
theorem ExtX.refl (x : Addr) (H : Hp) : ExtX x H H := fun _ _ _ h _ => h
theorem ExtX.trans {x : Addr} {H H1 H2 : Hp} (a : ExtX x H H1) (b : ExtX x H1 H2) : ExtX x H H2 := fun c o n h t => b c o n (a c o n h t) t
theorem ExtX.kb {x : Addr} {H H' : Hp} (k : KB x H H') : ExtX x H H' := fun c o n h _ => k c o h n
theorem ExtX.same {x : Addr} {H H' : Hp} (k : Same H H') : ExtX x H H' := fun c o _ h _ => k c o h
theorem ExtX.extN {x : Addr} {H H' : Hp} (k : ExtN H H') : ExtX x H H' := fun c o _ h t => k c o h t
theorem ExtX.tk {b : Addr} {H H' : Hp} (k : ExtX b H H') (hb : BagAt H b) : TK H H' := by
  obtain ⟨g, r, e2, _⟩ := hb
  exact ⟨fun a xs h => k a _ (fun z => by rw [z, e2] at h; cases h) h (fun _ z => (nomatch z)), fun a o xs h => k a _ (fun z => by rw [z, e2] at h; cases h) h (fun _ z => (nomatch z))⟩
theorem BagAt.tabs {T : List (Addr × Str)} {H H' : Hp} {b : Addr} (hb : BagAt H b) (t : Tabs T H) (k : KB b H H') : Tabs T H' := by
  obtain ⟨g, r, e, _⟩ := hb
  exact Tabs.kb t k e (fun _ z => nomatch z) (fun _ z => nomatch z)
theorem BagAt.extN {H H' : Hp} {b : Addr} (h : BagAt H b) (e : ExtN H H') : BagAt H' b := let ⟨g, r, e1, q⟩ := h; ⟨g, r, e _ _ e1 (fun _ z => nomatch z), q⟩
section
variable {P : Program} {w : World} {K : PySem.W.Frag} {mg : Str → Option Value} {base : Heap}
abbrev nTold : List Str := ["_law_bag_here", "_law_net_here", "_law_line", "_law_returns", "_law_mixed", "_law_paper", "_law_steps"]
theorem scTold : FnScope nTold ["_law_bag_here", "_law_net_here", "_law_line", "_law_returns"] (defScope sTold) := ⟨rfl, rfl, rfl, by decide +kernel, rfl, by decide +kernel, by decide +kernel⟩
def spTold (T : Addr) : Sp := fun vs H Q _ => ∃ (b a l : Addr) (line : Str) (N : Net) (ss : List (Addr × Ret)), vs = [.ref b, .ref a, .str line, .ref l] ∧ BagAt H b ∧ NetAt H a N ∧ NetOk N ∧ Tabs (TT T) H ∧ H l = some (.lst (ss.map fun p => V.ref p.1)) ∧ l ≠ b ∧ (∀ p ∈ ss, RetAt H p.1 p.2) ∧
  (ss.Pairwise fun a b => a.2.day < b.2.day) ∧ (ss.map (·.2.num)).Nodup ∧ ss.length ≤ 20 ∧ ChainAt N line ss ∧
  ∀ (f : Addr) (H' : Hp), BagAt H' b → ExtX b H H' → Tabs (TT T) H' → f ≠ b → H' f = some (.lst ((strays [line] (ss.map trip)).map V.int)) → Q (.ref f) H'
theorem ok_told {f fT fH fA C T : Addr} {fd fdT fdH fdA fdP fdK : FuncData} {fP fK : Addr} (F : Fn K "_law_told" sTold f fd) (FT : Fn K "_law_take" sTake fT fdT) (bT : Binds K fdT ["_law_bag_here", "_law_many"] []) (gT : mg "_law_take" = some (.ref fT))
    (FH : Fn K "history" sHistory fH fdH) (gH : mg "history" = some (.ref fH)) (S : Hists K mg base C T) (FA : Fn K "astray" sAstray fA fdA) (gA : mg "astray" = some (.ref fA))
    (FP : Fn K "papers_by_number" sByNum fP fdP) (gP : mg "papers_by_number" = some (.ref fP)) (FK : Fn K "kept_behind" sKept fK fdK) (gK : mg "kept_behind" = some (.ref fK)) (md : mg "dict" = none) (ml : mg "len" = none) (mli : mg "list" = none) :
    FnOk P w K mg base CX0 10 f fd ["_law_bag_here", "_law_net_here", "_law_line", "_law_returns"] (spTold T) := by
  have bH : Binds K fdH ["net", "line", "returns"] [] := FH.bindsN fun _ _ _ _ _ _ us hl => match us, hl with | [_, _, _], _ => rfl
  have bA : Binds K fdA ["line", "steps", "returns"] [] := FA.bindsN fun _ _ _ _ _ _ us hl => match us, hl with | [_, _, _], _ => rfl
  have GT : FnOk P w K mg base CX0 1 fT fdT ["_law_bag_here", "_law_many"] spTake := ok_take FT
  have GH : FnOk P w K mg base CX0 9 fH fdH ["net", "line", "returns"] (spHist T) := ok_hist FH S
  have GA : FnOk P w K mg base CX0 2 fA fdA ["line", "steps", "returns"] spAstray := ok_astray FA FP gP FK gK md ml
  refine F.ok scTold (fun vs H Q E h => ?_) (fun cdv A outer s H vs Q E hr h => ?_)
  · obtain ⟨b, a, l, line, N, ss, rfl, _⟩ := h
    rfl
  · obtain ⟨b, a, l, line, N, ss, rfl, hb, hN, okN, hT, el, nlb, hss, hday, nd, l20, hch, k⟩ := h
    have hr1 : Room 1 _ := hr.mono (by decide)
    have hr2 : Room 2 _ := hr.mono (by decide)
    refine ⟨_, PSs.nox (pss_cons (ps_set (i := 4) scTold.nd rfl (.inl rfl) (pe_lst pa_nil))
      (pss_cons (ps_for PassesOwn.never rfl (pi_list (pv 3)) (pg_name (i := 5) scTold.nd rfl (.inl rfl))
        (pss_one (ps_expr (pe_bm PySem.F.plainAttrs_list PySem.F.slot_list_insert PySem.F.type_list_insert mt_insert (pv 4) (pa_cons
          (pe_call GT hr1 (by rfl) gT FT.kp bT .nil pass0 (pa_cons (pv 0) (pa_cons (pe_op op_add (pe_callB call_len_seq (by rfl) ml PySem.boot_len (pa_cons (pv 4) pa_nil)) pe_int) pa_nil))) (pa_cons (pv 5) pa_nil))))))
      (pss_cons (ps_set (i := 6) scTold.nd rfl (.inl rfl) (pe_ix ix_tup (pe_call GH hr (by rfl) gH FH.kp bH .nil pass0 (pa_cons (pv 1) (pa_cons (pv 2) (pa_cons (pe_callTy call_list_of (by rfl) mli PyProof.Rows.boot_list (pa_cons (pv 4) pa_nil)) pa_nil)))) pe_int (fun _ _ => rfl)))
      (pss_one (ps_ret (pe_call GA hr2 (by rfl) gA FA.kp bA .nil pass0 (pa_cons (pv 2) (pa_cons (pv 6) (pa_cons (pv 4) pa_nil))))))))), ?_⟩
    refine ⟨Nat.zero_le _, fun m hm => ?_⟩
    have s1 : Same H (upd H m (.lst [])) := same_upd hm
    have em1 : (upd H m (.lst [])) m = some (.lst []) := upd_same
    have nm : m ≠ b := (hb.fresh hm).symm
    have hb1 := hb.keep s1
    generalize upd H m (.lst []) = H1 at s1 em1 hb1
    refine ⟨.ref l, rfl, l, rfl, ⟨_, SqL.of (s1 _ _ el)⟩, ?_⟩
    refine for_list (K := K) (a := l) (xs := ss.map fun p => V.ref p.1) (fun i σ H' => ∃ (qs : List (Addr × Ret)) (y5 : Option V), σ = [some (.ref b), some (.ref a), some (.str line), some (.ref l), some (.ref m), y5, none] ∧ BagAt H' b ∧ KB b H H' ∧ H' m = some (.lst (qs.map fun p => V.ref p.1)) ∧ qs.Perm (ss.take i))
      ⟨[], none, rfl, hb1, KB.of s1, em1, by rw [List.take_zero]⟩ (fun i σ H' _ ⟨_, _, _, _, k', _⟩ => SqL.of (k' _ _ el nlb)) ?_ ?_
    · rintro i v σ H2 hv ⟨qs, y5, rfl, hb2, k2, em2, pq⟩
      rw [List.getElem?_map] at hv
      cases hq : ss[i]? with
      | none =>
        rw [hq] at hv
        cases hv
      | some p =>
      rw [hq] at hv
      obtain rfl : V.ref p.1 = v := Option.some.inj hv
      have lq : qs.length ≤ 20 := by
        rw [pq.length_eq, List.length_take]
        omega
      have lV : (qs.map fun p => V.ref p.1).length = qs.length := List.length_map _
      refine ⟨.ref m, rfl, .inl ⟨rfl, _, SqL.of em2⟩, .ref b, rfl, .ref m, rfl, m, _, rfl, .inl (SqL.of em2), _, 1, rfl, rfl, b, _, rfl, hb2, by omega, by omega, fun d H3 d0 d1 hb3 k3 => ?_⟩
      have em3 := k3 _ _ em2 nm
      refine ⟨.ref p.1, rfl, m, _, d, .ref p.1, rfl, rfl, em3, ?_, d0, by omega, qs.take d.toNat ++ [p] ++ qs.drop d.toNat, _, rfl, hb3.upd nm.symm, (k2.trans k3).mut hm, ?_, ?_⟩
      · rw [lV]
        exact small1000 (by omega)
      · rw [upd_same, List.map_append, List.map_append, List.map_take, List.map_drop]
        rfl
      · rw [take_snoc hq]
        have h1 : (qs.take d.toNat ++ [p] ++ qs.drop d.toNat).Perm (qs.take d.toNat ++ qs.drop d.toNat ++ [p]) := by
          rw [List.append_assoc, List.append_assoc]
          exact List.Perm.append_left _ List.perm_append_comm
        rw [List.take_append_drop] at h1
        exact h1.trans (List.Perm.append_right _ pq)
    · rintro σ H2 ⟨qs, y5, rfl, hb2, k2, em2, pq⟩
      rw [List.length_map, List.take_length] at pq
      refine ⟨.ref a, rfl, .str line, rfl, .ref m, rfl, m, _, rfl, .inl (SqL.of em2), fun m2 hm2 => ?_⟩
      have s3 : Same H2 (upd H2 m2 (.lst (qs.map fun p => V.ref p.1))) := same_upd hm2
      have em3 : (upd H2 m2 (.lst (qs.map fun p => V.ref p.1))) m2 = some (.lst (qs.map fun p => V.ref p.1)) := upd_same
      generalize upd H2 m2 (.lst (qs.map fun p => V.ref p.1)) = H3 at s3 em3
      have tk3 : TK H H3 := (k2.tk hb).trans (TK.of s3)
      have hT3 : Tabs (TT T) H3 := Tabs.same (hb.tabs hT k2) s3
      have hqs3 : ∀ p ∈ qs, RetAt H3 p.1 p.2 := fun p hp => (hss p (pq.mem_iff.mp hp)).keep tk3
      refine ⟨a, m2, line, N, qs, ss, rfl, hN.keep tk3, okN, hT3, em3, hqs3, pq, hday, l20, hch, fun q st mk hs H4 E4 hT4 eq4 est4 ph4 => ?_⟩
      refine ⟨q, _, 0, .ref st, rfl, rfl, SqT.of eq4, rfl, ?_⟩
      have em4 := E4 _ _ (s3 _ _ em2) fun _ z => nomatch z
      have hb4 : BagAt H4 b := (hb2.keep s3).extN E4
      refine ⟨.str line, rfl, .ref st, rfl, .ref m, rfl, st, m, line, qs, ss, hs, rfl, est4, ph4, em4, fun p hp => (hqs3 p hp).keep (TK.extN E4), pq, nd, l20, fun f H5 s5 ff ef => ?_⟩
      exact k f H5 (hb4.keep s5) ((((ExtX.kb k2).trans (.same s3)).trans (.extN E4)).trans (.same s5)) (Tabs.same hT4 s5) (hb4.fresh ff).symm ef
end
end K47
set_option maxHeartbeats 4000000
/-! K47Enum: for at, (one, over) in enumerate(zip(xs, ys)). -/
namespace K47
open PySem PySem.Spec PySem.Calls PyProof.Rows PySem.W
section
variable {prog : Program} {w : World} {A : Around} {E : Value → Shared → Prop} {s : Shared}
/-! ### enumerate of a zip is made -/
theorem meets_enum_new (z TI TO : Addr) (f0 : Value) :
    Meets (Builtin.«enumerate.__new__» ⟨[.type "enumerate", .ref z], []⟩) (fun _ R s => IsZip s.heap z TI TO f0 ∧
      R (.ok (.ret (.ref s.heap.objs.size))) { s with heap := s.heap.push { cls := .type "enumerate", data := .fields #[.none, .bool false, .ref z, rawInt 0, .none, .none] } }) :=
  .of_wp fun prog w A R s h => by
    obtain ⟨g0, g, d, tk0, os0⟩ := s
    obtain ⟨gz, h⟩ := h
    replace gz : IsZip g0 z TI TO f0 := gz
    have sub0 := sub_enumerate
    have gT : (⟨g0, g, d, tk0, os0⟩ : Shared).TypeIs (.ref z) "zip" := ⟨_, gz, rfl⟩
    wp_walk using wpAny_loadPart' gz
    refine wpAny_stack_any fun st => wpAny_pure ?_
    split
    · rename_i c _ _ _ _ _
      cases (c == Value.type "enumerate")
      · wp_walk using wpAny_loadPart' gz, wpAny_pyIter_zip gz
        exact ⟨_, rfl, h⟩
      · wp_walk using wpAny_loadPart' gz, wpAny_pyIter_zip gz
        exact ⟨_, rfl, h⟩
    · wp_walk using wpAny_loadPart' gz, wpAny_pyIter_zip gz
      exact ⟨_, rfl, h⟩
theorem call_enum_zip {z TI TO : Addr} {f0 : Value} {Q : Value → Shared → Prop} (gz : IsZip s.heap z TI TO f0)
    (h : ∀ h', IsEnum h' s.heap.objs.size z 0 .none → h'.objs.size = s.heap.objs.size + 1 → (∀ b o, s.heap.get? b = some o → h'.get? b = some o) → Q (.ref s.heap.objs.size) { s with heap := h' }) :
    wpAny (model prog w) A (call (.type "enumerate") [.ref z]) Q E s := by
  refine callType_new F.called_enumerate (by decide) (F.typeCall_enumerate_1 _) (F.newCall_enumerate_1 _) (fun obj => F.args_object_init_2 obj _) F.entry_enumerate_new (meets_enum_new z TI TO f0) ⟨gz, ?_⟩
  have ge : IsEnum (s.heap.push { cls := .type "enumerate", data := .fields #[.none, .bool false, .ref z, rawInt 0, .none, .none] }) s.heap.objs.size z 0 .none := Heap.get?_push_size _ rfl
  exact ⟨⟨_, ge, rfl⟩, h _ ge (Heap.size_push ..) fun b o x => Heap.get?_push_of_some _ x⟩
/-! ### the next of a zip, asked by another iterator -/
theorem nextOf_zip_first {z TI TO i1 i2 l1 l2 : Addr} {k1 k2 : Nat} {xs ys : Array Value} {x y a b : Value} {Q : Value → Shared → Prop} (D : ZipApart z TI TO i1 i2 l1 l2)
    (gz : IsZip s.heap z TI TO .none) (gI : IsPair s.heap TI (.ref i1) (.ref i2)) (gO : IsPair s.heap TO a b)
    (j1 : s.heap.IsListIter i1 l1 k1) (j2 : s.heap.IsListIter i2 l2 k2) (m1 : s.heap.IsList l1 xs) (m2 : s.heap.IsList l2 ys) (ex1 : xs[k1]? = some x) (ey1 : ys[k2]? = some y)
    (kQ : ∀ h', IsZipHeld h' z TI TO s.heap.objs.size false → IsPair h' TO x y → h'.IsListIter i1 l1 (k1 + 1) → h'.IsListIter i2 l2 (k2 + 1) → IsPair h' s.heap.objs.size x y → h'.objs.size = s.heap.objs.size + 1 →
      (∀ c o, c ≠ z → c ≠ TO → c ≠ i1 → c ≠ i2 → s.heap.get? c = some o → h'.get? c = some o) → Q (.ref s.heap.objs.size) { s with heap := h' }) :
    wpAny (model prog w) A (Builtin.SmallTypes.nextOf (.ref z)) Q E s := by
  have ty : s.TypeIs (.ref z) "zip" := ⟨_, gz, rfl⟩
  unfold Builtin.SmallTypes.nextOf
  exact wpAny_bind (wpAny_callSpecial?_slot (name := Str.ofString "__next__") ty F.slot_zip_next
    (wpAny_call_entry F.slot_zip_next ty F.entry_zip_next
      (zip_next_item D gz gI gO j1 j2 m1 m2 ex1 ey1 fun h' a1 a2 a3 a4 a5 a6 a7 => wpAny_pure (kQ h' a1 a2 a3 a4 a5 a6 a7)) (F.args_zip_next_1 _)))
theorem nextOf_zip_held {z TI TO T i1 i2 l1 l2 : Addr} {f : Bool} {oTT : Obj} {k1 k2 : Nat} {xs ys : Array Value} {x y : Value} {Q : Value → Shared → Prop} (D : ZipApart z TI TO i1 i2 l1 l2)
    (gz : IsZipHeld s.heap z TI TO T f) (gT : s.heap.get? T = some oTT) (gI : IsPair s.heap TI (.ref i1) (.ref i2))
    (j1 : s.heap.IsListIter i1 l1 k1) (j2 : s.heap.IsListIter i2 l2 k2) (m1 : s.heap.IsList l1 xs) (m2 : s.heap.IsList l2 ys) (ex1 : xs[k1]? = some x) (ey1 : ys[k2]? = some y)
    (kQ : ∀ h', IsZipHeld h' z TI TO T true → h'.IsListIter i1 l1 (k1 + 1) → h'.IsListIter i2 l2 (k2 + 1) → IsPair h' s.heap.objs.size x y → h'.objs.size = s.heap.objs.size + 1 →
      (∀ c o, c ≠ z → c ≠ i1 → c ≠ i2 → s.heap.get? c = some o → h'.get? c = some o) → Q (.ref s.heap.objs.size) { s with heap := h' }) :
    wpAny (model prog w) A (Builtin.SmallTypes.nextOf (.ref z)) Q E s := by
  have ty : s.TypeIs (.ref z) "zip" := ⟨_, gz, rfl⟩
  unfold Builtin.SmallTypes.nextOf
  exact wpAny_bind (wpAny_callSpecial?_slot (name := Str.ofString "__next__") ty F.slot_zip_next
    (wpAny_call_entry F.slot_zip_next ty F.entry_zip_next
      (zip_next_item_held D gz gT gI j1 j2 m1 m2 ex1 ey1 fun h' a1 a3 a4 a5 a6 a7 => wpAny_pure (kQ h' a1 a3 a4 a5 a6 a7)) (F.args_zip_next_1 _)))
theorem nextOf_zip_none {z TI TO i1 i2 l1 l2 : Addr} {k1 k2 : Nat} {xs ys : Array Value} {a b : Value} {Q : Value → Shared → Prop} (calm0 : A.handled = none) (D : ZipApart z TI TO i1 i2 l1 l2)
    (gz : IsZip s.heap z TI TO .none) (gI : IsPair s.heap TI (.ref i1) (.ref i2)) (gO : IsPair s.heap TO a b)
    (j1 : s.heap.IsListIter i1 l1 k1) (j2 : s.heap.IsListIter i2 l2 k2) (m1 : s.heap.IsList l1 xs) (m2 : s.heap.IsList l2 ys) (gend : xs[k1]? = none ∨ ys[k2]? = none)
    (kE : ∀ h' e, (∀ c o, c ≠ z → c ≠ TO → c ≠ i1 → c ≠ i2 → s.heap.get? c = some o → h'.get? c = some o) → (∃ o, h'.get? e = some o ∧ o.cls = .type "StopIteration") → E (.ref e) { s with heap := h' }) :
    wpAny (model prog w) A (Builtin.SmallTypes.nextOf (.ref z)) Q E s := by
  have ty : s.TypeIs (.ref z) "zip" := ⟨_, gz, rfl⟩
  unfold Builtin.SmallTypes.nextOf
  exact wpAny_bind (wpAny_callSpecial?_slot (name := Str.ofString "__next__") ty F.slot_zip_next
    (wpAny_call_entry F.slot_zip_next ty F.entry_zip_next (zip_next_end calm0 D gz gI gO j1 j2 m1 m2 gend kE) (F.args_zip_next_1 _)))
theorem nextOf_zip_noneH {z TI TO T i1 i2 l1 l2 : Addr} {f : Bool} {oTT : Obj} {k1 k2 : Nat} {xs ys : Array Value} {Q : Value → Shared → Prop} (calm0 : A.handled = none) (D : ZipApart z TI TO i1 i2 l1 l2)
    (gz : IsZipHeld s.heap z TI TO T f) (gT : s.heap.get? T = some oTT) (gI : IsPair s.heap TI (.ref i1) (.ref i2))
    (j1 : s.heap.IsListIter i1 l1 k1) (j2 : s.heap.IsListIter i2 l2 k2) (m1 : s.heap.IsList l1 xs) (m2 : s.heap.IsList l2 ys) (gend : xs[k1]? = none ∨ ys[k2]? = none)
    (kE : ∀ h' e, (∀ c o, c ≠ z → c ≠ i1 → c ≠ i2 → s.heap.get? c = some o → h'.get? c = some o) → (∃ o, h'.get? e = some o ∧ o.cls = .type "StopIteration") → E (.ref e) { s with heap := h' }) :
    wpAny (model prog w) A (Builtin.SmallTypes.nextOf (.ref z)) Q E s := by
  have ty : s.TypeIs (.ref z) "zip" := ⟨_, gz, rfl⟩
  unfold Builtin.SmallTypes.nextOf
  exact wpAny_bind (wpAny_callSpecial?_slot (name := Str.ofString "__next__") ty F.slot_zip_next
    (wpAny_call_entry F.slot_zip_next ty F.entry_zip_next (zip_next_end_held calm0 D gz gT gI j1 j2 m1 m2 gend kE) (F.args_zip_next_1 _)))
/-! ### the next of an enumerate, its inner iterator of any kind -/
theorem next_enum_of {e it : Addr} {i : Int} {old : Value} {R : Value → Heap → Prop} {Q : Option Value → Shared → Prop} (ge : IsEnum s.heap e it i old)
    (nx0 : ∀ (Q1 : Value → Shared → Prop), (∀ x j1, IsEnum j1 e it i old → R x j1 → Q1 x { s with heap := j1 }) → ∀ E1, wpAny (model prog w) A.in1 (Builtin.SmallTypes.nextOf (.ref it)) Q1 E1 s)
    (kQ : ∀ x j1 h', R x j1 → IsEnumOut h' e it (i + 1) x j1.objs.size → h'.get? j1.objs.size = some { cls := .type "tuple", data := .seq #[.int i s.toks, x] } → h'.objs.size = j1.objs.size + 1 →
      (∀ b o, b ≠ e → j1.get? b = some o → h'.get? b = some o) → Q (some (.ref j1.objs.size)) { s with heap := h', toks := s.toks + 1 }) :
    wpAny (model prog w) A (pyNext (.ref e)) Q E s := by
  have gT : s.TypeIs (.ref e) "enumerate" := ⟨_, ge, rfl⟩
  unfold pyNext
  refine wpAny_bind (wpAny_attempt (wpAny_callSpecial?_slot (name := Str.ofString "__next__") gT F.slot_enumerate_next (wpAny_call_entry F.slot_enumerate_next gT F.entry_enumerate_next ?_ (F.args_enumerate_next_1 _))))
  obtain ⟨g0, g, d, tk0, os0⟩ := s
  show wpAny _ _ (field (.ref e) 2 >>= _) _ _ _
  refine wpAny_bind (wpAny_field ge rfl (x := .ref it) rfl ?_)
  refine wpAny_bind (nx0 _ (fun x r1 ge1 hR => ?_) _)
  show wpAny _ _ (field (.ref e) 3 >>= _) _ _ ⟨r1, g, d, tk0, os0⟩
  refine wpAny_bind (wpAny_field ge1 rfl (x := rawInt i) rfl ?_)
  show wpAny _ _ (field (.ref e) 4 >>= _) _ _ ⟨r1, g, d, tk0, os0⟩
  refine wpAny_bind (wpAny_field ge1 rfl (x := .none) rfl ?_)
  show wpAny _ _ (mkInt i >>= _) _ _ ⟨r1, g, d, tk0, os0⟩
  refine wpAny_bind (wpAny_mkInt ?_)
  show wpAny _ _ (setField (.ref e) 3 (rawInt (i + 1)) >>= _) _ _ ⟨r1, g, d, tk0 + 1, os0⟩
  refine wpAny_bind (wpAny_setField_rec ge1 (by simp) fun r2 ge2 ls2 => ?_)
  replace ls2 : Heap.SameBut e r1 r2 := ls2
  replace ge2 : IsEnum r2 e it (i + 1) old := ge2
  show wpAny _ _ (setField (.ref e) 4 .none >>= _) _ _ ⟨r2, g, d, tk0 + 1, os0⟩
  refine wpAny_bind (wpAny_setField_rec ge2 (by simp) fun r3 ge3 ls3 => ?_)
  replace ls3 : Heap.SameBut e r2 r3 := ls3
  replace ge3 : IsEnum r3 e it (i + 1) old := ge3
  show wpAny _ _ (newTuple [.int i tk0, x] >>= _) _ _ ⟨r3, g, d, tk0 + 1, os0⟩
  refine wpAny_bind (wpAny_newTuple ?_)
  have ge4 : IsEnum (r3.push { cls := .type "tuple", data := .seq #[.int i tk0, x] }) e it (i + 1) old := Heap.get?_push_of_some _ ge3
  have hsz : r3.objs.size = r1.objs.size := by rw [ls3.1, ls2.1]
  have hel : e < r1.objs.size := Heap.lt_size ge1
  have tt4 : (r3.push { cls := .type "tuple", data := .seq #[.int i tk0, x] }).get? r1.objs.size = some { cls := .type "tuple", data := .seq #[.int i tk0, x] } := by
    rw [← hsz]
    exact Heap.get?_push_size _ rfl
  have sz4 : (r3.push { cls := .type "tuple", data := .seq #[.int i tk0, x] }).objs.size = r1.objs.size + 1 := by rw [Heap.size_push, hsz]
  have kk4 : ∀ b o, b ≠ e → r1.get? b = some o → (r3.push { cls := .type "tuple", data := .seq #[.int i tk0, x] }).get? b = some o := fun b o hbe hb => Heap.get?_push_of_some _ (ls3.extBut b o hbe (ls2.extBut b o hbe hb))
  generalize r3.push { cls := .type "tuple", data := .seq #[.int i tk0, x] } = r4 at ge4 tt4 sz4 kk4
  show wpAny _ _ (Builtin.SmallTypes.ownedTupleIsFree (.ref e) >>= _) _ _ ⟨r4, g, d, tk0 + 1, os0⟩
  rw [hsz]
  refine wpAny_bind ?_
  unfold Builtin.SmallTypes.ownedTupleIsFree
  refine wpAny_bind (wpAny_field ge4 rfl (x := .none) rfl (wpAny_pure ?_))
  simp only [if_true]
  refine wpAny_bind (wpAny_rule ?_)
  refine wpAny_bind (wpAny_field ge4 rfl (x := old) rfl ?_)
  refine wpAny_bind (wpAny_setField_rec ge4 (by simp) fun r5 ge5 ls5 => ?_)
  replace ls5 : Heap.SameBut e r4 r5 := ls5
  replace ge5 : IsEnum r5 e it (i + 1) x := ge5
  show wpAny _ _ (Builtin.SmallTypes.ownedTupleHandOut (.ref e) (.ref r1.objs.size) >>= _) _ _ ⟨r5, g, d, tk0 + 1, os0⟩
  refine wpAny_bind ?_
  unfold Builtin.SmallTypes.ownedTupleHandOut
  refine wpAny_bind (wpAny_setField_rec ge5 (by simp) fun r6 ge6 ls6 => ?_)
  replace ls6 : Heap.SameBut e r5 r6 := ls6
  replace ge6 : IsEnumOut r6 e it (i + 1) x r1.objs.size := ge6
  refine wpAny_setField_rec ge6 (by simp) fun r7 ge7 ls7 => ?_
  replace ls7 : Heap.SameBut e r6 r7 := ls7
  replace ge7 : IsEnumOut r7 e it (i + 1) x r1.objs.size := ge7
  have kk7 : ∀ b o, b ≠ e → r4.get? b = some o → r7.get? b = some o := fun b o hbe hb => ls7.extBut b o hbe (ls6.extBut b o hbe (ls5.extBut b o hbe hb))
  refine wpAny_bind (wpAny_letGo (wpAny_pure ⟨_, rfl, wpAny_pure (kQ x r1 r7 hR ge7 (kk7 _ _ (Nat.ne_of_gt hel) tt4) ?_ fun b o hbe hb => kk7 b o hbe (kk4 b o hbe hb))⟩))
  rw [ls7.1, ls6.1, ls5.1, sz4]
theorem next_enum_end {e it : Addr} {i : Int} {old : Value} {R : Heap → Prop} {Q : Option Value → Shared → Prop} (ge : IsEnum s.heap e it i old)
    (nx0 : ∀ (Q1 : Value → Shared → Prop) (E1 : Value → Shared → Prop), (∀ h' e', R h' → (∃ o, h'.get? e' = some o ∧ o.cls = .type "StopIteration") → E1 (.ref e') { s with heap := h' }) → wpAny (model prog w) A.in1 (Builtin.SmallTypes.nextOf (.ref it)) Q1 E1 s)
    (kQ : ∀ h', R h' → Q none { s with heap := h' }) : wpAny (model prog w) A (pyNext (.ref e)) Q E s := by
  have gT : s.TypeIs (.ref e) "enumerate" := ⟨_, ge, rfl⟩
  unfold pyNext
  refine wpAny_bind (wpAny_attempt (wpAny_callSpecial?_slot (name := Str.ofString "__next__") gT F.slot_enumerate_next
    (wpAny_call_entry F.slot_enumerate_next gT F.entry_enumerate_next ?_ (F.args_enumerate_next_1 _))))
  show wpAny _ _ (field (.ref e) 2 >>= _) _ _ _
  refine wpAny_bind (wpAny_field ge rfl (x := .ref it) rfl ?_)
  refine wpAny_bind (nx0 _ _ fun h' x hR ex1 => ?_)
  obtain ⟨o, ho, hc⟩ := ex1
  refine wpAny_bind (wpAny_isInstance (T := "StopIteration") (b := true) ⟨o, ho, hc⟩ isSubtype_stop ?_)
  exact wpAny_pure (kQ _ hR)
end
end K47
set_option maxHeartbeats 4000000
/-! K47For: the loop over enumerate(zip(xs, ys)), va target at, (one, over). -/
namespace K47
open PySem PySem.Spec PySem.Calls PyProof.Rows PySem.W L2
/-- the iterators' objects; T: the tuple that the zip holds for given -/
structure EZ (h : Heap) (e z TI TO i1 i2 a b : Addr) (i : Nat) (T : Addr) : Prop where
  enum : ∃ old, IsEnum h e z ((i : Nat) : Int) old
  zip : (i = 0 ∧ IsZip h z TI TO .none) ∨ (0 < i ∧ ∃ f, IsZipHeld h z TI TO T f)
  ti : IsPair h TI (.ref i1) (.ref i2)
  to : ∃ u v, IsPair h TO u v
  l1 : h.IsListIter i1 a i
  l2 : h.IsListIter i2 b i
/-- the enumerate lies apart from the rest -/
structure EApart (e z TI TO i1 i2 : Addr) : Prop where
  z : z ≠ e
  TI : TI ≠ e
  TO : TO ≠ e
  i1 : i1 ≠ e
  i2 : i2 ≠ e
theorem EZ.keep {h h' : Heap} {e z TI TO i1 i2 a b : Addr} {i : Nat} {T : Addr} (x : EZ h e z TI TO i1 i2 a b i T) (k : ∀ c ∈ [e, z, TI, TO, i1, i2], ∀ o, h.get? c = some o → h'.get? c = some o) : EZ h' e z TI TO i1 i2 a b i T := by
  obtain ⟨⟨old, h1⟩, h2, h3, ⟨u, v, h4⟩, h5, h6⟩ := x
  refine ⟨⟨old, k e (by simp) _ h1⟩, ?_, k TI (by simp) _ h3, ⟨u, v, k TO (by simp) _ h4⟩, h5.at fun o q => k i1 (by simp) o q, h6.at fun o q => k i2 (by simp) o q⟩
  rcases h2 with ⟨e0, q⟩ | ⟨e0, f, q⟩
  · exact .inl ⟨e0, k z (by simp) _ q⟩
  · exact .inr ⟨e0, f, k z (by simp) _ q⟩
theorem EZ.obj {h : Heap} {e z TI TO i1 i2 a b : Addr} {i : Nat} {T : Addr} (x : EZ h e z TI TO i1 i2 a b i T) : ∀ c ∈ [e, z, TI, TO, i1, i2], ∃ o, h.get? c = some o ∧ ∀ v, o.data ≠ .cell v := by
  obtain ⟨⟨old, h1⟩, h2, h3, ⟨u, v, h4⟩, ⟨o5, e5, _, d5⟩, ⟨o6, e6, _, d6⟩⟩ := x
  intro c hc
  have hc' : c = e ∨ c = z ∨ c = TI ∨ c = TO ∨ c = i1 ∨ c = i2 := by simpa using hc
  rcases hc' with q | q | q | q | q | q
  · rw [q]; exact ⟨_, h1, fun v q => nomatch q⟩
  · rw [q]
    rcases h2 with ⟨_, q⟩ | ⟨_, f, q⟩
    · exact ⟨_, q, fun v q => nomatch q⟩
    · exact ⟨_, q, fun v q => nomatch q⟩
  · rw [q]; exact ⟨_, h3, fun v q => nomatch q⟩
  · rw [q]; exact ⟨_, h4, fun v q => nomatch q⟩
  · rw [q]; exact ⟨o5, e5, fun v q => by rw [d5] at q; cases q⟩
  · rw [q]; exact ⟨o6, e6, fun v q => by rw [d6] at q; cases q⟩
section
variable {X : Cx}
/-- one turn's item -/
theorem item_EZ {elts : List Expr} {kk : Nat} {tpos : Pos} {e z TI TO i1 i2 a b : Addr} {i : Nat} {T : Addr} {xs ys : List V} {x y : V} {pins : List (Addr × Obj)} {σ : L2.St} {H : Hp} {s : Shared} {E : Value → Shared → Prop} (I : Inv X pins σ H s) (D : ZipApart z TI TO i1 i2 a b) (DE : EApart e z TI TO i1 i2)
    (hf : ∀ c ∈ [e, z, TI, TO, i1, i2], FpOk X pins H c) (st : EZ s.heap e z TI TO i1 i2 a b i T) (hT : 0 < i → ∃ vs, H T = some (.tup vs)) (sx : SqL X.K H a xs) (sy : SqL X.K H b ys) (hx : xs[i]? = some x) (hy : ys[i]? = some y) :
    wpAny (model X.prog X.w) X.A (pyNext (.ref e)) (fun r s1 => ∃ u, r = some u ∧ wpAny (model X.prog X.w) X.A (letOwnedTupleGo (.Tuple elts kk tpos) (.ref e) u) (fun _ s2 => ∃ T1 T2 T', u = .ref T1 ∧ H T2 = none ∧ H T1 = none ∧ T1 ≠ T2 ∧
      Inv X pins σ (upd (upd H T2 (.tup [x, y])) T1 (.tup [.int (i : Nat), .ref T2])) s2 ∧ EZ s2.heap e z TI TO i1 i2 a b (i + 1) T' ∧ (T' = T2 ∨ (0 < i ∧ T' = T)) ∧ ∀ c ∈ [e, z, TI, TO, i1, i2], (upd (upd H T2 (.tup [x, y])) T1 (.tup [.int (i : Nat), .ref T2])) c = none) E s1) E s := by
  obtain ⟨⟨old, he⟩, hzip, hTI, ⟨u0, v0, hTO⟩, h1, h2⟩ := id st
  obtain ⟨va, ra, p, _⟩ := I.list sx
  obtain ⟨vb, rb, p2, _⟩ := I.list sy
  obtain ⟨u, hu, ru⟩ := ra.get hx
  obtain ⟨u2, hu2, ru2⟩ := rb.get hy
  have lt : ∀ {c o}, s.heap.get? c = some o → c < s.heap.objs.size := fun q => Heap.lt_size q
  have hlt : ∀ c ∈ [e, z, TI, TO, i1, i2], c < s.heap.objs.size := fun c hc => let ⟨o, q, _⟩ := st.obj c hc; lt q
  refine next_enum_of he (R := fun v h1' => v = .ref s.heap.objs.size ∧ IsPair h1' s.heap.objs.size u u2 ∧ h1'.objs.size = s.heap.objs.size + 1 ∧ (∃ T' f, IsZipHeld h1' z TI TO T' f ∧ (T' = s.heap.objs.size ∨ (0 < i ∧ T' = T))) ∧ IsPair h1' TI (.ref i1) (.ref i2) ∧ (∃ u v, IsPair h1' TO u v) ∧
      h1'.IsListIter i1 a (i + 1) ∧ h1'.IsListIter i2 b (i + 1) ∧ (∀ c o, c ∉ [z, TO, i1, i2] → s.heap.get? c = some o → h1'.get? c = some o)) (fun Q1 hQ1 E1 => ?_) fun v h1' h' hR hout hT1 hsz hk => ?_
  · rcases hzip with ⟨e0, hz⟩ | ⟨e0, f, hz⟩
    · refine nextOf_zip_first D hz hTI hTO h1 h2 p.isList p2.isList (x := u) (y := u2) (by simpa using hu) (by simpa using hu2) fun h' a1 a2 a3 a4 a5 a6 a7 => ?_
      refine hQ1 _ h' (a7 e _ DE.z.symm DE.TO.symm DE.i1.symm DE.i2.symm he) ⟨rfl, a5, a6, ⟨_, _, a1, .inl rfl⟩, a7 _ _ D.TIz D.TITO D.TIi1 D.TIi2 hTI, ⟨_, _, a2⟩, a3, a4, fun c o hc q => a7 c o (fun w => hc (by simp [w])) (fun w => hc (by simp [w])) (fun w => hc (by simp [w])) (fun w => hc (by simp [w])) q⟩
    · obtain ⟨vs, hHT⟩ := hT e0
      obtain ⟨_, itsT, _, ⟨oT, hoT, _⟩⟩ := I.hok T _ hHT
      refine nextOf_zip_held D hz hoT hTI h1 h2 p.isList p2.isList (x := u) (y := u2) (by simpa using hu) (by simpa using hu2) fun h' a1 a3 a4 a5 a6 a7 => ?_
      refine hQ1 _ h' (a7 e _ DE.z.symm DE.i1.symm DE.i2.symm he) ⟨rfl, a5, a6, ⟨_, _, a1, .inr ⟨e0, rfl⟩⟩, a7 _ _ D.TIz D.TIi1 D.TIi2 hTI, ⟨_, _, a7 _ _ D.TOz D.TOi1 D.TOi2 hTO⟩, a3, a4, fun c o hc q => a7 c o (fun w => hc (by simp [w])) (fun w => hc (by simp [w])) (fun w => hc (by simp [w])) q⟩
  · obtain ⟨rfl, hP, hs1, ⟨T', f, hzh, hT'⟩, hti, ⟨u3, v3, hto⟩, hl1, hl2, hkeep⟩ := hR
    refine ⟨_, rfl, wpAny_letOwnedTupleGo_enum (s := { s with heap := h', toks := s.toks + 1 }) hout fun h'' he'' sb => ?_⟩
    have hel := hlt e (by simp)
    have keep2 : ∀ c o, c ≠ e → h1'.get? c = some o → h''.get? c = some o := fun c o hc q => (sb.2 c hc).trans (hk c o hc q)
    have nT2 : H s.heap.objs.size = none := I.hok.fresh (Nat.le_refl _)
    have nT1 : H h1'.objs.size = none := I.hok.fresh (by rw [hs1]; exact Nat.le_succ _)
    have ne12 : h1'.objs.size ≠ s.heap.objs.size := by
      rw [hs1]
      exact Nat.succ_ne_self _
    have new1 : ObjOk X.prog X.w (upd H s.heap.objs.size (.tup [x, y])) h1' s.heap.objs.size (.tup [x, y]) := ⟨by show 2 ≤ sizeLine; decide, [u, u2], .cons ru (.cons ru2 .nil), ⟨_, hP, rfl, _, rfl⟩⟩
    have I1 : Inv X pins σ (upd H s.heap.objs.size (.tup [x, y])) { s with heap := h1' } :=
      I.turnedNew (t' := s.toks) (ch := [z, TO, i1, i2]) hkeep (fun c hc => hf c (by
        have hc' : c = z ∨ c = TO ∨ c = i1 ∨ c = i2 := by simpa using hc
        rcases hc' with q | q | q | q <;> rw [q] <;> simp)) (Nat.le_refl _) new1
    have hfe : FpOk X pins (upd H s.heap.objs.size (.tup [x, y])) e := ⟨by rw [upd_ne (Nat.ne_of_lt hel)]; exact (hf e (by simp)).1, (hf e (by simp)).2⟩
    have hT1'' : h''.get? h1'.objs.size = some { cls := .type "tuple", data := .seq #[.int i s.toks, .ref s.heap.objs.size] } := (sb.2 _ (by rw [hs1]; exact Nat.ne_of_gt (Nat.lt_succ_of_lt hel))).trans hT1
    have new2 : ObjOk X.prog X.w (upd (upd H s.heap.objs.size (.tup [x, y])) h1'.objs.size (.tup [.int (i : Nat), .ref s.heap.objs.size])) h'' h1'.objs.size (.tup [.int (i : Nat), .ref s.heap.objs.size]) :=
      ⟨by show 2 ≤ sizeLine; decide, [.int i s.toks, .ref s.heap.objs.size], .cons ⟨_, rfl⟩ (.cons rfl .nil), ⟨_, hT1'', rfl, _, rfl⟩⟩
    have I2 : Inv X pins σ (upd (upd H s.heap.objs.size (.tup [x, y])) h1'.objs.size (.tup [.int (i : Nat), .ref s.heap.objs.size])) { s with heap := h'', toks := s.toks + 1 } :=
      I1.turnedNew (t' := s.toks + 1) (ch := [e]) (fun c o hc q => keep2 c o (fun w => hc (by simp [w])) q) (fun c hc => by
        have hc' : c = e := by simpa using hc
        rw [hc']
        exact hfe) (Nat.le_refl _) new2
    refine ⟨h1'.objs.size, s.heap.objs.size, T', rfl, nT2, nT1, ne12, I2, ⟨⟨.ref s.heap.objs.size, ?_⟩, .inr ⟨Nat.succ_pos _, f, keep2 _ _ DE.z hzh⟩, keep2 _ _ DE.TI hti, ⟨u3, v3, keep2 _ _ DE.TO hto⟩, hl1.at fun o q => keep2 _ o DE.i1 q, hl2.at fun o q => keep2 _ o DE.i2 q⟩, hT', fun c hc => ?_⟩
    · have e1 : ((i + 1 : Nat) : Int) = (i : Int) + 1 := by omega
      rw [e1]
      exact he''
    · have := hlt c hc
      rw [upd_ne (by rw [hs1]; exact Nat.ne_of_lt (Nat.lt_succ_of_lt this)), upd_ne (Nat.ne_of_lt this)]
      exact (hf c hc).1
/-- no more turns -/
theorem done_EZ {e z TI TO i1 i2 a b : Addr} {i : Nat} {T : Addr} {xs ys : List V} {pins : List (Addr × Obj)} {σ : L2.St} {H : Hp} {s : Shared} {E : Value → Shared → Prop} (hh : X.A.handled = none) (I : Inv X pins σ H s) (D : ZipApart z TI TO i1 i2 a b)
    (hf : ∀ c ∈ [e, z, TI, TO, i1, i2], FpOk X pins H c) (st : EZ s.heap e z TI TO i1 i2 a b i T) (hT : 0 < i → ∃ vs, H T = some (.tup vs)) (sx : SqL X.K H a xs) (sy : SqL X.K H b ys) (hend : xs.length ≤ i ∨ ys.length ≤ i) :
    wpAny (model X.prog X.w) X.A (pyNext (.ref e)) (fun r s1 => r = none ∧ Inv X pins σ H s1) E s := by
  obtain ⟨⟨old, he⟩, hzip, hTI, ⟨u0, v0, hTO⟩, h1, h2⟩ := st
  obtain ⟨va, ra, p, _⟩ := I.list sx
  obtain ⟨vb, rb, p2, _⟩ := I.list sy
  have l1 := ra.length
  have l2 := rb.length
  have hen : va.toArray[i]? = none ∨ vb.toArray[i]? = none := by
    rcases hend with q | q
    · exact .inl (by simp; omega)
    · exact .inr (by simp; omega)
  refine next_enum_end he (R := fun h' => ∀ c o, c ∉ [z, TO, i1, i2] → s.heap.get? c = some o → h'.get? c = some o) (fun Q1 E1 hE1 => ?_) fun h' hk => ⟨rfl, I.turnedL (t' := s.toks) (ch := [z, TO, i1, i2]) hk fun c hc => hf c (by
    have hc' : c = z ∨ c = TO ∨ c = i1 ∨ c = i2 := by simpa using hc
    rcases hc' with q | q | q | q <;> rw [q] <;> simp)⟩
  rcases hzip with ⟨e0, hz⟩ | ⟨e0, f, hz⟩
  · exact nextOf_zip_none hh D hz hTI hTO h1 h2 p.isList p2.isList hen fun h' e' hk hx => hE1 h' e' (fun c o hc q => hk c o (fun w => hc (by simp [w])) (fun w => hc (by simp [w])) (fun w => hc (by simp [w])) (fun w => hc (by simp [w])) q) hx
  · obtain ⟨vs, hHT⟩ := hT e0
    obtain ⟨_, itsT, _, ⟨oT, hoT, _⟩⟩ := I.hok T _ hHT
    exact nextOf_zip_noneH hh D hz hoT hTI h1 h2 p.isList p2.isList hen fun h' e' hk hx => hE1 h' e' (fun c o hc q => hk c o (fun w => hc (by simp [w])) (fun w => hc (by simp [w])) (fun w => hc (by simp [w])) q) hx
def tForEZ (K : PySem.W.Frag) (ta : TA) (g : TG) (tb : TS) : TS := fun D σ H => ta σ H fun vs H1 => ∃ (a b : Addr) (xs ys : List V), vs = [.ref a, .ref b] ∧ SqL K H1 a xs ∧ SqL K H1 b ys ∧ ∃ Pv : Nat → L2.St → Hp → Prop, Pv 0 σ H1 ∧
  (∀ i σ H, Pv i σ H → SqL K H a xs ∧ SqL K H b ys) ∧
  (∀ (i : Nat) (x y : V) (σ : L2.St) (H : Hp) (T1 T2 : Addr), xs[i]? = some x → ys[i]? = some y → Pv i σ H → H T2 = none → H T1 = none → T1 ≠ T2 →
    g (.ref T1) σ (upd (upd H T2 (.tup [x, y])) T1 (.tup [.int (i : Nat), .ref T2])) fun σ2 H2 => tb { D with
      nx := fun σ' H' => (∀ q vs, upd (upd H T2 (.tup [x, y])) T1 (.tup [.int (i : Nat), .ref T2]) q = some (.tup vs) → H' q = some (.tup vs)) ∧ Pv (i + 1) σ' H',
      ct := fun σ' H' => (∀ q vs, upd (upd H T2 (.tup [x, y])) T1 (.tup [.int (i : Nat), .ref T2]) q = some (.tup vs) → H' q = some (.tup vs)) ∧ Pv (i + 1) σ' H', bk := D.nx } σ2 H2) ∧
  ∀ σ H, Pv (min xs.length ys.length) σ H → D.nx σ H
theorem ps_forEZ {e1 e2 : Expr} {p1 p2 p3 p4 pos tpos : Pos} {elts : List Expr} {kk : Nat} {body : List Stmt} {ta : TA} {g : TG} {tb : TS} (hp : PassesOwn (model X.prog X.w) X.A X.env X.xe) (hc : X.calm = true) (hgE : Gl X "enumerate") (hmE : X.mg "enumerate" = none) (hgZ : Gl X "zip") (hmZ : X.mg "zip" = none)
    (ha : PA X [e1, e2] ta) (hg : PG X (.Tuple elts kk tpos) g) (hb : PSs X body tb)
    (hs1 : starEach [e1, e2] X.env = (false, eval e1 X.env) :: starEach [e2] X.env := by rfl) (hpl : (backTo p3 (starEach [e2] X.env)).any (·.1) = false := by rfl)
    (hs : ∀ x, foldedSetIterable (.Call (.Name "enumerate" p1) [.Call (.Name "zip" p2) [e1, e2] [] p3] [] p4) X.env x = pure x := by intro _; rfl) :
    PS X (.For (.Tuple elts kk tpos) (.Call (.Name "enumerate" p1) [.Call (.Name "zip" p2) [e1, e2] [] p3] [] p4) body [] pos) (tForEZ X.K ta g tb) := by
  refine ⟨fun pins s σ H D I h => ?_⟩
  have main : wpAny (model X.prog X.w) X.A (eval (.Call (.Name "enumerate" p1) [.Call (.Name "zip" p2) [e1, e2] [] p3] [] p4) X.env) (fun v s1 => wpAny (model X.prog X.w) X.A (pyIter v) (fun itv s2 => ∃ (e z TI TO i1 i2 a b : Addr) (xs ys : List V) (H1 : Hp) (Pv : Nat → L2.St → Hp → Prop), itv = .ref e ∧ Inv X pins σ H1 s2 ∧
      EZ s2.heap e z TI TO i1 i2 a b 0 0 ∧ ZipApart z TI TO i1 i2 a b ∧ EApart e z TI TO i1 i2 ∧ (∀ c ∈ [e, z, TI, TO, i1, i2], FpOk X pins H1 c) ∧ SqL X.K H1 a xs ∧ SqL X.K H1 b ys ∧ Pv 0 σ H1 ∧
      (∀ i σ H, Pv i σ H → SqL X.K H a xs ∧ SqL X.K H b ys) ∧
      (∀ (i : Nat) (x y : V) (σ : L2.St) (H : Hp) (T1 T2 : Addr), xs[i]? = some x → ys[i]? = some y → Pv i σ H → H T2 = none → H T1 = none → T1 ≠ T2 →
        g (.ref T1) σ (upd (upd H T2 (.tup [x, y])) T1 (.tup [.int (i : Nat), .ref T2])) fun σ2 H2 => tb { D with
          nx := fun σ' H' => (∀ q vs, upd (upd H T2 (.tup [x, y])) T1 (.tup [.int (i : Nat), .ref T2]) q = some (.tup vs) → H' q = some (.tup vs)) ∧ Pv (i + 1) σ' H',
          ct := fun σ' H' => (∀ q vs, upd (upd H T2 (.tup [x, y])) T1 (.tup [.int (i : Nat), .ref T2]) q = some (.tup vs) → H' q = some (.tup vs)) ∧ Pv (i + 1) σ' H', bk := D.nx } σ2 H2) ∧
      ∀ σ H, Pv (min xs.length ys.length) σ H → D.nx σ H) X.xe s1) X.xe s := by
    refine Call_ (ld_blt I hgE hmE boot_enumerate (PyProof.Rows.callWith_type1 ?_ rfl rfl))
    show wpAny _ _ (spliced ((false, eval (.Call (.Name "zip" p2) [e1, e2] [] p3) X.env) :: backTo p4 (starEach [] X.env))) _ _ s
    refine Calls.spliced_cons (Call_ (ld_blt I hgZ hmZ PyProof.Rows.boot_zip (PyProof.Rows.callWith_type1 (thn (ha.run p3 pins s σ H _ I h) fun us s1 ⟨vs, H1, I1, r1, q1⟩ => ?_) hs1 hpl)))
    obtain ⟨a, b, xs, ys, ex, sx, sy, Pv, q0, qs, qt, qd⟩ := q1
    subst ex
    cases r1 with
    | cons r rr =>
    cases rr with
    | cons r' rr =>
    cases rr
    cases r
    cases r'
    obtain ⟨va, ra, pl1, _⟩ := I1.list sx
    obtain ⟨vb, rb, pl2, _⟩ := I1.list sy
    have la : a < s1.heap.objs.size := pl1.lt
    have lb : b < s1.heap.objs.size := pl2.lt
    refine call_zip_2 pl1.isList pl2.isList fun h' hz hTI hTO h1 h2 hsz hk => ?_
    refine Calls.spliced_nil ?_
    refine call_enum_zip hz fun h'' he hsz2 hk2 => wpAny_pyIter_enum he ?_
    have es : h'.objs.size = s1.heap.objs.size + 5 := hsz
    have he : IsEnum h'' h'.objs.size (s1.heap.objs.size + 4) 0 .none := he
    have hk2 : ∀ c o, h'.get? c = some o → h''.get? c = some o := hk2
    have I2 : Inv X pins σ H1 { s1 with heap := h'' } := I1.kept (t' := s1.toks) fun c o q => hk2 c o (hk c o q)
    refine ⟨h'.objs.size, s1.heap.objs.size + 4, s1.heap.objs.size + 2, s1.heap.objs.size + 3, s1.heap.objs.size, s1.heap.objs.size + 1, a, b, xs, ys, H1, Pv, rfl, I2, ⟨⟨_, he⟩, .inl ⟨rfl, hk2 _ _ hz⟩, hk2 _ _ hTI, ⟨_, _, hk2 _ _ hTO⟩, h1.at fun o q => hk2 _ o q, h2.at fun o q => hk2 _ o q⟩,
      PySem.W.ktu_apart s1.heap.objs.size a b la lb, ⟨by show _ ≠ h'.objs.size; omega, by show _ ≠ h'.objs.size; omega, by show _ ≠ h'.objs.size; omega, by show _ ≠ h'.objs.size; omega, by show _ ≠ h'.objs.size; omega⟩, fun c hcm => ?_, sx, sy, q0, qs, qt, qd⟩
    have hle : s1.heap.objs.size ≤ c := by
      have e' : c = h'.objs.size ∨ c = s1.heap.objs.size + 4 ∨ c = s1.heap.objs.size + 2 ∨ c = s1.heap.objs.size + 3 ∨ c = s1.heap.objs.size ∨ c = s1.heap.objs.size + 1 := by
        have q : c ∈ [h'.objs.size, s1.heap.objs.size + 4, s1.heap.objs.size + 2, s1.heap.objs.size + 3, s1.heap.objs.size, s1.heap.objs.size + 1] := hcm
        simpa using q
      rcases e' with q | q | q | q | q | q
      · rw [q, es]; exact Nat.le_add_right _ _
      · rw [q]; exact Nat.le_add_right _ _
      · rw [q]; exact Nat.le_add_right _ _
      · rw [q]; exact Nat.le_add_right _ _
      · rw [q]; exact Nat.le_refl _
      · rw [q]; exact Nat.le_add_right _ _
    exact I1.fpOk hle (I1.hok.fresh hle)
  refine wpAny_For (thn main fun v s1 h1 => thn h1 fun itv s2 h2 => ?_) hs
  obtain ⟨e, z, TI, TO, i1, i2, a, b, xs, ys, H2, Pv, rfl, I2, st2, DZ, DE, f2, sx, sy, q0, qs, qt, qd⟩ := h2
  have stat : ∀ {H' : Hp}, (∀ c ∈ [e, z, TI, TO, i1, i2], H' c = none) → ∀ c ∈ [e, z, TI, TO, i1, i2], FpOk X pins H' c := fun hn c hc => ⟨hn c hc, (f2 c hc).2⟩
  refine codeAny_forLoop_any (fun n s' => ∃ (i : Nat) (σ' : L2.St) (H' : Hp) (T : Addr), Inv X pins σ' H' s' ∧ EZ s'.heap e z TI TO i1 i2 a b i T ∧ (0 < i → ∃ vs, H' T = some (.tup vs)) ∧ (∀ c ∈ [e, z, TI, TO, i1, i2], H' c = none) ∧ Pv i σ' H' ∧ i ≤ min xs.length ys.length ∧ n = min xs.length ys.length - i) ?_ (min xs.length ys.length)
    ⟨0, σ, H2, 0, I2, st2, fun h => absurd h (Nat.lt_irrefl 0), fun c hc => (f2 c hc).1, q0, Nat.zero_le _, rfl⟩
  rintro n s3 ⟨i, σ3, H3, T, I3, st3, hT3, fr3, p3', hi3, rfl⟩
  obtain ⟨hx3, hy3⟩ := qs i σ3 H3 p3'
  by_cases hlt : i < min xs.length ys.length
  · have lx : i < xs.length := Nat.lt_of_lt_of_le hlt (Nat.min_le_left _ _)
    have ly : i < ys.length := Nat.lt_of_lt_of_le hlt (Nat.min_le_right _ _)
    have ex := List.getElem?_eq_getElem lx
    have ey := List.getElem?_eq_getElem ly
    refine wpAny_passesOwn hp (thn (item_EZ (E := X.xe) (elts := elts) (kk := kk) (tpos := tpos) I3 DZ DE (stat fr3) st3 hT3 hx3 hy3 ex ey) fun r s4 ⟨u, hr, h4⟩ => ?_)
    subst hr
    refine wpAny_passesOwn hp (thn h4 fun _ s5 ⟨T1, T2, T', eu, n2, n1, ne12, I5, st5, hT', fr5⟩ => ?_)
    subst eu
    have hT5 : ∃ vs, (upd (upd H3 T2 (.tup [xs[i], ys[i]])) T1 (.tup [.int (i : Nat), .ref T2])) T' = some (.tup vs) := by
      rcases hT' with q | ⟨q0, q⟩
      · rw [q, upd_ne ne12.symm, upd_same]
        exact ⟨_, rfl⟩
      · obtain ⟨vs, hv⟩ := hT3 q0
        rw [q, upd_ne (ne_of_none hv n1), upd_ne (ne_of_none hv n2)]
        exact ⟨_, hv⟩
    have I5' := I5.pinned (stat fr5) st5.obj
    refine wpAny_passesOwn hp (thn (hg.run _ s5 σ3 _ (.ref T1) _ _ I5' rfl (qt i xs[i] ys[i] σ3 H3 T1 T2 ex ey p3' n2 n1 ne12)) fun _ u6 ⟨τ6, G6, J6, w6⟩ => ?_)
    refine wpAny_passesOwn hp (thn (hb.run _ u6 τ6 G6 _ J6 w6) fun f u7 w7 => ?_)
    have again : ∀ {τ7 : L2.St} {G7 : Hp}, Inv X (pins ++ pinsAt [e, z, TI, TO, i1, i2] s5.heap) τ7 G7 u7 → ((∀ q vs, upd (upd H3 T2 (.tup [xs[i], ys[i]])) T1 (.tup [.int (i : Nat), .ref T2]) q = some (.tup vs) → G7 q = some (.tup vs)) ∧ Pv (i + 1) τ7 G7) →
        ∃ m, m < min xs.length ys.length - i ∧ ∃ (i : Nat) (σ' : L2.St) (H' : Hp) (T : Addr), Inv X pins σ' H' u7 ∧ EZ u7.heap e z TI TO i1 i2 a b i T ∧ (0 < i → ∃ vs, H' T = some (.tup vs)) ∧ (∀ c ∈ [e, z, TI, TO, i1, i2], H' c = none) ∧ Pv i σ' H' ∧ i ≤ min xs.length ys.length ∧ m = min xs.length ys.length - i := fun {τ7 G7} J7 m7 => by
      refine ⟨min xs.length ys.length - (i + 1), by omega, i + 1, τ7, G7, T', J7.unpinned, st5.keep fun c hc o q => (J7.pin (c, o) (List.mem_append_right _ (List.mem_append_right _ (mem_pinsAt hc q)))).1, fun _ => ?_, fun c hc => ?_, m7.2, hlt, rfl⟩
      · obtain ⟨vs, hv⟩ := hT5
        exact ⟨vs, m7.1 _ _ hv⟩
      · obtain ⟨o, q, d⟩ := st5.obj c hc
        exact (J7.pin (c, o) (List.mem_append_right _ (List.mem_append_right _ (mem_pinsAt hc q)))).2.1
    cases f with
    | next => obtain ⟨τ7, G7, J7, m7⟩ := w7; exact again J7 m7
    | cont => obtain ⟨τ7, G7, J7, m7⟩ := w7; exact again J7 m7
    | brk => obtain ⟨τ7, G7, J7, w7⟩ := w7; exact ⟨τ7, G7, J7.unpinned, w7⟩
    | ret v => obtain ⟨v7, τ7, G7, J7, rr7, w7⟩ := w7; exact ⟨v7, τ7, G7, J7.unpinned, rr7, w7⟩
  · have ei : i = min xs.length ys.length := by omega
    have hend : xs.length ≤ i ∨ ys.length ≤ i := by
      rcases Nat.le_total xs.length ys.length with q | q
      · exact .inl (by rw [ei, Nat.min_eq_left q]; exact Nat.le_refl _)
      · exact .inr (by rw [ei, Nat.min_eq_right q]; exact Nat.le_refl _)
    refine wpAny_passesOwn hp (thn (done_EZ (E := X.xe) (I3.ok.hd hc) I3 DZ (stat fr3) st3 hT3 hx3 hy3 hend) fun r s4 ⟨hr, I4⟩ => ?_)
    subst hr
    exact wpAny_execs_nil ⟨σ3, H3, I4, qd σ3 H3 (by rw [← ei]; exact p3')⟩
end
end K47
set_option maxHeartbeats 4000000
/-! K47Plain: the returns of a trip there and back; what stands through a turn of the law. -/
namespace K47
open PySem PySem.Spec PyProof.Rows L2
open LamX (ExtN Tabs)
theorem linked_lines {N : Net} {out : List Str} (ch : Chained N out) {b : Nat} (h1 : 1 ≤ b) (h2 : b ≤ out.length) {j : Nat} {x y : Str} (hx : (lines out b)[j]? = some x) (hy : (lines out b)[j + 1]? = some y) : Linked N x y := by
  have hl := lines_length out h2
  have hj : j + 1 < out.length + (b - 1) := by
    have := (List.getElem?_eq_some_iff.mp hy).1
    omega
  by_cases c : j + 1 < out.length
  · rw [lines_out out b (by omega)] at hx
    rw [lines_out out b c] at hy
    exact ch j x y hx hy
  · rw [lines_back out h2 (by omega) hj] at hy
    by_cases c2 : j < out.length
    · rw [lines_out out b c2] at hx
      have e1 : 2 * out.length - 2 - (j + 1) + 1 = j := by omega
      exact (ch _ y x hy (by rw [e1]; exact hx)).symm
    · rw [lines_back out h2 (by omega) (by omega)] at hx
      have e1 : 2 * out.length - 2 - (j + 1) + 1 = 2 * out.length - 2 - j := by omega
      exact (ch _ y x hy (by rw [e1]; exact hx)).symm
/-- returns by which a wagon goes along ls -/
structure Goes (N : Net) (ls : List Str) (rs : List (Addr × Ret)) : Prop where
  len : ls.length = rs.length + 1
  by_ : ∀ (j : Nat) (p : Addr × Ret), rs[j]? = some p → ∃ x, ls[j]? = some x ∧ ls[j + 1]? = some p.2.over ∧ By N p.2.jn x p.2.over
  day : rs.Pairwise fun a b => a.2.day < b.2.day
  num : ∀ p ∈ rs, p.2.num = 10 + 3 * p.2.day
theorem Goes.snoc {N : Net} {ls : List Str} {rs : List (Addr × Ret)} (h : Goes N ls rs) {p : Addr × Ret} {x : Str} (hx : ls[rs.length]? = some x) (hb : By N p.2.jn x p.2.over) (hd : ∀ q ∈ rs, q.2.day < p.2.day) (hn : p.2.num = 10 + 3 * p.2.day) : Goes N (ls ++ [p.2.over]) (rs ++ [p]) := by
  refine ⟨?_, fun j q hq => ?_, ?_, fun q hq => ?_⟩
  · rw [List.length_append, List.length_append, h.len]
    rfl
  · by_cases hj : j < rs.length
    · rw [List.getElem?_append_left hj] at hq
      obtain ⟨z, h1, h2, h3⟩ := h.by_ j q hq
      refine ⟨z, ?_, ?_, h3⟩
      · rw [List.getElem?_append_left (by rw [h.len]; omega)]
        exact h1
      · rw [List.getElem?_append_left (by rw [h.len]; omega)]
        exact h2
    · rw [List.getElem?_append_right (by omega)] at hq
      have e0 : j - rs.length = 0 := by
        have := (List.getElem?_eq_some_iff.mp hq).1
        rw [List.length_singleton] at this
        omega
      rw [e0] at hq
      obtain rfl : p = q := Option.some.inj hq
      have ej : j = rs.length := by omega
      subst ej
      refine ⟨x, ?_, ?_, hb⟩
      · rw [List.getElem?_append_left (by rw [h.len]; omega)]
        exact hx
      · rw [List.getElem?_append_right (by rw [h.len]; omega), h.len, Nat.sub_self]
        rfl
  · rw [List.pairwise_append]
    exact ⟨h.day, List.pairwise_singleton _ _, fun a ha c hc => by
      rw [List.mem_singleton.mp hc]
      exact hd a ha⟩
  · rcases List.mem_append.mp hq with z | z
    · exact h.num q z
    · rw [List.mem_singleton.mp z]
      exact hn
theorem Goes.nums {N : Net} {ls : List Str} {rs : List (Addr × Ret)} (h : Goes N ls rs) : (rs.map (·.2.num)).Nodup := by
  unfold List.Nodup
  rw [List.pairwise_map]
  refine h.day.imp_of_mem fun {p q} hp hq hd e => ?_
  rw [h.num p hp, h.num q hq] at e
  omega
theorem Goes.chain {N : Net} {ls : List Str} {rs : List (Addr × Ret)} (h : Goes N ls rs) {line : Str} (h0 : ls[0]? = some line) : ChainAt N line rs := fun j p hp => by
  obtain ⟨x, h1, h2, hn, ls', h3, h4, h5⟩ := h.by_ j p hp
  refine ⟨x, ls', ?_, h3, h4, hn⟩
  cases j with
  | zero =>
    rw [h0] at h1
    exact h1
  | succ j =>
    show (rs.map (·.2.over))[j]? = some x
    have hj : j < rs.length := by
      have := (List.getElem?_eq_some_iff.mp hp).1
      omega
    obtain ⟨y, _, g2, _⟩ := h.by_ j rs[j] (List.getElem?_eq_getElem hj)
    rw [List.getElem?_map, List.getElem?_eq_getElem hj]
    rw [h1] at g2
    exact g2.symm
/-- the returns of the trip so far -/
structure Trip (N : Net) (out : List Str) (b i : Nat) (rs : List (Addr × Ret)) : Prop where
  goes : Goes N ((lines out b).take (i + 1)) rs
  len : rs.length = i
  dy : ∀ p ∈ rs, p.2.day < 2 + 5 * (i : Int)
  ld : ∀ (j : Nat) (p : Addr × Ret), rs[j]? = some p → p.2.load = "empty" → ¬ j + 1 < out.length
theorem Trip.nil {N : Net} {out : List Str} {b : Nat} (h : 0 < out.length) (h2 : b ≤ out.length) : Trip N out b 0 [] := by
  refine ⟨⟨?_, fun j p hp => by simp at hp, .nil, fun p hp => (nomatch hp)⟩, rfl, fun p hp => (nomatch hp), fun j p hp => by simp at hp⟩
  rw [List.length_take, lines_length out h2]
  show min 1 _ = 1
  omega
theorem Trip.snoc {N : Net} {out : List Str} {b i : Nat} {rs : List (Addr × Ret)} (h : Trip N out b i rs) {p : Addr × Ret} {x : Str} (hx : (lines out b)[i]? = some x) (hy : (lines out b)[i + 1]? = some p.2.over) (hb : By N p.2.jn x p.2.over) (d0 : 2 + 5 * (i : Int) ≤ p.2.day) (d1 : p.2.day < 7 + 5 * (i : Int))
    (hn : p.2.num = 10 + 3 * p.2.day) (hl : p.2.load = "empty" → ¬ i + 1 < out.length) : Trip N out b (i + 1) (rs ++ [p]) := by
  refine ⟨?_, ?_, fun q hq => ?_, fun j q hq e => ?_⟩
  · rw [take_snoc hy]
    refine h.goes.snoc (x := x) ?_ hb (fun q hq => ?_) hn
    · rw [h.len, List.getElem?_take, if_pos (Nat.lt_succ_self _)]
      exact hx
    · have := h.dy q hq
      omega
  · rw [List.length_append, h.len]
    rfl
  · rcases List.mem_append.mp hq with z | z
    · have := h.dy q z
      omega
    · rw [List.mem_singleton.mp z]
      omega
  · by_cases hj : j < rs.length
    · rw [List.getElem?_append_left hj] at hq
      exact h.ld j q hq e
    · rw [List.getElem?_append_right (by omega)] at hq
      have e0 : j - rs.length = 0 := by
        have := (List.getElem?_eq_some_iff.mp hq).1
        rw [List.length_singleton] at this
        omega
      rw [e0] at hq
      obtain rfl : p = q := Option.some.inj hq
      have ej : j = i := by
        have := h.len
        omega
      rw [ej]
      exact hl e
/-- the whole trip: none astray -/
theorem Trip.all {N : Net} {out : List Str} {b : Nat} {rs : List (Addr × Ret)} {line : Str} (h : Trip N out b ((lines out b).length - 1) rs) (nd : out.Nodup) (h1 : 1 ≤ b) (h2 : b ≤ out.length) (h0 : out[0]? = some line) :
    strays [line] (rs.map trip) = [] ∧ keptAll [line] (rs.map trip) = out.take (out.length - b + 1) := by
  have hl := lines_length out h2
  refine there_back_all nd h1 h2 h0 (rs.map trip) ?_ fun j t ht => ?_
  · rw [List.length_map, h.len]
    omega
  · rw [List.getElem?_map] at ht
    cases hp : rs[j]? with
    | none =>
      rw [hp] at ht
      cases ht
    | some p =>
      rw [hp] at ht
      obtain rfl : trip p = t := Option.some.inj ht
      obtain ⟨x, g1, g2, _⟩ := h.goes.by_ j p hp
      refine ⟨?_, fun e => h.ld j p hp (of_decide_eq_true e)⟩
      rw [List.getElem?_take] at g2
      split at g2
      · exact g2
      · cases g2
theorem Trip.goes_all {N : Net} {out : List Str} {b : Nat} {rs : List (Addr × Ret)} (h : Trip N out b ((lines out b).length - 1) rs) (h1 : 1 ≤ b) (h2 : b ≤ out.length) : Goes N (lines out b) rs := by
  have hl := lines_length out h2
  have := h.goes
  rwa [List.take_of_length_le (by omega)] at this
theorem Goes.le {N : Net} {out : List Str} {b : Nat} {rs : List (Addr × Ret)} (h : Goes N (lines out b) rs) (h2 : b ≤ out.length) (h8 : out.length ≤ 8) : rs.length ≤ 14 := by
  have hl := lines_length out h2
  have := h.len
  omega
/-! ### what stands through a turn -/
/-- all but the two bags and tables stand -/
def E2 (b o : Addr) (H H' : Hp) : Prop := ∀ c u, c ≠ b → c ≠ o → H c = some u → (∀ ps, u ≠ .tbl ps) → H' c = some u
theorem E2.refl (b o : Addr) (H : Hp) : E2 b o H H := fun _ _ _ _ h _ => h
theorem E2.trans {b o : Addr} {H H1 H2 : Hp} (x : E2 b o H H1) (y : E2 b o H1 H2) : E2 b o H H2 := fun c u n1 n2 h t => y c u n1 n2 (x c u n1 n2 h t) t
theorem E2.same {b o : Addr} {H H' : Hp} (s : Same H H') : E2 b o H H' := fun c u _ _ h _ => s c u h
theorem E2.kb {b o : Addr} {H H' : Hp} (k : KB b H H') : E2 b o H H' := fun c u n _ h _ => k c u h n
theorem E2.ko {b o : Addr} {H H' : Hp} (k : KB o H H') : E2 b o H H' := fun c u _ n h _ => k c u h n
theorem E2.extX {b o : Addr} {H H' : Hp} (k : ExtX b H H') : E2 b o H H' := fun c u n _ h t => k c u n h t
theorem E2.new {b o p : Addr} {H H' : Hp} {u : HO} (k : E2 b o H H') (h : Fr2 H p) : E2 b o H (upd H' p u) := fun c w n1 n2 hc t => by
  have : c ≠ p := fun z => by
    subst z
    obtain ⟨ps, q⟩ := h w hc
    exact t ps q
  rw [upd_ne this]
  exact k c w n1 n2 hc t
theorem BagAt.not_tup {H : Hp} {b p : Addr} {xs : List V} (h : BagAt H b) (e : H p = some (.tup xs)) : p ≠ b := h.ne e fun g r z => nomatch z
/-- the state of a turn: the script at S, the bags b and o, the net at a -/
structure Bun (K : PySem.W.Frag) (T : Addr) (H0 H : Hp) (S b o a : Addr) (ns : List Int) (N : Net) : Prop where
  ext : ExtN H0 H
  bb : BagAt H b
  bo : BagAt H o
  ne : b ≠ o
  fb : Fr2 H0 b
  fo : Fr2 H0 o
  net : NetAt H a N
  tabs : Tabs (TT T) H
theorem Bun.e2_tk {K : PySem.W.Frag} {T : Addr} {H0 H H' : Hp} {S b o a : Addr} {ns : List Int} {N : Net} (B : Bun K T H0 H S b o a ns N) (e : E2 b o H H') : TK H H' := by
  refine ⟨fun p xs h => e p _ (B.bb.not_tup h) (B.bo.not_tup h) h (fun _ z => (nomatch z)), fun p u xs h => e p _ (B.bb.ne h fun g r z => nomatch z) (B.bo.ne h fun g r z => nomatch z) h (fun _ z => (nomatch z))⟩
theorem Bun.step {K : PySem.W.Frag} {T : Addr} {H0 H H' : Hp} {S b o a : Addr} {ns : List Int} {N : Net} (B : Bun K T H0 H S b o a ns N) (e : E2 b o H H') (hb : BagAt H' b) (ho : BagAt H' o) (ht : Tabs (TT T) H') : Bun K T H0 H' S b o a ns N := by
  refine ⟨fun c u h n => ?_, hb, ho, B.ne, B.fb, B.fo, B.net.keep (B.e2_tk e), ht⟩
  refine e c u (fun z => ?_) (fun z => ?_) (B.ext c u h n) n
  · subst z
    obtain ⟨ps, q⟩ := B.fb u h
    exact n ps q
  · subst z
    obtain ⟨ps, q⟩ := B.fo u h
    exact n ps q
theorem Bun.drawB {K : PySem.W.Frag} {T : Addr} {H0 H H' : Hp} {S b o a : Addr} {ns : List Int} {N : Net} (B : Bun K T H0 H S b o a ns N) (k : KB b H H') (hb : BagAt H' b) : Bun K T H0 H' S b o a ns N := by
  refine B.step (.kb k) hb ?_ (B.bb.tabs B.tabs k)
  obtain ⟨g, r, e, q⟩ := B.bo
  exact ⟨g, r, k _ _ e B.ne.symm, q⟩
theorem Bun.drawO {K : PySem.W.Frag} {T : Addr} {H0 H H' : Hp} {S b o a : Addr} {ns : List Int} {N : Net} (B : Bun K T H0 H S b o a ns N) (k : KB o H H') (ho : BagAt H' o) : Bun K T H0 H' S b o a ns N := by
  refine B.step (.ko k) ?_ ho (B.bo.tabs B.tabs k)
  obtain ⟨g, r, e, q⟩ := B.bb
  exact ⟨g, r, k _ _ e B.ne, q⟩
theorem Bun.same {K : PySem.W.Frag} {T : Addr} {H0 H H' : Hp} {S b o a : Addr} {ns : List Int} {N : Net} (B : Bun K T H0 H S b o a ns N) (s : Same H H') : Bun K T H0 H' S b o a ns N :=
  B.step (.same s) (B.bb.keep s) (B.bo.keep s) (Tabs.same B.tabs s)
theorem Bun.told {K : PySem.W.Frag} {T : Addr} {H0 H H' : Hp} {S b o a : Addr} {ns : List Int} {N : Net} (B : Bun K T H0 H S b o a ns N) (k : ExtX b H H') (hb : BagAt H' b) (ht : Tabs (TT T) H') : Bun K T H0 H' S b o a ns N := by
  refine B.step (.extX k) hb ?_ ht
  obtain ⟨g, r, e, q⟩ := B.bo
  exact ⟨g, r, k _ _ B.ne.symm e (fun _ z => nomatch z), q⟩
/-- a list that isn't a bag -/
structure LAt (H : Hp) (b o l : Addr) (xs : List V) : Prop where
  at_ : H l = some (.lst xs)
  nb : l ≠ b
  no : l ≠ o
theorem LAt.step {H H' : Hp} {b o l : Addr} {xs : List V} (h : LAt H b o l xs) (e : E2 b o H H') : LAt H' b o l xs := ⟨e _ _ h.nb h.no h.at_ (fun _ z => nomatch z), h.nb, h.no⟩
theorem LAt.new {K : PySem.W.Frag} {T : Addr} {H0 H H' : Hp} {S b o a : Addr} {ns : List Int} {N : Net} (B : Bun K T H0 H S b o a ns N) {l : Addr} {xs : List V} (f : H l = none) (e : H' l = some (.lst xs)) : LAt H' b o l xs := ⟨e, (B.bb.fresh f).symm, (B.bo.fresh f).symm⟩
theorem sql_ext {K : PySem.W.Frag} {H H' : Hp} {S : Addr} {xs : List V} (h : SqL K H S xs) (e : ExtN H H') : SqL K H' S xs := by
  rcases h with (h | ⟨o, h⟩) | h
  · exact .inl (.inl (e _ _ h fun _ z => nomatch z))
  · exact .inl (.inr ⟨o, e _ _ h fun _ z => nomatch z⟩)
  · exact .inr h
end K47
set_option maxHeartbeats 4000000
/-! K47Help: small facts for the law's reading. -/
namespace K47
open PySem PySem.Spec PyProof.Rows L2
open LamX (ExtN Tabs)
theorem rng6 (L : Int) : 3 ≤ (if (if L < 6 then L else 6) > 3 then (if L < 6 then L else 6) else 3) ∧ (if (if L < 6 then L else 6) > 3 then (if L < 6 then L else 6) else 3) ≤ (6 : Int) := by
  by_cases h : L < 6
  · rw [if_pos h]
    by_cases h2 : L > 3
    · rw [if_pos h2]
      omega
    · rw [if_neg h2]
      omega
  · rw [if_neg h, if_pos (by decide)]
    omega
theorem Fr2.none {H : Hp} {b : Addr} (h : H b = none) : Fr2 H b := fun o e => by
  rw [h] at e
  cases e
theorem cut_back (out : List Str) (b : Nat) (h1 : 1 ≤ b) (h2 : b ≤ out.length) : cutV (out.map V.str).reverse (some 1) (some (b : Int)) = ((out.reverse.take b).drop 1).map V.str := by
  unfold cutV
  have e1 : (some 1 : Option Int) = some ((1 : Nat) : Int) := rfl
  rw [e1, HT.sIx_nat, HT.sIx_nat, ← List.map_reverse, List.length_map, List.length_reverse, Nat.min_eq_left h2, Nat.min_eq_left (show 1 ≤ out.length by omega), ← List.map_drop, ← List.map_take, List.drop_take]
theorem cut_from1 (ls : List Str) : cutV (ls.map V.str) (some 1) none = (ls.drop 1).map V.str := by
  unfold cutV
  have e1 : (some 1 : Option Int) = some ((1 : Nat) : Int) := rfl
  rw [e1, HT.sIx_nat, HT.sIx_none, List.length_map]
  by_cases h : 1 ≤ ls.length
  · rw [Nat.min_eq_left h, ← List.map_drop, List.take_of_length_le (by rw [List.length_map, List.length_drop]; omega)]
  · have e : ls = [] := List.length_eq_zero_iff.mp (by omega)
    rw [e]
    rfl
theorem cut_to (ls : List Str) (k : Nat) (h : k ≤ ls.length) : cutV (ls.map V.str) none (some (k : Int)) = (ls.take k).map V.str := by
  unfold cutV
  rw [HT.sIx_nat, HT.sIx_none, List.drop_zero, List.length_map, Nat.sub_zero, Nat.min_eq_left h, List.map_take]
theorem cut_ret (r : Ret) : cutV (retV r) none (some 8) ++ [.str "laden", .str "whole"] = retV { r with load := "laden" } := rfl
theorem cut_ret_ne (r : Ret) : cutV (retV r) none (some 8) ≠ [] := fun h => by
  have h2 : (V.str "return") :: _ = ([] : List V) := h
  cases h2
theorem Bun.write {K : PySem.W.Frag} {T : Addr} {H0 H : Hp} {S b o a l : Addr} {ns : List Int} {N : Net} {xs ys : List V} (B : Bun K T H0 H S b o a ns N) (f : Fr2 H0 l) (h : LAt H b o l xs) : Bun K T H0 (upd H l (.lst ys)) S b o a ns N := by
  refine ⟨fun c u hc n => ?_, B.bb.upd h.nb.symm, B.bo.upd h.no.symm, B.ne, B.fb, B.fo, B.net.keep (TK.write h.at_ .lst), Tabs.kb B.tabs .write h.at_ (fun _ z => nomatch z) (fun _ z => nomatch z)⟩
  have : c ≠ l := fun z => by
    subst z
    obtain ⟨ps, q⟩ := f u hc
    exact n ps q
  rw [upd_ne this]
  exact B.ext c u hc n
theorem LAt.write {H : Hp} {b o l m : Addr} {xs ys : List V} (h : LAt H b o l xs) (n : l ≠ m) : LAt (upd H m (.lst ys)) b o l xs := ⟨by rw [upd_ne n]; exact h.at_, h.nb, h.no⟩
theorem LAt.same {H H' : Hp} {b o l : Addr} {xs : List V} (h : LAt H b o l xs) (s : Same H H') : LAt H' b o l xs := ⟨s _ _ h.at_, h.nb, h.no⟩
theorem Bun.fresh {K : PySem.W.Frag} {T : Addr} {H0 H : Hp} {S b o a l : Addr} {ns : List Int} {N : Net} (B : Bun K T H0 H S b o a ns N) (h : H l = none) : Fr2 H0 l := Fr2.of B.ext h
theorem E2.write {b o l : Addr} {H H' : Hp} {ys : List V} (e : E2 b o H H') (f : H l = none) : E2 b o H (upd H' l (.lst ys)) := e.new (Fr2.none f)
theorem dp_ints {K : PySem.W.Frag} {H : Hp} : ∀ zs : List Int, DpAll K H (zs.map V.int) (zs.map PyData.int)
  | [] => .nil
  | z :: zs => .cons (.int z) (dp_ints zs)
theorem shaped_ints (zs : List Int) (h : zs.length ≤ 1) : SeqAt.shaped (.list (zs.map PyData.int)) = true := by
  match zs, h with
  | [], _ => simp [SeqAt.shaped, PyData.canLay0, PyData.depth, PyData.depthAll, PyData.canLayAll0]
  | [z], _ => simp [SeqAt.shaped, PyData.canLay0, PyData.depth, PyData.depthAll, PyData.canLayAll0]
end K47
set_option maxHeartbeats 8000000
/-! K47Law: the law's def. -/
namespace K47
open PySem PySem.Spec PyProof.Rows L2
open LamX (ExtN Tabs)
structure Laws (K : PySem.W.Frag) (mg : Str → Option Value) (base : Heap) (C T : Addr) : Prop where
  hists : Hists K mg base C T
  hist : ∃ f fd, Fn K "history" sHistory f fd ∧ mg "history" = some (.ref f)
  astray : ∃ f fd, Fn K "astray" sAstray f fd ∧ mg "astray" = some (.ref f)
  papers : ∃ f fd, Fn K "papers_by_number" sByNum f fd ∧ mg "papers_by_number" = some (.ref f)
  kept : ∃ f fd, Fn K "kept_behind" sKept f fd ∧ mg "kept_behind" = some (.ref f)
  bag : ∃ f fd, Fn K "_law_bag" sBag f fd ∧ mg "_law_bag" = some (.ref f)
  take : ∃ f fd, Fn K "_law_take" sTake f fd ∧ mg "_law_take" = some (.ref f)
  names : ∃ f fd, Fn K "_law_names" sNames f fd ∧ mg "_law_names" = some (.ref f)
  net : ∃ f fd, Fn K "_law_net" sNet f fd ∧ mg "_law_net" = some (.ref f)
  on : ∃ f fd, Fn K "_law_on" sOn f fd ∧ mg "_law_on" = some (.ref f)
  out : ∃ f fd, Fn K "_law_out" sOut f fd ∧ mg "_law_out" = some (.ref f)
  told : ∃ f fd, Fn K "_law_told" sTold f fd ∧ mg "_law_told" = some (.ref f)
  ma : mg "abs" = none
  mi : mg "int" = none
  mx : mg "max" = none
  me : mg "enumerate" = none
  mz : mg "zip" = none
section
variable {P : Program} {w : World} {K : PySem.W.Frag} {mg : Str → Option Value} {base : Heap}
abbrev nLaw : List Str := ["_law_script", "_law_k", "_law_bag_here", "_law_other", "_law_net_here", "_law_line", "_law_out_here", "_law_back", "_law_lines", "_law_returns", "_law_at", "_law_one", "_law_over", "_law_load", "_law_kept", "_law_on_here", "_law_last", "_law_due", "_law_paper"]
theorem scLaw : FnScope nLaw ["_law_script"] (defScope sLaw) := ⟨rfl, rfl, rfl, by decide +kernel, rfl, by decide +kernel, by decide +kernel⟩
def spLaw (K : PySem.W.Frag) (T : Addr) : Sp := fun vs H Q _ => ∃ (S : Addr) (ns : List Int), vs = [.ref S] ∧ SqL K H S (ns.map V.int) ∧ ns.length ≤ 63 ∧ Tabs (TT T) H ∧ ∀ (H' : Hp), Q (.bl true) H'
theorem ok_law {f C T : Addr} {fd : FuncData} (F : Fn K "law" sLaw f fd) (S : Laws K mg base C T) : FnOk P w K mg base CX0 11 f fd ["_law_script"] (spLaw K T) := by
  obtain ⟨fHi, fdHi, FHi, gHi⟩ := S.hist
  obtain ⟨fAs, fdAs, FAs, gAs⟩ := S.astray
  obtain ⟨fPa, fdPa, FPa, gPa⟩ := S.papers
  obtain ⟨fKe, fdKe, FKe, gKe⟩ := S.kept
  obtain ⟨fB, fdB, FB, gB⟩ := S.bag
  obtain ⟨fT, fdT, FT, gT⟩ := S.take
  obtain ⟨fNa, fdNa, FNa, gNa⟩ := S.names
  obtain ⟨fN, fdN, FN, gN⟩ := S.net
  obtain ⟨fO, fdO, FO, gO⟩ := S.on
  obtain ⟨fU, fdU, FU, gU⟩ := S.out
  obtain ⟨fX, fdX, FX, gX⟩ := S.told
  have ml : mg "len" = none := S.hists.chs.ml
  have mr : mg "range" = none := S.hists.chs.mr
  have mm : mg "min" = none := S.hists.chs.mm
  have mt : mg "tuple" = none := S.hists.chs.mt
  have md : mg "dict" = none := S.hists.chs.ch.roads.md
  have mli : mg "list" = none := S.hists.chs.ch.roads.mli
  have bB : Binds K fdB ["_law_script", "_law_at"] [] := FB.bindsN fun _ _ _ _ _ _ us hl => match us, hl with | [_, _], _ => rfl
  have bT : Binds K fdT ["_law_bag_here", "_law_many"] [] := FT.bindsN fun _ _ _ _ _ _ us hl => match us, hl with | [_, _], _ => rfl
  have bNa : Binds K fdNa ["_law_bag_here", "_law_many"] [] := FNa.bindsN fun _ _ _ _ _ _ us hl => match us, hl with | [_, _], _ => rfl
  have bN : Binds K fdN ["_law_bag_here"] [] := FN.bindsN fun _ _ _ _ _ _ us hl => match us, hl with | [_], _ => rfl
  have bO : Binds K fdO ["_law_net_here", "_law_at", "_law_over", "_law_day", "_law_load"] [] := FO.bindsN fun _ _ _ _ _ _ us hl => match us, hl with | [_, _, _, _, _], _ => rfl
  have bU : Binds K fdU ["_law_bag_here", "_law_net_here", "_law_line"] [] := FU.bindsN fun _ _ _ _ _ _ us hl => match us, hl with | [_, _, _], _ => rfl
  have bX : Binds K fdX ["_law_bag_here", "_law_net_here", "_law_line", "_law_returns"] [] := FX.bindsN fun _ _ _ _ _ _ us hl => match us, hl with | [_, _, _, _], _ => rfl
  have GB : FnOk P w K mg base CX0 1 fB fdB ["_law_script", "_law_at"] (spBag K) := ok_bag FB ml S.ma
  have GT : FnOk P w K mg base CX0 1 fT fdT ["_law_bag_here", "_law_many"] spTake := ok_take FT
  have GN : FnOk P w K mg base CX0 3 fN fdN ["_law_bag_here"] spNet := ok_net FN FT bT gT FNa bNa gNa mr S.mi mt
  have GO : FnOk P w K mg base CX0 1 fO fdO ["_law_net_here", "_law_at", "_law_over", "_law_day", "_law_load"] spOn := ok_on FO
  have GU : FnOk P w K mg base CX0 2 fU fdU ["_law_bag_here", "_law_net_here", "_law_line"] spOut := ok_out FU FT bT gT FO bO gO mr ml
  have GX : FnOk P w K mg base CX0 10 fX fdX ["_law_bag_here", "_law_net_here", "_law_line", "_law_returns"] (spTold T) := ok_told FX FT bT gT FHi gHi S.hists FAs gAs FPa gPa FKe gKe md ml mli
  refine F.ok scLaw (fun vs H Q E h => ?_) (fun cdv A outer s H vs Q E hr h => ?_)
  · obtain ⟨b, _, rfl, _⟩ := h
    rfl
  · obtain ⟨sc, ns, rfl, hS, l63, hT, k⟩ := h
    have hr1 : Room 1 _ := hr.mono (by decide)
    have hr2 : Room 2 _ := hr.mono (by decide)
    have hr3 : Room 3 _ := hr.mono (by decide)
    refine ⟨_, PSs.nox (pss_cons (ps_for PassesOwn.never rfl (pi_range1 (by rfl) mr (pa_cons (pe_callB (call_max2 rfl) (by rfl) S.mx PyProof.Rows.boot_max (pa_cons pe_int (pa_cons (pe_callB (call_min2 rfl) (by rfl) mm PyProof.Rows.boot_min
          (pa_cons pe_int (pa_cons (pe_op op_fdiv (pe_callB call_len_seq (by rfl) ml PySem.boot_len (pa_cons (pv 0) pa_nil)) pe_int) pa_nil))) pa_nil))) pa_nil)) (pg_name (i := 1) scLaw.nd rfl (.inl rfl))
        (pss_cons (ps_par (i := 2) (j := 3) (by rfl) scLaw.nd rfl rfl (by decide) rfl rfl (pa_cons (pe_call GB hr1 (by rfl) gB FB.kp bB .nil pass0 (pa_cons (pv 0) (pa_cons (pe_op op_mul pe_int (pv 1)) pa_nil)))
            (pa_cons (pe_call GB hr1 (by rfl) gB FB.kp bB .nil pass0 (pa_cons (pv 0) (pa_cons (pe_op op_add (pe_op op_mul pe_int (pv 1)) pe_int) pa_nil))) pa_nil)) (by rfl))
        (pss_cons (ps_set (i := 4) scLaw.nd rfl (.inr rfl) (pe_call GN hr3 (by rfl) gN FN.kp bN .nil pass0 (pa_cons (pv 2) pa_nil)))
        (pss_cons (ps_set (i := 5) scLaw.nd rfl (.inl rfl) (pe_ix ix_tup (pe_ix ix_tup (pv 4) pe_int (fun _ _ => rfl)) (pe_call GT hr1 (by rfl) gT FT.kp bT .nil pass0 (pa_cons (pv 2) (pa_cons (pe_callB call_len_seq (by rfl) ml PySem.boot_len (pa_cons (pe_ix ix_tup (pv 4) pe_int (fun _ _ => rfl)) pa_nil)) pa_nil))) (fun _ _ => rfl)))
        (pss_cons (ps_set (i := 6) scLaw.nd rfl (.inl rfl) (pe_call GU hr2 (by rfl) gU FU.kp bU .nil pass0 (pa_cons (pv 3) (pa_cons (pv 4) (pa_cons (pv 5) pa_nil)))))
        (pss_cons (ps_set (i := 7) scLaw.nd rfl (.inl rfl) (pe_op op_add pe_int (pe_call GT hr1 (by rfl) gT FT.kp bT .nil pass0 (pa_cons (pv 3) (pa_cons (pe_callB call_len_seq (by rfl) ml PySem.boot_len (pa_cons (pv 6) pa_nil)) pa_nil)))))
        (pss_cons (ps_set (i := 8) scLaw.nd rfl (.inr rfl) (pe_op op_cat (pv 6) (pe_slice sl_list (pe_revL (pv 6)) (po_some pe_int) (po_some (pv 7)))))
        (pss_cons (ps_set (i := 9) scLaw.nd rfl (.inl rfl) (pe_lst pa_nil))
        (pss_cons (ps_forEZ (g := gTup K 2 (gCons (gName 10) (gCons (gTup K 2 (gCons (gName 11) (gCons (gName 12) gNil))) gNil))) PassesOwn.never rfl (by rfl) S.me (by rfl) S.mz (pa_cons (pv 8) (pa_cons (pe_slice sl_list (pv 8) (po_some pe_int) po_none) pa_nil))
          (pg_tup rfl (pgs_cons (pg_name (i := 10) scLaw.nd rfl (Or.inl rfl)) (pgs_cons (pg_tup rfl (pgs_cons (pg_name (i := 11) scLaw.nd rfl (Or.inl rfl)) (pgs_cons (pg_name (i := 12) scLaw.nd rfl (Or.inl rfl)) pgs_nil))) pgs_nil)))
          (C8.pss_cut (ps_set (i := 13) scLaw.nd rfl (.inl rfl) (pe_ifExp (pt_cmpR op_lt (pe_op op_add (pv 10) pe_int) (pe_callB call_len_seq (by rfl) ml PySem.boot_len (pa_cons (pv 6) pa_nil)) (nomark _)) pe_str pe_str))
          (pss_one (ps_expr (pe_bm PySem.F.plainAttrs_list PySem.F.slot_list_append PySem.F.type_list_append mt_append (pv 9) (pa_cons (pe_call GO hr1 (by rfl) gO FO.kp bO .nil pass0 (pa_cons (pv 4) (pa_cons (pv 11) (pa_cons (pv 12)
            (pa_cons (pe_op op_add (pe_op op_add pe_int (pe_op op_mul pe_int (pv 10))) (pe_call GT hr1 (by rfl) gT FT.kp bT .nil pass0 (pa_cons (pv 2) (pa_cons pe_int pa_nil)))) (pa_cons (pv 13) pa_nil)))))) pa_nil))))))
        (pss_cons (ps_if (pt_cmpR (op_neN hr.units) (pe_call GX hr (by rfl) gX FX.kp bX .nil pass0 (pa_cons (pv 2) (pa_cons (pv 4) (pa_cons (pv 5) (pa_cons (pv 9) pa_nil))))) (pe_lst pa_nil) (nomark _)) (pss_one (ps_ret pe_bl)) pss_nil)
        (pss_cons (ps_set (i := 14) scLaw.nd rfl (.inl rfl) (pe_slice sl_list (pv 6) po_none (po_some (pe_op op_add (pe_op op_sub (pe_callB call_len_seq (by rfl) ml PySem.boot_len (pa_cons (pv 6) pa_nil)) (pv 7)) pe_int))))
        (pss_cons (ps_setLc (i := 15) (own := [("_law_one", 11)]) (g := gName 11) (tt := tYes) rfl scLaw.nd rfl rfl (sw_true rfl rfl rfl (by decide +kernel)) (pi_tup (pe_ix ix_tup (pv 4) pe_int (fun _ _ => rfl)))
            (blkOk_by (N := nLaw) (sc := defScope sLaw) (by decide +kernel)) (fun _ _ _ _ _ => pg_name (i := 11) scLaw.nd rfl (Or.inl rfl)) (fun _ _ _ _ _ => pts_nil)
            (fun _ _ _ _ _ => pe_call GO hr1 (by rfl) gO FO.kp bO .nil pass0 (pa_cons (pv 4) (pa_cons (pe_ix (r := rIxL K) ix_list (pv 8) (pe_un un_neg pe_int) (fun _ _ => rfl)) (pa_cons (pv 11) (pa_cons pe_int (pa_cons pe_str pa_nil)))))))
        (pss_cons (ps_setLc (i := 15) (own := [("_law_paper", 18)]) (g := gName 18) rfl scLaw.nd rfl rfl (sw_true rfl rfl rfl (by decide +kernel)) (pi_list (pv 15))
            (blkOk_by (N := nLaw) (sc := defScope sLaw) (by decide +kernel)) (fun _ _ _ _ _ => pg_name (i := 18) scLaw.nd rfl (Or.inl rfl)) (fun _ _ _ _ _ => pts_one (pt_cmpR op_notN (pv 18) pe_non (nomark _)))
            (fun _ _ _ _ _ => pv 18))
        (pss_one (ps_if (pt_cmpR (op_neN hr.units) (pv 15) (pe_lst pa_nil) (nomark _))
          (pss_cons (ps_set (i := 16) scLaw.nd rfl (.inl rfl) (pe_ix ix_list (pv 15) (pe_call GT hr1 (by rfl) gT FT.kp bT .nil pass0 (pa_cons (pv 2) (pa_cons (pe_callB call_len_seq (by rfl) ml PySem.boot_len (pa_cons (pv 15) pa_nil)) pa_nil))) (fun _ _ => rfl)))
          (C8.pss_cut (ps_set (i := 17) scLaw.nd rfl (.inl rfl) (pe_ifExp (PW.pt (pw_and (pt_cmpR op_gt (pe_callB call_len_seq (by rfl) ml PySem.boot_len (pa_cons (pv 14) pa_nil)) pe_int (nomark _))
              (pw_and1 (pt_cmpR op_ne (pe_ix ix_tup (pv 16) pe_int (fun _ _ => rfl)) (pe_ix ix_list (pv 14) (pe_un un_neg pe_int) (fun _ _ => rfl)) (nomark _))))) (pe_lst (pa_cons (pe_ix ix_tup (pv 16) pe_int (fun _ _ => rfl)) pa_nil)) (pe_lst pa_nil)))
          (pss_cons (ps_if (pt_cmpR (op_neD hr.units) (pe_call GX hr (by rfl) gX FX.kp bX .nil pass0 (pa_cons (pv 2) (pa_cons (pv 4) (pa_cons (pv 5) (pa_cons (pe_op op_cat (pv 9) (pe_lst (pa_cons (pv 16) pa_nil))) pa_nil))))) (pv 17) (nomark _)) (pss_one (ps_ret pe_bl)) pss_nil)
          (pss_one (ps_if (pt_cmpR (op_neN hr.units) (pe_call GX hr (by rfl) gX FX.kp bX .nil pass0 (pa_cons (pv 2) (pa_cons (pv 4) (pa_cons (pv 5) (pa_cons (pe_op op_cat (pv 9) (pe_lst (pa_cons
              (pe_op op_catT (pe_slice sl_tup (pv 16) po_none (po_some pe_int)) (pe_tup (pa_cons pe_str (pa_cons pe_str pa_nil)))) pa_nil))) pa_nil))))) (pe_lst pa_nil) (nomark _)) (pss_one (ps_ret pe_bl)) pss_nil)))))
          pss_nil)))))))))))))))
      (pss_one (ps_ret pe_bl))), ?_⟩
    have hM := rng6 (((ns.map V.int).length : Int) / 2)
    refine ⟨.ref sc, rfl, sc, _, rfl, .inl hS, _, 2, rfl, rfl, ⟨by decide, by omega⟩, 6, _, rfl, 3, _, rfl, _, rfl, by omega, by omega, ?_⟩
    refine for_range (lo := 0) (fun i σ H' => (∃ y1 y2 y3 y4 y5 y6 y7 y8 y9 y10 y11 y12 y13 y14 y15 y16 y17 y18 : Option V, σ = [some (.ref sc), y1, y2, y3, y4, y5, y6, y7, y8, y9, y10, y11, y12, y13, y14, y15, y16, y17, y18]) ∧ SqL K H' sc (ns.map V.int) ∧ Tabs (TT T) H')
      ⟨⟨none, none, none, none, none, none, none, none, none, none, none, none, none, none, none, none, none, none, rfl⟩, hS, hT⟩ ?_ (fun σ H' _ => k H')
    rintro i σ H0 hi ⟨⟨y1, y2, y3, y4, y5, y6, y7, y8, y9, y10, y11, y12, y13, y14, y15, y16, y17, y18, rfl⟩, hS0, hT0⟩
    have hi6 : i < 6 := by
      have h2 := hM.2
      omega
    -- the bags
    refine ⟨.ref sc, rfl, _, rfl, 2, _, rfl, rfl, .inl ⟨by decide, by decide⟩, sc, _, ns, rfl, hS0, l63, by omega, by omega, fun b H1 s1 fb bb1 => ?_⟩
    have hS1 : SqL K H1 sc (ns.map V.int) := sql_ext hS0 fun c u h _ => s1 c u h
    refine ⟨.ref sc, rfl, _, rfl, 2, _, rfl, rfl, .inl ⟨by decide, by decide⟩, _, 1, rfl, rfl, sc, _, ns, rfl, hS1, l63, by omega, by omega, fun o H2 s2 fo bo2 => ?_⟩
    refine ⟨_, _, rfl, ?_⟩
    have s12 := s1.trans s2
    have bb2 := bb1.keep s2
    have nbo : b ≠ o := bb1.fresh fo
    -- the net
    refine ⟨.ref b, rfl, b, rfl, bb2, fun a N H3 bb3 k3 net3 ok => ?_⟩
    have B3 : Bun K T H0 H3 sc b o a ns N := by
      obtain ⟨g, r, e, q⟩ := bo2
      exact ⟨ExtN.kb (ExtN.same (LamX.ExtN.refl H0) s12) (Fr2.none fb) k3, bb3, ⟨g, r, k3 _ _ e nbo.symm, q⟩, nbo, Fr2.none fb, Fr2.none (s1.free fo), net3, bb2.tabs (Tabs.same hT0 s12) k3⟩
    -- the line
    obtain ⟨l, st, j, t, sa, ja, hI⟩ := id B3.net
    refine ⟨.ref a, rfl, a, _, 0, .ref l, rfl, rfl, SqT.of hI.top, rfl, .ref b, rfl, .ref a, rfl, a, _, 0, .ref l, rfl, rfl, SqT.of hI.top, rfl, l, _, rfl, .inr (SqT.of hI.ln), b, _, rfl, bb3, ?_, ?_, fun d H4 d0 d1 bb4 k4 => ?_⟩
    · rw [List.length_map]
      have := ok.l0
      omega
    · rw [List.length_map]
      have := ok.l1
      omega
    rw [List.length_map] at d1
    have B4 := B3.drawB k4 bb4
    have eln4 : H4 l = some (.tup (N.lines.map V.str)) := (B3.e2_tk (.kb k4)).t _ _ hI.ln
    obtain ⟨line, _, hlineV⟩ := strs_at N.lines (i := d.toNat) (by omega)
    refine ⟨l, _, d, .str line, rfl, rfl, SqT.of eln4, at_of (j := d.toNat) (by omega) hlineV, ?_⟩
    -- out
    refine ⟨.ref o, rfl, .ref a, rfl, .str line, rfl, o, a, line, N, rfl, B4.bo, B4.net, ok, fun lo out H5 bo5 k5 flo elo h0 nd l8 ch => ?_⟩
    have B5 := B4.drawO k5 bo5
    have L5 : LAt H5 b o lo (out.map V.str) := LAt.new B4 flo elo
    have hpos : 0 < out.length := (List.getElem?_eq_some_iff.mp h0).1
    -- back
    refine ⟨.ref o, rfl, .ref lo, rfl, lo, _, rfl, .inl (SqL.of elo), o, _, rfl, B5.bo, ?_, ?_, fun d2 H6 e0 e1 bo6 k6 => ?_⟩
    · rw [List.length_map]
      omega
    · rw [List.length_map]
      omega
    rw [List.length_map] at e1
    have B6 := B5.drawO k6 bo6
    have L6 := L5.step (.ko k6)
    obtain ⟨bk, hbk, b1, b2⟩ : ∃ bk : Nat, 1 + d2 = (bk : Int) ∧ 1 ≤ bk ∧ bk ≤ out.length := ⟨(1 + d2).toNat, by omega, by omega, by omega⟩
    refine ⟨1, d2, rfl, rfl, ?_⟩
    have flo0 : Fr2 H0 lo := B4.fresh flo
    clear e0 e1
    -- lines
    refine ⟨.ref lo, rfl, .ref lo, rfl, lo, _, rfl, SqL.of L6.at_, fun rv frv => ?_⟩
    have s7 := same_upd (o := HO.lst (out.map V.str).reverse) frv
    have erv : (upd H6 rv (.lst (out.map V.str).reverse)) rv = some (.lst (out.map V.str).reverse) := upd_same
    generalize upd H6 rv (.lst (out.map V.str).reverse) = H7 at s7 erv
    refine ⟨1, rfl, .int (1 + d2), rfl, 1 + d2, rfl, rv, _, rfl, SqL.of erv, fun sl fsl => ?_⟩
    rw [hbk, cut_back out bk b1 b2]
    have s8 := s7.trans (same_upd (o := HO.lst (((out.reverse.take bk).drop 1).map V.str)) fsl)
    have esl : (upd H7 sl (.lst (((out.reverse.take bk).drop 1).map V.str))) sl = some (.lst (((out.reverse.take bk).drop 1).map V.str)) := upd_same
    generalize upd H7 sl (.lst (((out.reverse.take bk).drop 1).map V.str)) = H8 at s8 esl
    have hll := lines_length out b2
    refine ⟨lo, sl, _, _, rfl, rfl, s8 _ _ L6.at_, esl, ?_, fun ll fll => ?_⟩
    · rw [← List.length_append, ← List.map_append, List.length_map]
      show (lines out bk).length ≤ sizeLine
      exact Nat.le_of_lt (small1000 (by omega))
    have eap : out.map V.str ++ ((out.reverse.take bk).drop 1).map V.str = (lines out bk).map V.str := by rw [← List.map_append]; rfl
    rw [eap]
    have s9 := s8.trans (same_upd (o := HO.lst ((lines out bk).map V.str)) fll)
    have ell : (upd H8 ll (.lst ((lines out bk).map V.str))) ll = some (.lst ((lines out bk).map V.str)) := upd_same
    generalize upd H8 ll (.lst ((lines out bk).map V.str)) = H9 at s9 ell
    have fll6 : H6 ll = none := s8.free fll
    have B9 := B6.same s9
    have L9 := L6.same s9
    have M9 : LAt H9 b o ll ((lines out bk).map V.str) := LAt.new B6 fll6 ell
    -- returns
    refine ⟨Nat.zero_le _, fun lr flr => ?_⟩
    have s10 := same_upd (o := HO.lst []) flr
    have elr : (upd H9 lr (.lst [])) lr = some (.lst []) := upd_same
    have nlo : lo ≠ lr := ne_of_none L9.at_ flr
    have nll : ll ≠ lr := ne_of_none M9.at_ flr
    have flr0 : Fr2 H0 lr := B9.fresh flr
    have B10 := B9.same s10
    have L10 := L9.same s10
    have M10 := M9.same s10
    have R10 : LAt (upd H9 lr (.lst [])) b o lr [] := LAt.new B9 flr elr
    generalize upd H9 lr (.lst []) = H10 at s10 elr B10 L10 M10 R10
    clear s7 s8 s9 erv esl frv fsl fll
    -- the loop over the lines
    refine ⟨.ref ll, rfl, .ref ll, rfl, 1, rfl, ll, _, rfl, SqL.of M10.at_, fun zl fzl => ?_⟩
    rw [cut_from1]
    have s11 := same_upd (o := HO.lst (((lines out bk).drop 1).map V.str)) fzl
    have ezl : (upd H10 zl (.lst (((lines out bk).drop 1).map V.str))) zl = some (.lst (((lines out bk).drop 1).map V.str)) := upd_same
    have nzl : zl ≠ lr := fun z => by
      rw [z, elr] at fzl
      cases fzl
    have B11 := B10.same s11
    have L11 := L10.same s11
    have M11 := M10.same s11
    have R11 := R10.same s11
    have Z11 : LAt (upd H10 zl (.lst (((lines out bk).drop 1).map V.str))) b o zl (((lines out bk).drop 1).map V.str) := LAt.new B10 fzl ezl
    generalize upd H10 zl (.lst (((lines out bk).drop 1).map V.str)) = H11 at s11 ezl B11 L11 M11 R11 Z11
    refine ⟨ll, zl, _, _, rfl, SqL.of M11.at_, SqL.of ezl, fun i' σ H' => ∃ (rs : List (Addr × Ret)) (y10 y11 y12 y13 : Option V), σ = [some (.ref sc), some (.int (0 + (i : Int))), some (.ref b), some (.ref o), some (.ref a), some (.str line), some (.ref lo), some (.int (1 + d2)), some (.ref ll), some (.ref lr), y10, y11, y12, y13, y14, y15, y16, y17, y18] ∧
        Bun K T H0 H' sc b o a ns N ∧ LAt H' b o lo (out.map V.str) ∧ LAt H' b o ll ((lines out bk).map V.str) ∧ LAt H' b o zl (((lines out bk).drop 1).map V.str) ∧ LAt H' b o lr (rs.map fun p => V.ref p.1) ∧ (∀ p ∈ rs, RetAt H' p.1 p.2) ∧ Trip N out bk i' rs,
      ⟨[], y10, y11, y12, y13, rfl, B11, L11, M11, Z11, R11, fun p hp => (nomatch hp), Trip.nil hpos b2⟩, fun i' σ H' ⟨rs, _, _, _, _, _, _, _, M', Z', _⟩ => ⟨SqL.of M'.at_, SqL.of Z'.at_⟩, ?_, ?_⟩
    · rintro i' x y σ H12 T1 T2 hx hy ⟨rs, z10, z11, z12, z13, rfl, B, L, M, Z, R, hrs, tr⟩ n2 n1 ne12
      obtain ⟨x, hx', rfl⟩ := strs_of hx
      obtain ⟨y, hy', rfl⟩ := strs_of hy
      rw [List.getElem?_drop, Nat.add_comm] at hy'
      have hlk := linked_lines ch b1 b2 hx' hy'
      have hi' : i' + 1 < out.length + (bk - 1) := by
        have := (List.getElem?_eq_some_iff.mp hy').1
        omega
      have lrs : rs.length = i' := tr.len
      have sa := same_upd (o := HO.tup [V.str x, V.str y]) n2
      have n1' : (upd H12 T2 (.tup [V.str x, V.str y])) T1 = none := by
        rw [upd_ne ne12]
        exact n1
      have sb := sa.trans (same_upd (o := HO.tup [.int (i' : Nat), .ref T2]) n1')
      have eT1 : (upd (upd H12 T2 (.tup [V.str x, V.str y])) T1 (.tup [.int (i' : Nat), .ref T2])) T1 = some (.tup [.int (i' : Nat), .ref T2]) := upd_same
      have eT2 : (upd (upd H12 T2 (.tup [V.str x, V.str y])) T1 (.tup [.int (i' : Nat), .ref T2])) T2 = some (.tup [V.str x, V.str y]) := by
        rw [upd_ne ne12.symm]
        exact upd_same
      generalize upd (upd H12 T2 (.tup [V.str x, V.str y])) T1 (.tup [.int (i' : Nat), .ref T2]) = H13 at sb eT1 eT2
      have B' := B.same sb
      have L' := L.same sb
      have M' := M.same sb
      have Z' := Z.same sb
      have R' := R.same sb
      have hrs' : ∀ p ∈ rs, RetAt H13 p.1 p.2 := fun p hp => sb _ _ (hrs p hp)
      refine ⟨T1, _, rfl, SqT.of eT1, rfl, .int (i' : Nat), _, rfl, .ref T2, [], rfl, T2, _, rfl, SqT.of eT2, rfl, .str x, _, rfl, .str y, [], rfl, rfl, rfl, ?_⟩
      -- the load
      refine ⟨fun σ' H' => ∃ load : Str, σ' = [some (.ref sc), some (.int (0 + (i : Int))), some (.ref b), some (.ref o), some (.ref a), some (.str line), some (.ref lo), some (.int (1 + d2)), some (.ref ll), some (.ref lr), some (.int (i' : Nat)), some (.str x), some (.str y), some (.str load), y14, y15, y16, y17, y18] ∧ H' = H13 ∧ (load = "empty" → ¬ i' + 1 < out.length), ?_, ?_⟩
      · refine ⟨.int (i' : Nat), rfl, _, 1, rfl, rfl, .ref lo, rfl, lo, _, rfl, .inl (SqL.of L'.at_), _, _, rfl, rfl, _, rfl, ite2 (fun h => ?_) (fun h => ?_)⟩
        · exact ⟨"laden", rfl, rfl, fun e => absurd e (by decide)⟩
        · refine ⟨"empty", rfl, rfl, fun _ hlt => h (decide_eq_true ?_)⟩
          rw [List.length_map]
          omega
      · rintro σ' H' ⟨load, rfl, rfl, hload⟩
        refine ⟨.ref lr, rfl, .inl ⟨rfl, _, SqL.of R'.at_⟩, .ref a, rfl, .str x, rfl, .str y, rfl, .int (i' : Nat), rfl, 5, _, rfl, rfl, .inl ⟨by decide, by decide⟩, 2, _, rfl, rfl, .ref b, rfl, b, 5, rfl, B'.bb, by decide, by decide, fun d3 H14 g0 g1 bb14 k14 => ?_⟩
        have B14 := B'.drawB k14 bb14
        refine ⟨_, d3, rfl, rfl, .str load, rfl, a, x, y, _, load, N, rfl, B14.net, ok, fun v H15 s15 hv => ?_⟩
        rcases hv with ⟨_, hno⟩ | ⟨q, jn, rfl, fq, hby, hq⟩
        · exact absurd hlk hno
        have B15 := B14.same s15
        have E15 : E2 b o _ H15 := (E2.kb k14).trans (.same s15)
        have L15 := L'.step E15
        have M15 := M'.step E15
        have Z15 := Z'.step E15
        have R15 := R'.step E15
        have tk15 := B'.e2_tk E15
        refine ⟨lr, _, _, rfl, rfl, R15.at_, ?_, ?_⟩
        · rw [List.length_map]
          exact small1000 (by omega)
        have tkw : TK H15 (upd H15 lr (.lst ((rs.map fun p => V.ref p.1) ++ [V.ref q]))) := TK.write R15.at_ .lst
        refine ⟨fun c vs hc => tkw.t _ _ (tk15.t _ _ hc), rs ++ [(q, ⟨10 + 3 * (2 + 5 * (i' : Int) + d3), 2 + 5 * (i' : Int) + d3, jn, y, load⟩)], _, _, _, _, rfl, B15.write flr0 R15, L15.write nlo, M15.write nll, Z15.write nzl, ⟨?_, R15.nb, R15.no⟩, fun p hp => ?_, ?_⟩
        · rw [upd_same, List.map_append]
          rfl
        · rcases List.mem_append.mp hp with h | h
          · exact (((hrs' p h).keep tk15).keep tkw)
          · rw [List.mem_singleton.mp h]
            exact hq.keep tkw
        · exact tr.snoc (x := x) hx' hy' hby (by show 2 + 5 * (i' : Int) ≤ 2 + 5 * (i' : Int) + d3; omega) (by show 2 + 5 * (i' : Int) + d3 < 7 + 5 * (i' : Int); omega) rfl hload
    rintro σ H12 ⟨rs, z10, z11, z12, z13, rfl, B, L, M, Z, R, hrs, tr⟩
    have emin : min ((lines out bk).map V.str).length (((lines out bk).drop 1).map V.str).length = (lines out bk).length - 1 := by
      rw [List.length_map, List.length_map, List.length_drop]
      omega
    rw [emin] at tr
    obtain ⟨st0, kp0⟩ := tr.all nd b1 b2 h0
    have goes := tr.goes_all b1 b2
    have l14 := goes.le b2 l8
    have h0l : (lines out bk)[0]? = some line := by
      rw [lines_out out bk hpos]
      exact h0
    -- none of them is astray
    refine ⟨.ref b, rfl, .ref a, rfl, .str line, rfl, .ref lr, rfl, b, a, lr, line, N, rs, rfl, B.bb, B.net, ok, B.tabs, R.at_, R.nb, hrs, goes.day, goes.nums, by omega, goes.chain h0l, fun f1 H13 bb13 ex13 ht13 nf1 ef1 => ?_⟩
    rw [st0] at ef1
    have E13 : E2 b o H12 H13 := .extX ex13
    have B13 := B.told ex13 bb13 ht13
    have L13 := L.step E13
    have M13 := M.step E13
    have R13 := R.step E13
    have hrs13 : ∀ p ∈ rs, RetAt H13 p.1 p.2 := fun p hp => (hrs p hp).keep (B.e2_tk E13)
    clear E13 ex13 L M Z R B hrs B11 L11 M11 Z11 R11 s11 ezl
    refine ⟨Nat.zero_le _, fun e1 he1 => ?_⟩
    have s14 := same_upd (o := HO.lst []) he1
    refine ⟨f1, e1, _, rfl, rfl, SqL.of (s14 _ _ ef1), SqL.of upd_same, _, rfl, ite2 (fun h => absurd h (by decide)) (fun _ => ?_)⟩
    generalize upd H13 e1 (.lst []) = H14 at s14
    have B14 := B13.same s14
    have L14 := L13.same s14
    have M14 := M13.same s14
    have R14 := R13.same s14
    have hrs14 : ∀ p ∈ rs, RetAt H14 p.1 p.2 := fun p hp => s14 _ _ (hrs13 p hp)
    -- what is kept
    have ek : (((out.map V.str).length : Nat) : Int) - (1 + d2) + 1 = ((out.length - bk + 1 : Nat) : Int) := by
      rw [List.length_map]
      omega
    refine ⟨.ref lo, rfl, .ref lo, rfl, lo, _, rfl, .inl (SqL.of L14.at_), .int (1 + d2), rfl, _, 1 + d2, rfl, rfl, _, 1, rfl, rfl, (((out.map V.str).length : Nat) : Int) - (1 + d2) + 1, rfl, lo, _, rfl, SqL.of L14.at_, fun lk flk => ?_⟩
    rw [ek, cut_to out _ (by omega)]
    have s15 := same_upd (o := HO.lst ((out.take (out.length - bk + 1)).map V.str)) flk
    have elk : (upd H14 lk (.lst ((out.take (out.length - bk + 1)).map V.str))) lk = some (.lst ((out.take (out.length - bk + 1)).map V.str)) := upd_same
    have B15 := B14.same s15
    have M15 := M14.same s15
    have R15 := R14.same s15
    have K15 : LAt (upd H14 lk (.lst ((out.take (out.length - bk + 1)).map V.str))) b o lk ((out.take (out.length - bk + 1)).map V.str) := LAt.new B14 flk elk
    have hrs15 : ∀ p ∈ rs, RetAt (upd H14 lk (.lst ((out.take (out.length - bk + 1)).map V.str))) p.1 p.2 := fun p hp => s15 _ _ (hrs14 p hp)
    generalize upd H14 lk (.lst ((out.take (out.length - bk + 1)).map V.str)) = H15 at s15 elk B15 M15 R15 K15 hrs15
    clear s14 s15 elk B13 L13 M13 R13 hrs13 B14 L14 M14 R14 hrs14 ef1
    -- where it may go over
    obtain ⟨z, hz, hzV⟩ := strs_at (lines out bk) (i := (lines out bk).length - 1) (by omega)
    obtain ⟨l', st', j', t', sa', ja', hI'⟩ := id B15.net
    refine ⟨.ref a, rfl, a, _, 0, .ref l', rfl, rfl, SqT.of hI'.top, rfl, l', rfl, ⟨_, SqT.of hI'.ln⟩, fun D hD => ?_⟩
    refine lc_tup (K := K) (a := l') (xs := N.lines.map V.str) (fun j H' => ∃ vs : List V, H' D = some (.lst vs) ∧ Same H15 H' ∧ vs.length ≤ j ∧ ∀ v ∈ vs, v = .non ∨ ∃ (p : Addr) (r : Ret), v = .ref p ∧ By N r.jn z r.over ∧ r.num = 1210 ∧ r.day = 400 ∧ r.load = "empty" ∧ RetAt H' p r)
      ⟨[], upd_same, same_upd hD, Nat.le_refl _, fun v hv => (nomatch hv)⟩ (fun j H' _ ⟨_, _, s', _⟩ => SqT.of (s' _ _ hI'.ln)) ?_ ?_
    · rintro j v H16 hv ⟨vs, eD, s16, lvs, hvs⟩
      obtain ⟨y, hy, rfl⟩ := strs_of hv
      have lj : j < 8 := Nat.lt_of_lt_of_le (List.getElem?_eq_some_iff.mp hy).1 ok.l1
      have ell16 := s16 _ _ M15.at_
      refine ⟨rfl, .ref a, rfl, .ref ll, rfl, 1, rfl, ll, _, -1, .str z, rfl, rfl, SqL.of ell16, atI_back (k := 1) rfl (by decide) (by rw [List.length_map]; omega) (by rw [List.length_map]; exact hzV), .str y, rfl, a, z, y, 400, "empty", N, rfl, B15.net.keep (TK.of s16), ok, fun u H17 s17 hu => ?_⟩
      have eD17 := s17 _ _ eD
      have tkw : TK H17 (upd H17 D (.lst (vs ++ [u]))) := TK.write eD17 .lst
      refine ⟨vs, eD17, small1000 (by omega), vs ++ [u], upd_same, same_mut (s16.trans s17) hD, by rw [List.length_append, List.length_singleton]; omega, fun v hv => ?_⟩
      rcases List.mem_append.mp hv with h | h
      · rcases hvs v h with e | ⟨p, r, e1, e2, e3, e4, e5, e6⟩
        · exact .inl e
        · exact .inr ⟨p, r, e1, e2, e3, e4, e5, (e6.keep (TK.of s17)).keep tkw⟩
      · rw [List.mem_singleton.mp h]
        rcases hu with ⟨e, _⟩ | ⟨p, jn, e, _, hby, hq⟩
        · exact .inl e
        · exact .inr ⟨p, _, e, hby, rfl, rfl, rfl, hq.keep tkw⟩
    rintro H16 ⟨vs, eD, s16, lvs, hvs⟩
    rw [List.length_map] at lvs
    refine ⟨.ref D, rfl, D, rfl, ⟨_, SqL.of eD⟩, fun D2 hD2 => ?_⟩
    refine lc_list (K := K) (a := D) (xs := vs) (fun j H' => ∃ ps : List (Addr × Ret), H' D2 = some (.lst (ps.map fun p => V.ref p.1)) ∧ Same H16 H' ∧ ps.length ≤ j ∧ ∀ p ∈ ps, By N p.2.jn z p.2.over ∧ p.2.num = 1210 ∧ p.2.day = 400 ∧ p.2.load = "empty" ∧ RetAt H' p.1 p.2)
      ⟨[], upd_same, same_upd hD2, Nat.le_refl _, fun v hv => (nomatch hv)⟩ (fun j H' _ ⟨_, _, s', _⟩ => SqL.of (s' _ _ eD)) ?_ ?_
    · rintro j v H17 hv ⟨ps, eD2, s17, lps, hps⟩
      have lj : j < 8 := by
        have h1 := (List.getElem?_eq_some_iff.mp hv).1
        have h2 := ok.l1
        omega
      refine ⟨rfl, v, rfl, rfl, _, rfl, ite2 (fun h => ?_) (fun h => ⟨ps, eD2, s17, by omega, hps⟩)⟩
      rcases hvs v (List.mem_of_getElem? hv) with rfl | ⟨p, r, rfl, e2, e3, e4, e5, e6⟩
      · cases h
      · have tkw : TK H17 (upd H17 D2 (.lst ((ps.map fun p => V.ref p.1) ++ [V.ref p]))) := TK.write eD2 .lst
        refine ⟨.ref p, rfl, _, eD2, ?_, ps ++ [(p, r)], ?_, same_mut s17 hD2, by rw [List.length_append, List.length_singleton]; omega, fun q hq => ?_⟩
        · rw [List.length_map]
          exact small1000 (by omega)
        · rw [upd_same, List.map_append]
          rfl
        · rcases List.mem_append.mp hq with h | h
          · obtain ⟨g1, g2, g3, g4, g5⟩ := hps q h
            exact ⟨g1, g2, g3, g4, g5.keep tkw⟩
          · rw [List.mem_singleton.mp h]
            exact ⟨e2, e3, e4, e5, (e6.keep (TK.of s17)).keep tkw⟩
    rintro H17 ⟨ps, eD2, s17, lps, hps⟩
    have s157 := s16.trans s17
    have B17 := B15.same s157
    have R17 := R15.same s157
    have K17 := K15.same s157
    have D17 : LAt H17 b o D2 (ps.map fun p => V.ref p.1) := LAt.new (B15.same s16) hD2 eD2
    have hrs17 : ∀ p ∈ rs, RetAt H17 p.1 p.2 := fun p hp => s157 _ _ (hrs15 p hp)
    have l8' := ok.l1
    clear s157 s16 s17 B15 M15 R15 K15 hrs15 hI' hvs eD
    refine ⟨.ref D2, rfl, Nat.zero_le _, fun e2 he2 => ?_⟩
    have s18 := same_upd (o := HO.lst []) he2
    have ee2 : (upd H17 e2 (.lst [])) e2 = some (.lst []) := upd_same
    refine ⟨D2, e2, _, rfl, rfl, SqL.of (s18 _ _ eD2), SqL.of ee2, _, rfl, ?_⟩
    generalize upd H17 e2 (.lst []) = H18 at s18 ee2
    have B18 := B17.same s18
    have R18 := R17.same s18
    have K18 := K17.same s18
    have D18 := D17.same s18
    have hrs18 : ∀ p ∈ rs, RetAt H18 p.1 p.2 := fun p hp => s18 _ _ (hrs17 p hp)
    have hps18 : ∀ p ∈ ps, By N p.2.jn z p.2.over ∧ p.2.num = 1210 ∧ p.2.day = 400 ∧ p.2.load = "empty" ∧ RetAt H18 p.1 p.2 := fun p hp => let ⟨g1, g2, g3, g4, g5⟩ := hps p hp; ⟨g1, g2, g3, g4, g5.keep (TK.of s18)⟩
    clear s18 ee2 he2 B17 R17 K17 D17 hrs17 hps hD2 eD2
    refine ite2 (fun hne => ?_) (fun _ => ⟨⟨_, _, _, _, _, _, _, _, _, _, _, _, _, _, _, _, _, _, rfl⟩, sql_ext hS0 B18.ext, B18.tabs⟩)
    have hps0 : 0 < ps.length := by
      cases ps with
      | nil => exact absurd hne (by decide)
      | cons p r => exact Nat.succ_pos _
    -- the last
    refine ⟨.ref D2, rfl, .ref b, rfl, .ref D2, rfl, D2, _, rfl, .inl (SqL.of D18.at_), b, _, rfl, B18.bb, ?_, ?_, fun d4 H19 g0 g1 bb19 k19 => ?_⟩
    · rw [List.length_map]
      omega
    · rw [List.length_map]
      omega
    rw [List.length_map] at g1
    have E19 : E2 b o H18 H19 := .kb k19
    have B19 := B18.drawB k19 bb19
    have R19 := R18.step E19
    have K19 := K18.step E19
    have D19 := D18.step E19
    have tk19 := B18.e2_tk E19
    have hrs19 : ∀ p ∈ rs, RetAt H19 p.1 p.2 := fun p hp => (hrs18 p hp).keep tk19
    obtain ⟨q, hq, hqV⟩ : ∃ q, ps[d4.toNat]? = some q ∧ (ps.map fun p => V.ref p.1)[d4.toNat]? = some (.ref q.1) :=
      ⟨ps[d4.toNat]'(by omega), List.getElem?_eq_getElem _, by rw [List.getElem?_map, List.getElem?_eq_getElem (by omega)]; rfl⟩
    obtain ⟨hby, hnum, hday, hload, hqR18⟩ := hps18 q (List.mem_of_getElem? hq)
    have hqR19 : H19 q.1 = some (.tup (retV q.2)) := hqR18.keep tk19
    refine ⟨D2, _, d4, .ref q.1, rfl, rfl, SqL.of D19.at_, at_of (j := d4.toNat) (by omega) hqV, ?_⟩
    clear E19 k19 B18 R18 K18 D18 hrs18 hps18 D19 tk19 bb19
    -- what is due
    refine ⟨fun σ' H' => ∃ (ld : Addr), σ' = [some (.ref sc), some (.int (0 + (i : Int))), some (.ref b), some (.ref o), some (.ref a), some (.str line), some (.ref lo), some (.int (1 + d2)), some (.ref ll), some (.ref lr), z10, z11, z12, z13, some (.ref lk), some (.ref D2), some (.ref q.1), some (.ref ld), y18] ∧ Same H19 H' ∧ H19 ld = none ∧
      H' ld = some (.lst ((if isStray (out.take (out.length - bk + 1)) q.2.over true = true then [q.2.num] else []).map V.int)), ?_, ?_⟩
    · have lk2 : (out.take (out.length - bk + 1)).length = out.length - bk + 1 := by
        rw [List.length_take]
        omega
      generalize hks : out.take (out.length - bk + 1) = ks at *
      have nob : isStray ks q.2.over true = false → ∀ ld, H19 ld = none → (upd H19 ld (.lst [])) ld = some (.lst ((if isStray ks q.2.over true = true then [q.2.num] else []).map V.int)) := fun e ld _ => by
        rw [e, upd_same]
        rfl
      refine ⟨.ref lk, rfl, lk, _, rfl, .inl (SqL.of K19.at_), _, 1, rfl, rfl, _, rfl, ite2 (fun h1 => ?_) (fun h1 => ?_)⟩
      · have h1' : (1 : Int) < ((ks.map V.str).length : Int) := of_decide_eq_true h1
        rw [List.length_map] at h1'
        obtain ⟨y, hy, hyV⟩ := strs_at ks (i := ks.length - 2) (by omega)
        refine ⟨.ref q.1, rfl, q.1, _, 7, .str q.2.over, rfl, rfl, SqT.of hqR19, rfl, .ref lk, rfl, 2, rfl, lk, _, -2, .str y, rfl, rfl, SqL.of K19.at_, atI_back (k := 2) rfl (by decide) (by rw [List.length_map]; omega) (by rw [List.length_map]; exact hyV), rfl, _, rfl, ite2 (fun h3 => ?_) (fun h3 => ?_)⟩
        · refine ⟨.ref q.1, rfl, q.1, _, 1, .int q.2.num, rfl, rfl, SqT.of hqR19, rfl, by show 1 ≤ sizeLine; decide, fun ld hld => ⟨ld, rfl, same_upd hld, hld, ?_⟩⟩
          have hyes : isStray ks q.2.over true = true := by
            show (true && (decide (1 < ks.length) && decide (ks[ks.length - 2]? ≠ some q.2.over))) = true
            rw [decide_eq_true (show 1 < ks.length by omega), hy]
            have h3' : ¬ (decide (V.str q.2.over = V.str y)) = true := by
              intro hh
              have h3 : (!decide (V.str q.2.over = V.str y)) = true := h3
              rw [hh] at h3
              cases h3
            rw [decide_eq_true (show (some y ≠ some q.2.over) from fun e => h3' (decide_eq_true (by rw [Option.some.inj e])))]
            rfl
          rw [hyes, upd_same]
          rfl
        · refine ⟨Nat.zero_le _, fun ld hld => ⟨ld, rfl, same_upd hld, hld, nob ?_ ld hld⟩⟩
          have e : q.2.over = y := by
            by_cases e : q.2.over = y
            · exact e
            · refine absurd ?_ h3
              show (!decide (V.str q.2.over = V.str y)) = true
              rw [decide_eq_false (fun z => e (V.str.inj z))]
              rfl
          show (true && (decide (1 < ks.length) && decide (ks[ks.length - 2]? ≠ some q.2.over))) = false
          rw [hy, e, decide_eq_false (show ¬ (some y ≠ some y) from fun z => z rfl), Bool.and_false, Bool.and_false]
      · refine ite2 (fun h => absurd h (by decide)) (fun _ => ⟨Nat.zero_le _, fun ld hld => ⟨ld, rfl, same_upd hld, hld, nob ?_ ld hld⟩⟩)
        have h1' : ¬ (1 : Int) < ((ks.map V.str).length : Int) := fun z => h1 (decide_eq_true z)
        rw [List.length_map] at h1'
        show (true && (decide (1 < ks.length) && decide (ks[ks.length - 2]? ≠ some q.2.over))) = false
        rw [decide_eq_false (show ¬ 1 < ks.length by omega), Bool.false_and, Bool.and_false]
    rintro σ' H20 ⟨ld, rfl, s20, fld, eld⟩
    have B20 := B19.same s20
    have R20 := R19.same s20
    have W20 : LAt H20 b o ld _ := LAt.new B19 fld eld
    have hrs20 : ∀ p ∈ rs, RetAt H20 p.1 p.2 := fun p hp => s20 _ _ (hrs19 p hp)
    have hqR20 : H20 q.1 = some (.tup (retV q.2)) := s20 _ _ hqR19
    clear s20 B19 R19 K19 hrs19 hqR19 fld eld
    have hzl : (lines out bk)[rs.length]? = some z := by
      rw [tr.len]
      exact hz
    have days : ∀ p ∈ rs, p.2.day < 400 := fun p hp => by
      have := tr.dy p hp
      omega
    -- empty
    refine ⟨.ref b, rfl, .ref a, rfl, .str line, rfl, .ref lr, rfl, .ref q.1, rfl, by show 1 ≤ sizeLine; decide, fun e3 he3 => ?_⟩
    have s21 := same_upd (o := HO.lst [.ref q.1]) he3
    have ee3 : (upd H20 e3 (.lst [.ref q.1])) e3 = some (.lst [.ref q.1]) := upd_same
    generalize upd H20 e3 (.lst [.ref q.1]) = H21 at s21 ee3
    refine ⟨lr, e3, _, _, rfl, rfl, s21 _ _ R20.at_, ee3, ?_, fun l3 fl3 => ?_⟩
    · rw [List.length_map]
      show rs.length + 1 ≤ sizeLine
      exact Nat.le_of_lt (small1000 (by omega))
    have s22 := s21.trans (same_upd (o := HO.lst ((rs.map fun p => V.ref p.1) ++ [.ref q.1])) fl3)
    have el3 : (upd H21 l3 (.lst ((rs.map fun p => V.ref p.1) ++ [.ref q.1]))) l3 = some (.lst ((rs ++ [q]).map fun p => V.ref p.1)) := by
      rw [upd_same, List.map_append]
      rfl
    generalize upd H21 l3 (.lst ((rs.map fun p => V.ref p.1) ++ [.ref q.1])) = H22 at s22 el3
    have B22 := B20.same s22
    have R22 := R20.same s22
    have W22 := W20.same s22
    have L22 : LAt H22 b o l3 _ := LAt.new (B20.same s21) fl3 el3
    have g2 : Goes N (lines out bk ++ [q.2.over]) (rs ++ [q]) := goes.snoc hzl hby (fun p hp => by rw [hday]; exact days p hp) (by rw [hnum, hday]; rfl)
    have h02 : (lines out bk ++ [q.2.over])[0]? = some line := by
      rw [List.getElem?_append_left (by omega)]
      exact h0l
    have hrs22 : ∀ p ∈ rs ++ [q], RetAt H22 p.1 p.2 := fun p hp => by
      rcases List.mem_append.mp hp with h | h
      · exact s22 _ _ (hrs20 p h)
      · rw [List.mem_singleton.mp h]
        exact s22 _ _ hqR20
    refine ⟨b, a, l3, line, N, rs ++ [q], rfl, B22.bb, B22.net, ok, B22.tabs, el3, L22.nb, hrs22, g2.day, g2.nums, by rw [List.length_append, List.length_singleton]; omega, g2.chain h02, fun f2 H23 bb23 ex23 ht23 nf2 ef2 => ?_⟩
    rw [List.map_append, show [q].map trip = [trip q] from rfl, there_back_more st0 kp0, show (trip q).2.2 = true from decide_eq_true hload, show (trip q).2.1 = q.2.over from rfl, show (trip q).1 = q.2.num from rfl] at ef2
    have E23 : E2 b o H22 H23 := .extX ex23
    have B23 := B22.told ex23 bb23 ht23
    have R23 := R22.step E23
    have W23 := W22.step E23
    have hrs23 : ∀ p ∈ rs, RetAt H23 p.1 p.2 := fun p hp => (hrs22 p (List.mem_append_left _ hp)).keep (B22.e2_tk E23)
    have hqR23 : H23 q.1 = some (.tup (retV q.2)) := (hrs22 q (List.mem_append_right _ List.mem_cons_self)).keep (B22.e2_tk E23)
    clear E23 ex23 hrs22 L22 W22 R22 B22 el3 s22 s21 ee3 hrs20 hqR20 B20 R20 W20
    have hsh : SeqAt.shaped (.list ((if isStray (out.take (out.length - bk + 1)) q.2.over true = true then [q.2.num] else []).map PyData.int)) = true := shaped_ints _ (by split; exact Nat.le_refl _; exact Nat.zero_le _)
    refine ⟨.ref ld, rfl, _, _, .lst (SqL.of ef2) (dp_ints _), .lst (SqL.of W23.at_) (dp_ints _), hsh, hsh, _, rfl, ite2 (fun h => ?_) (fun _ => ?_)⟩
    · rw [SeqAt.eqv_refl _ (SeqAt.canLay_of_shaped hsh)] at h
      cases h
    -- laden
    refine ⟨.ref b, rfl, .ref a, rfl, .str line, rfl, .ref lr, rfl, .ref q.1, rfl, 8, rfl, q.1, _, rfl, SqT.of hqR23, fun h => absurd (show (8 : Nat) = 10 from h.2) (by decide), fun p8 f8 => ?_⟩
    have s24 := same_upd (o := HO.tup (cutV (retV q.2) none (some 8))) f8
    have e8 : (upd H23 p8 (.tup (cutV (retV q.2) none (some 8)))) p8 = some (.tup (cutV (retV q.2) none (some 8))) := upd_same
    generalize upd H23 p8 (.tup (cutV (retV q.2) none (some 8))) = H24 at s24 e8
    refine ⟨by show 2 ≤ sizeLine; decide, fun p2 f2' => ?_⟩
    have s25 := same_upd (o := HO.tup [.str "laden", .str "whole"]) f2'
    have ep2 : (upd H24 p2 (.tup [.str "laden", .str "whole"])) p2 = some (.tup [.str "laden", .str "whole"]) := upd_same
    have e8' := s25 _ _ e8
    have s245 := s24.trans s25
    generalize upd H24 p2 (.tup [.str "laden", .str "whole"]) = H25 at s25 ep2 e8' s245
    refine ⟨p8, p2, _, _, rfl, rfl, SqT.of e8', SqT.of ep2, cut_ret_ne _, (by show 8 + 2 ≤ sizeLine; decide), fun h => (by cases h), fun _ p3 f3 => ?_⟩
    rw [cut_ret]
    have s26 := s245.trans (same_upd (o := HO.tup (retV { q.2 with load := "laden" })) f3)
    have e3R : (upd H25 p3 (.tup (retV { q.2 with load := "laden" }))) p3 = some (.tup (retV { q.2 with load := "laden" })) := upd_same
    generalize upd H25 p3 (.tup (retV { q.2 with load := "laden" })) = H26 at s26 e3R
    refine ⟨by show 1 ≤ sizeLine; decide, fun e4 he4 => ?_⟩
    have s27 := same_upd (o := HO.lst [.ref p3]) he4
    have ee4 : (upd H26 e4 (.lst [.ref p3])) e4 = some (.lst [.ref p3]) := upd_same
    have s267 := s26.trans s27
    have e3R' := s27 _ _ e3R
    generalize upd H26 e4 (.lst [.ref p3]) = H27 at s27 ee4 s267 e3R'
    refine ⟨lr, e4, _, _, rfl, rfl, s267 _ _ R23.at_, ee4, ?_, fun l5 fl5 => ?_⟩
    · rw [List.length_map]
      show rs.length + 1 ≤ sizeLine
      exact Nat.le_of_lt (small1000 (by omega))
    have s28 := s267.trans (same_upd (o := HO.lst ((rs.map fun p => V.ref p.1) ++ [.ref p3])) fl5)
    have e3R2 := same_upd (o := HO.lst ((rs.map fun p => V.ref p.1) ++ [.ref p3])) fl5 _ _ e3R'
    have el5 : (upd H27 l5 (.lst ((rs.map fun p => V.ref p.1) ++ [.ref p3]))) l5 = some (.lst ((rs ++ [(p3, ({ q.2 with load := "laden" } : Ret))]).map fun p => V.ref p.1)) := by
      rw [upd_same, List.map_append]
      rfl
    generalize upd H27 l5 (.lst ((rs.map fun p => V.ref p.1) ++ [.ref p3])) = H28 at s28 e3R2 el5
    have B28 := B23.same s28
    have L28 : LAt H28 b o l5 _ := LAt.new (B23.same s267) fl5 el5
    have g3 : Goes N (lines out bk ++ [q.2.over]) (rs ++ [(p3, ({ q.2 with load := "laden" } : Ret))]) := goes.snoc (p := (p3, ({ q.2 with load := "laden" } : Ret))) hzl hby (fun p hp => by show p.2.day < q.2.day; rw [hday]; exact days p hp) (by show q.2.num = 10 + 3 * q.2.day; rw [hnum, hday]; rfl)
    have hrs28 : ∀ p ∈ rs ++ [(p3, ({ q.2 with load := "laden" } : Ret))], RetAt H28 p.1 p.2 := fun p hp => by
      rcases List.mem_append.mp hp with h | h
      · exact s28 _ _ (hrs23 p h)
      · rw [List.mem_singleton.mp h]
        exact e3R2
    refine ⟨b, a, l5, line, N, rs ++ [(p3, ({ q.2 with load := "laden" } : Ret))], rfl, B28.bb, B28.net, ok, B28.tabs, el5, L28.nb, hrs28, g3.day, g3.nums, by rw [List.length_append, List.length_singleton]; omega, g3.chain h02, fun f3' H29 bb29 ex29 ht29 nf3 ef3 => ?_⟩
    have hno : strays [line] ((rs ++ [(p3, ({ q.2 with load := "laden" } : Ret))]).map trip) = [] := by
      rw [List.map_append, show [(p3, ({ q.2 with load := "laden" } : Ret))].map trip = [trip (p3, ({ q.2 with load := "laden" } : Ret))] from rfl, there_back_more st0 kp0]
      rfl
    rw [hno] at ef3
    have B29 := B28.told ex29 bb29 ht29
    refine ⟨Nat.zero_le _, fun e5 he5 => ?_⟩
    have s30 := same_upd (o := HO.lst []) he5
    refine ⟨f3', e5, _, rfl, rfl, SqL.of (s30 _ _ ef3), SqL.of upd_same, _, rfl, ite2 (fun h => absurd h (by decide)) (fun _ => ?_)⟩
    have B30 := B29.same s30
    exact ⟨⟨_, _, _, _, _, _, _, _, _, _, _, _, _, _, _, _, _, _, rfl⟩, sql_ext hS0 B30.ext, B30.tabs⟩
end
end K47
set_option maxHeartbeats 0
/-! K47Head: the head, its facts by names. -/
namespace K47
open PySem PySem.Spec PyProof.Rows L2
def dfn (x : Str) (st : Stmt) : He.DefD := ⟨(x, none), x, x, defArgs st, defBody st, defScope st, [], []⟩
def dme (m q : Str) (st : Stmt) : He.DefD := ⟨("Chart", some m), m, q, defArgs st, defBody st, defScope st, [], []⟩
def hfn : List He.DefD := [dfn "papers_by_number" sByNum, dfn "kept_behind" sKept, dfn "astray" sAstray, dfn "places_of" sPlaces, dfn "lines_at" sAt, dfn "lines_beside" sBeside, dfn "steps_to" sSteps, dfn "shortest_road" sRoad,
  dfn "goals_of" sGoals, dfn "gap_road" sGap, dfn "lacking" sLacking, dfn "in_order" sOrder, dme "__init__" "Chart.__init__" sInit, dme "lack" "Chart.lack" sLack, dme "step" "Chart.step" sStep, dme "many" "Chart.many" sMany,
  dfn "marks_of" sMarks, dfn "rests_of" sRests, dfn "held_after" sAfter, dfn "steps_held" sHeld, dfn "history" sHistory, dfn "_law_bag" sBag, dfn "_law_take" sTake, dfn "_law_names" sNames, dfn "_law_net" sNet, dfn "_law_on" sOn,
  dfn "_law_out" sOut, dfn "_law_told" sTold, dfn "law" sLaw]
def hfa : List He.Fa := [.glo "papers_by_number", .glo "kept_behind", .glo "astray", .glo "places_of", .glo "lines_at", .glo "lines_beside", .glo "steps_to", .glo "shortest_road",
  .glo "goals_of", .glo "gap_road", .glo "lacking", .glo "in_order", .glo "Chart", .glo "marks_of", .glo "rests_of", .glo "held_after", .glo "steps_held", .glo "history", .glo "_law_bag", .glo "_law_take", .glo "_law_names", .glo "_law_net",
  .glo "_law_on", .glo "_law_out", .glo "_law_told", .glo "law", .int "FAR_MARK" 1000,
  .free "len", .free "dict", .free "list", .free "tuple", .free "sorted", .free "range", .free "min", .free "max", .free "abs", .free "int", .free "enumerate", .free "zip",
  .cls "Chart", .mkr "Chart", .meth "Chart" "lack", .meth "Chart" "step", .meth "Chart" "many", .noat "Chart" "net", .noat "Chart" "rows", .noat "Chart" "at", .noat "Chart" "lacks"]
abbrev R : PySem.W.OpenRow := PySem.W.OpenLaw.row PySem.Challenge.rw_throughlines_k47_whole_there_and_back
def htf : List He.Defn := [("in_order", none)]
abbrev hk : PySem.W.Hook := He.hookX 5 hfa hfn [] htf (fun _ => true)
def ob (s : PySem.W.SharedT) : He.AlX := He.obsX 5 hfa hfn [] htf (fun _ => true) (HandSHeadRun.getT s)
theorem ob_eq (s : PySem.W.SharedT) : ob s = hk.obs s.abs := He.obsX_eq (HandSHeadRun.getT_eq s)
def names : List Str := ["papers_by_number", "kept_behind", "astray", "places_of", "lines_at", "lines_beside", "steps_to", "shortest_road", "FAR_MARK", "goals_of", "gap_road", "lacking", "in_order", "Chart", "marks_of", "rests_of", "held_after",
  "steps_held", "history", "_law_bag", "_law_take", "_law_names", "_law_net", "_law_on", "_law_out", "_law_told"]
theorem run (w : World) : HandSHeadRun.RunEq R (PySem.W.view R.prog [30]) hk ob 1500 names w := by
  intro os
  kernel_rfl
end K47
set_option maxHeartbeats 0
/-! K47End: the facts of the head, the law. -/
namespace K47
open PySem PySem.Spec PyProof.Rows L2
theorem facts {w : World} {K : PySem.W.Frag} {h : Heap} {mg : Str → Option Value} {f : Addr} (X : K.In h) (G : h.Ns mainGlobals mg) (hfa' : mg ("law" : Str) = some (.ref f)) (c : He.SaysX hfa hfn [] htf (fun _ => true) w h K) :
    LamX.LawAtS PySem.Challenge.rw_throughlines_k47_whole_there_and_back w K CX0 11 63 "_law_script" mg f h := by
  have d := c.t.d
  have glo : ∀ (i : Nat) (x : Str), hfa[i]? = some (.glo x) → mg x = some (.ref (He.ga K x)) := fun i x e => He.glo_ok X G (d.fact i e)
  have fre : ∀ (i : Nat) (x : Str), hfa[i]? = some (.free x) → mg x = none := fun i x e => He.free_ok X G (d.fact i e)
  obtain ⟨fd0, F0⟩ := d.def_ 0 (d := dfn "papers_by_number" sByNum) rfl
  obtain ⟨fd1, F1⟩ := d.def_ 1 (d := dfn "kept_behind" sKept) rfl
  obtain ⟨fd2, F2⟩ := d.def_ 2 (d := dfn "astray" sAstray) rfl
  obtain ⟨fd3, F3⟩ := d.def_ 3 (d := dfn "places_of" sPlaces) rfl
  obtain ⟨fd4, F4⟩ := d.def_ 4 (d := dfn "lines_at" sAt) rfl
  obtain ⟨fd5, F5⟩ := d.def_ 5 (d := dfn "lines_beside" sBeside) rfl
  obtain ⟨fd6, F6⟩ := d.def_ 6 (d := dfn "steps_to" sSteps) rfl
  obtain ⟨fd7, F7⟩ := d.def_ 7 (d := dfn "shortest_road" sRoad) rfl
  obtain ⟨fd8, F8⟩ := d.def_ 8 (d := dfn "goals_of" sGoals) rfl
  obtain ⟨fd9, F9⟩ := d.def_ 9 (d := dfn "gap_road" sGap) rfl
  obtain ⟨fd10, F10⟩ := d.def_ 10 (d := dfn "lacking" sLacking) rfl
  obtain ⟨fd11, F11⟩ := d.def_ 11 (d := dfn "in_order" sOrder) rfl
  obtain ⟨fd12, F12⟩ := d.def_ 12 (d := dme "__init__" "Chart.__init__" sInit) rfl
  obtain ⟨fd13, F13⟩ := d.def_ 13 (d := dme "lack" "Chart.lack" sLack) rfl
  obtain ⟨fd14, F14⟩ := d.def_ 14 (d := dme "step" "Chart.step" sStep) rfl
  obtain ⟨fd15, F15⟩ := d.def_ 15 (d := dme "many" "Chart.many" sMany) rfl
  obtain ⟨fd16, F16⟩ := d.def_ 16 (d := dfn "marks_of" sMarks) rfl
  obtain ⟨fd17, F17⟩ := d.def_ 17 (d := dfn "rests_of" sRests) rfl
  obtain ⟨fd18, F18⟩ := d.def_ 18 (d := dfn "held_after" sAfter) rfl
  obtain ⟨fd19, F19⟩ := d.def_ 19 (d := dfn "steps_held" sHeld) rfl
  obtain ⟨fd20, F20⟩ := d.def_ 20 (d := dfn "history" sHistory) rfl
  obtain ⟨fd21, F21⟩ := d.def_ 21 (d := dfn "_law_bag" sBag) rfl
  obtain ⟨fd22, F22⟩ := d.def_ 22 (d := dfn "_law_take" sTake) rfl
  obtain ⟨fd23, F23⟩ := d.def_ 23 (d := dfn "_law_names" sNames) rfl
  obtain ⟨fd24, F24⟩ := d.def_ 24 (d := dfn "_law_net" sNet) rfl
  obtain ⟨fd25, F25⟩ := d.def_ 25 (d := dfn "_law_on" sOn) rfl
  obtain ⟨fd26, F26⟩ := d.def_ 26 (d := dfn "_law_out" sOut) rfl
  obtain ⟨fd27, F27⟩ := d.def_ 27 (d := dfn "_law_told" sTold) rfl
  obtain ⟨fd28, F28⟩ := d.def_ 28 (d := dfn "law" sLaw) rfl
  have e := hfa'.symm.trans (glo 25 "law" rfl)
  cases e
  have hcl : Cls K (He.ga K "Chart") := He.cls_ok (d.fact 39 (f := .cls "Chart") rfl)
  have hmk : Mk K (He.ga K "Chart") (He.ma K (He.ga K "Chart") "__init__") := He.mkr_ok (d.fact 40 (f := .mkr "Chart") rfl)
  have hm1 : Meth K (He.ga K "Chart") "lack" (He.ma K (He.ga K "Chart") "lack") := He.meth_ok (d.fact 41 (f := .meth "Chart" "lack") rfl)
  have hm2 : Meth K (He.ga K "Chart") "step" (He.ma K (He.ga K "Chart") "step") := He.meth_ok (d.fact 42 (f := .meth "Chart" "step") rfl)
  have hm3 : Meth K (He.ga K "Chart") "many" (He.ma K (He.ga K "Chart") "many") := He.meth_ok (d.fact 43 (f := .meth "Chart" "many") rfl)
  have hcc : ChC K (He.ga K "Chart") := ⟨hcl, He.noat_ok (d.fact 44 (f := .noat "Chart" "net") rfl), He.noat_ok (d.fact 45 (f := .noat "Chart" "rows") rfl), He.noat_ok (d.fact 46 (f := .noat "Chart" "at") rfl), He.noat_ok (d.fact 47 (f := .noat "Chart" "lacks") rfl)⟩
  have roads : Roads K mg := ⟨⟨_, fd7, F7, glo 7 _ rfl⟩, ⟨_, fd6, F6, glo 6 _ rfl⟩, ⟨_, fd5, F5, glo 5 _ rfl⟩, ⟨_, fd8, F8, glo 8 _ rfl⟩, ⟨_, fd4, F4, glo 4 _ rfl⟩, ⟨_, fd3, F3, glo 3 _ rfl⟩, fre 28 _ rfl, fre 31 _ rfl, fre 29 _ rfl, fre 27 _ rfl⟩
  have charts : Charts K mg (He.ga K "Chart") := ⟨hcc, ⟨_, fd13, hm1, F13⟩, ⟨_, fd10, F10, glo 10 _ rfl⟩, ⟨_, fd9, F9, glo 9 _ rfl⟩, roads⟩
  have chs : Chs K mg (He.ga K "Chart") := ⟨charts, ⟨_, fd14, hm2, F14⟩, ⟨_, fd15, hm3, F15⟩, fre 27 _ rfl, fre 32 _ rfl, fre 33 _ rfl, fre 30 _ rfl, He.int_ok X G (d.fact 26 (f := .int "FAR_MARK" 1000) rfl)⟩
  have hcode : fd11.code = .ref (He.cT K ("in_order", none)).1 := by
    obtain ⟨oc, od, dV, kV, doc, pm, an, cdv, ct, osl, rfl, lk, hcd2, _, _⟩ := F11.ex
    obtain ⟨c0, rfl⟩ := He.codeIn_ref hcd2
    have e : He.codeOf K ("in_order", none) = c0 := He.codeOf_eq (p := ("in_order", none)) lk rfl
    show Value.ref c0 = .ref (He.codeOf K ("in_order", none))
    rw [e]
  have b28 := FunD.bindsA (ps := ["_law_script"]) F28 fun _ _ _ _ _ _ us hl => match us, hl with | [_], _ => rfl
  have mem : ∀ p ∈ [He.cT K ("in_order", none)], p = He.cT K ("in_order", none) := fun p hp => List.mem_singleton.mp hp
  refine ⟨fd28, [He.cT K ("in_order", none)], spLaw K (He.cT K ("in_order", none)).2, fun p hp => ?_, fun p hp => ?_, fun p hp => ?_, fun s u => b28 s [u] rfl, fun H a ns hl _ hH hS => ?_, fun base KB G' TB => ?_⟩
  · rw [mem p hp]
    exact c.empty _ List.mem_cons_self
  · rw [mem p hp]
    exact c.out _ List.mem_cons_self
  · rw [mem p hp]
    exact PySem.W.codeHd_of_K X (c.hd _ List.mem_cons_self)
  · refine ⟨a, ns, rfl, hS, hl, fun p hp => ?_, fun _ => rfl⟩
    rw [List.mem_singleton.mp hp]
    exact LamX.TabS.nil (hH _ List.mem_cons_self)
  · have hists : Hists K mg base (He.ga K "Chart") (He.cT K ("in_order", none)).2 := ⟨chs, ⟨_, fd12, hmk, F12⟩, glo 12 _ rfl, ⟨_, fd11, _, F11, glo 11 _ rfl, hcode, TB _ List.mem_cons_self⟩, ⟨_, fd16, F16, glo 13 _ rfl⟩, ⟨_, fd17, F17, glo 14 _ rfl⟩, ⟨_, fd18, F18, glo 15 _ rfl⟩, ⟨_, fd19, F19, glo 16 _ rfl⟩, fre 31 _ rfl⟩
    exact ok_law F28 ⟨hists, ⟨_, fd20, F20, glo 17 _ rfl⟩, ⟨_, fd2, F2, glo 2 _ rfl⟩, ⟨_, fd0, F0, glo 0 _ rfl⟩, ⟨_, fd1, F1, glo 1 _ rfl⟩, ⟨_, fd21, F21, glo 18 _ rfl⟩, ⟨_, fd22, F22, glo 19 _ rfl⟩, ⟨_, fd23, F23, glo 20 _ rfl⟩, ⟨_, fd24, F24, glo 21 _ rfl⟩, ⟨_, fd25, F25, glo 22 _ rfl⟩, ⟨_, fd26, F26, glo 23 _ rfl⟩, ⟨_, fd27, F27, glo 24 _ rfl⟩,
      fre 35 _ rfl, fre 36 _ rfl, fre 34 _ rfl, fre 37 _ rfl, fre 38 _ rfl⟩
end K47
set_option maxHeartbeats 0
open PySem PySem.W PySem.Calls PyProof.Rows
theorem PySem.Challenge.cw_throughlines_k47_whole_there_and_back_holds : PySem.Challenge.rw_throughlines_k47_whole_there_and_back.Holds := by
  w_on; o_law
  refine HandSHeadRun.head_any (r := OpenLaw.row PySem.Challenge.rw_throughlines_k47_whole_there_and_back) (q := view (OpenLaw.row PySem.Challenge.rw_throughlines_k47_whole_there_and_back).prog [30]) (H := K47.hk) (ob := K47.ob) (M := 1500) (loose := K47.names) (d := HandSHeadRun.topDef (OpenLaw.row PySem.Challenge.rw_throughlines_k47_whole_there_and_back).prog 30) (kwd := []) K47.ob_eq
    (by kernel_rfl) (fun s => by kernel_rfl) K47.run (by kernel_rfl) (by kernel_rfl) (by kernel_rfl) (by rfl) (by first | assumption | decide +kernel) (by decide +kernel) ⟨rfl, rfl, rfl, rfl, rfl, by decide +kernel⟩ ?hw ?hc
  case hw => w_witness2
  case hc =>
    refine LamX.walk_ofTsE (l := PySem.Challenge.rw_throughlines_k47_whole_there_and_back) (n := 63) (k := 11) (x := "_law_script") (CX := fun _ => L2.CX0) rfl (by decide) (by kernel_rfl) ⟨rfl, by decide, by decide⟩ ?F (fun _ _ _ _ _ z => z)
    intro w mg fa h Y G hmg0
    obtain ⟨K, KX, c⟩ := Y
    have hmg : mg ("law" : PySem.Str) = some (.ref fa) := by
      have e : (HandSHeadRun.topDef (OpenLaw.row PySem.Challenge.rw_throughlines_k47_whole_there_and_back).prog 30).name = ("law" : PySem.Str) := by kernel_rfl
      rw [← e]
      exact hmg0
    exact ⟨K, KX, K47.facts KX G hmg c⟩
