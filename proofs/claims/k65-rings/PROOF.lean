import PyProof.Rows.All
import Wide.All
import OpenK.AllK
import Wide.FinOn
import HandS.ForMost
import PyProof.EqAt
import PyProof.EqKinds
import PyProof.TupleCall
import PyProof.GenCompD
import HandS.AnyAll
import PyProof.WalksPairs
import KE.KDictWalk
import HandS.Sort
import HandS.IsInst
import KE.KDictKeyed
import HandS.Style
import HandS.TupAny
import KE.GoesMore
import HandS.Walk
import KE.KDictPairs
import KE.KDictDisplayH
import HandS.DictTup
import HandS.Conv
import HandS.Star
import HandS.WordsDict
import HandS.EndOwn
import KE.KNestM
import PySem.Challenge.RW_eventcore_k65_whole_rings_judged
set_option Elab.async false
set_option linter.all false
set_option maxRecDepth 100000
set_option maxHeartbeats 4000000
namespace RgM
/-- the law's walk over a row: w steps since the last hit -/
def lawLoop (d : Int) : Int → List Bool → Bool
  | _, [] => true
  | w, b :: r => if (if b = true then 0 else w + 1) = d then false else lawLoop d (if b = true then 0 else w + 1) r
/-- the same with t more misses behind, and a hit there -/
def loop2 (d : Int) (t : Int) : Int → List Bool → Bool
  | w, [] => decide (w + t < d)
  | w, b :: r => if b = true then decide (w < d) && loop2 d t 0 r else loop2 d t (w + 1) r
/-- the places of the hits -/
def places : Int → List Bool → List Int
  | _, [] => []
  | o, b :: r => if b = true then o :: places (o + 1) r else places (o + 1) r
/-- the differences of a row of places are at most d, e behind the last -/
def chk (d e : Int) : Int → List Int → Bool
  | a, [] => decide (e - a ≤ d)
  | a, p :: r => decide (p - a ≤ d) && chk d e p r
def rep (g : Nat) : List Bool := List.replicate g false
theorem chk_places (d e : Int) : ∀ (bs : List Bool) (o a : Int), chk d e a (places o bs) = loop2 d (e - (o + bs.length)) (o - a - 1) bs
  | [], o, a => by
    show decide (e - a ≤ d) = decide (o - a - 1 + (e - (o + (0 : Nat))) < d)
    exact decide_eq_decide.mpr (by omega)
  | true :: r, o, a => by
    show (decide (o - a ≤ d) && chk d e o (places (o + 1) r)) = (decide (o - a - 1 < d) && loop2 d (e - (o + (r.length + 1 : Nat))) 0 r)
    rw [chk_places d e r (o + 1) o]
    have e1 : o + 1 - o - 1 = 0 := by omega
    have e2 : e - (o + 1 + (r.length : Int)) = e - (o + ((r.length + 1 : Nat) : Int)) := by omega
    have e3 : decide (o - a ≤ d) = decide (o - a - 1 < d) := decide_eq_decide.mpr (by omega)
    rw [e1, e2, e3]
  | false :: r, o, a => by
    show chk d e a (places (o + 1) r) = loop2 d (e - (o + (r.length + 1 : Nat))) (o - a - 1 + 1) r
    rw [chk_places d e r (o + 1) a]
    have e1 : o + 1 - a - 1 = o - a - 1 + 1 := by omega
    have e2 : e - (o + 1 + (r.length : Int)) = e - (o + ((r.length + 1 : Nat) : Int)) := by omega
    rw [e1, e2]
theorem loop_rep (d : Int) (r : List Bool) (hd : 0 < d) : ∀ (g : Nat) (w : Int), 0 ≤ w → w < d → lawLoop d w (rep g ++ true :: r) = (decide (w + g < d) && lawLoop d 0 r)
  | 0, w, h0, h1 => by
    show (if (0 : Int) = d then false else lawLoop d 0 r) = (decide (w + (0 : Nat) < d) && lawLoop d 0 r)
    rw [if_neg (by omega), decide_eq_true (show w + ((0 : Nat) : Int) < d by omega), Bool.true_and]
  | g + 1, w, h0, h1 => by
    show (if w + 1 = d then false else lawLoop d (w + 1) (rep g ++ true :: r)) = _
    by_cases h : w + 1 = d
    · rw [if_pos h, decide_eq_false (by omega), Bool.false_and]
    · rw [if_neg h, loop_rep d r hd g (w + 1) (by omega) (by omega)]
      have e : decide (w + 1 + (g : Int) < d) = decide (w + ((g + 1 : Nat) : Int) < d) := decide_eq_decide.mpr (by omega)
      rw [e]
theorem loop_mid (d : Int) (g : Nat) (q : List Bool) (hd : 0 < d) : ∀ (r : List Bool) (w : Int), 0 ≤ w → w < d → lawLoop d w (r ++ (rep g ++ true :: q)) = (loop2 d g w r && lawLoop d 0 q)
  | [], w, h0, h1 => by
    show lawLoop d w (rep g ++ true :: q) = _
    rw [loop_rep d q hd g w h0 h1]
    rfl
  | true :: r, w, h0, h1 => by
    show (if (0 : Int) = d then false else lawLoop d 0 (r ++ (rep g ++ true :: q))) = ((decide (w < d) && loop2 d g 0 r) && lawLoop d 0 q)
    rw [if_neg (by omega), loop_mid d g q hd r 0 (by omega) hd, decide_eq_true h1, Bool.true_and]
  | false :: r, w, h0, h1 => by
    show (if w + 1 = d then false else lawLoop d (w + 1) (r ++ (rep g ++ true :: q))) = (loop2 d g (w + 1) r && lawLoop d 0 q)
    by_cases h : w + 1 = d
    · rw [if_pos h]
      have z : ∀ (r : List Bool) (w : Int), d ≤ w → loop2 d g w r = false := by
        intro r
        induction r with
        | nil => intro w hw; exact decide_eq_false (by omega)
        | cons b r ih =>
          intro w hw
          cases b with
          | true =>
            show (decide (w < d) && loop2 d g 0 r) = false
            rw [decide_eq_false (by omega), Bool.false_and]
          | false => exact ih (w + 1) (by omega)
      rw [z r (w + 1) (by omega), Bool.false_and]
    · rw [if_neg h, loop_mid d g q hd r (w + 1) (by omega) (by omega)]
/-- what loop2 says holds of the plain walk too -/
theorem loop2_le (d : Int) (g : Nat) : ∀ (r : List Bool) (w : Int), 0 ≤ w → loop2 d g w r = true → lawLoop d w r = true
  | [], _, _, _ => rfl
  | true :: r, w, h0, h => by
    have h' : (decide (w < d) && loop2 d g 0 r) = true := h
    rw [Bool.and_eq_true, decide_eq_true_eq] at h'
    show (if (0 : Int) = d then false else lawLoop d 0 r) = true
    rw [if_neg (by omega)]
    exact loop2_le d g r 0 (by omega) h'.2
  | false :: r, w, h0, h => by
    have h' : loop2 d g (w + 1) r = true := h
    show (if w + 1 = d then false else lawLoop d (w + 1) r) = true
    have lt : ∀ (r : List Bool) (w : Int), loop2 d g w r = true → w < d := by
      intro r
      induction r with
      | nil => intro w hw; have := of_decide_eq_true hw; omega
      | cons b r ih =>
        intro w hw
        cases b with
        | true =>
          have hw' : (decide (w < d) && loop2 d g 0 r) = true := hw
          rw [Bool.and_eq_true, decide_eq_true_eq] at hw'
          exact hw'.1
        | false => have := ih (w + 1) hw; omega
    have := lt r (w + 1) h'
    rw [if_neg (by omega)]
    exact loop2_le d g r (w + 1) (by omega) h'
theorem loop2_g (d : Int) (g : Nat) : ∀ (r : List Bool) (w : Int), 0 ≤ w → loop2 d g w r = true → (g : Int) < d
  | [], w, h0, h => by have h' : decide (w + (g : Int) < d) = true := h; have := of_decide_eq_true h'; omega
  | true :: r, w, h0, h => by
    have h' : (decide (w < d) && loop2 d g 0 r) = true := h
    rw [Bool.and_eq_true] at h'
    exact loop2_g d g r 0 (by omega) h'.2
  | false :: r, w, h0, h => loop2_g d g r (w + 1) (by omega) h
/-- the first hit -/
theorem split : ∀ bs : List Bool, (∀ b ∈ bs, b = false) ∨ ∃ (g : Nat) (r : List Bool), bs = rep g ++ true :: r
  | [] => .inl (fun _ h => nomatch h)
  | true :: r => .inr ⟨0, r, rfl⟩
  | false :: r => by
    rcases split r with h | ⟨g, q, e⟩
    · exact .inl fun b hb => by
        rcases List.mem_cons.mp hb with e | e
        · exact e
        · exact h b e
    · exact .inr ⟨g + 1, q, by rw [e]; rfl⟩
theorem places_none : ∀ (bs : List Bool) (o : Int), (∀ b ∈ bs, b = false) → places o bs = []
  | [], _, _ => rfl
  | b :: r, o, h => by
    have e : b = false := h b List.mem_cons_self
    subst e
    exact places_none r (o + 1) fun c hc => h c (List.mem_cons_of_mem _ hc)
theorem places_rep (r : List Bool) : ∀ (g : Nat) (o : Int), places o (rep g ++ true :: r) = (o + g) :: places (o + g + 1) r
  | 0, o => by
    show o :: places (o + 1) r = (o + ((0 : Nat) : Int)) :: places (o + ((0 : Nat) : Int) + 1) r
    rw [show o + ((0 : Nat) : Int) = o by omega]
  | g + 1, o => by
    show places (o + 1) (rep g ++ true :: r) = _
    rw [places_rep r g (o + 1), show o + 1 + (g : Int) = o + ((g + 1 : Nat) : Int) by omega]
/-- the program's answer for one index: bs tells where it stands -/
def progK (d : Int) (bs : List Bool) : Bool := match places 0 bs with
  | [] => false
  | p :: r => chk d (p + bs.length) p r
/-- the law's -/
def lawK (d : Int) (bs : List Bool) : Bool := lawLoop d 0 (bs ++ bs) && bs.any id
theorem prog_law (d : Int) (bs : List Bool) (hd : 0 < d) : progK d bs = lawK d bs := by
  rcases split bs with h | ⟨g, r, e⟩
  · unfold progK lawK
    rw [places_none bs 0 h]
    have e : bs.any id = false := by
      rw [List.any_eq_false]
      intro b hb
      rw [h b hb]
      exact Bool.false_ne_true
    rw [e, Bool.and_false]
  · have hp : progK d bs = loop2 d g 0 r := by
      unfold progK
      subst e
      rw [places_rep r g 0]
      show chk d ((0 : Int) + (g : Int) + ((rep g ++ true :: r).length : Nat)) (0 + (g : Int)) (places (0 + (g : Int) + 1) r) = _
      rw [chk_places]
      have l : (rep g ++ true :: r).length = g + 1 + r.length := by
        unfold rep
        rw [List.length_append, List.length_replicate, List.length_cons]
        omega
      rw [l]
      have e1 : (0 : Int) + (g : Int) + ((g + 1 + r.length : Nat) : Int) - (0 + (g : Int) + 1 + (r.length : Int)) = (g : Int) := by omega
      have e2 : (0 : Int) + (g : Int) + 1 - (0 + (g : Int)) - 1 = 0 := by omega
      rw [e1, e2]
    have ha : bs.any id = true := by
      subst e
      rw [List.any_append, List.any_cons]
      simp
    have hl : lawLoop d 0 (bs ++ bs) = (decide ((g : Int) < d) && (loop2 d g 0 r && lawLoop d 0 r)) := by
      have e2 : bs ++ bs = rep g ++ true :: (r ++ (rep g ++ true :: r)) := by
        subst e
        rw [List.append_assoc, List.cons_append]
      rw [e2, loop_rep d _ hd g 0 (by omega) hd, loop_mid d g r hd r 0 (by omega) hd, show (0 : Int) + (g : Int) = g by omega]
    unfold lawK
    rw [hp, ha, hl, Bool.and_true]
    cases h : loop2 d g 0 r with
    | false => rw [Bool.false_and, Bool.and_false]
    | true => rw [decide_eq_true (loop2_g d g r 0 (by omega) h), loop2_le d g r 0 (by omega) h]; rfl
end RgM

namespace RgB
theorem filter_ne_len (a : Nat) : ∀ (l : List Nat), l.Nodup → l.length ≤ (l.filter (fun x => decide (x ≠ a))).length + 1
  | [], _ => by simp
  | b :: r, h => by
    obtain ⟨h1, h2⟩ := List.nodup_cons.mp h
    by_cases e : b = a
    · subst e
      have q : r.filter (fun x => decide (x ≠ b)) = r := List.filter_eq_self.mpr fun x hx => decide_eq_true fun z => h1 (z ▸ hx)
      rw [List.filter_cons_of_neg (by simp), q, List.length_cons]
      exact Nat.le_refl _
    · have ih := filter_ne_len a r h2
      rw [List.filter_cons_of_pos (by simp [e]), List.length_cons, List.length_cons]
      omega
theorem nodup_lt : ∀ (n : Nat) (l : List Nat), l.Nodup → (∀ x ∈ l, x < n) → l.length ≤ n
  | 0, [], _, _ => Nat.le_refl _
  | 0, a :: _, _, h => absurd (h a List.mem_cons_self) (Nat.not_lt_zero _)
  | n + 1, l, hn, h => by
    have h1 := filter_ne_len n l hn
    have h2 := nodup_lt n (l.filter (fun x => decide (x ≠ n))) (hn.filter _) fun x hx => by
      obtain ⟨m, e⟩ := List.mem_filter.mp hx
      have := h x m
      have := of_decide_eq_true e
      omega
    omega
/-- a state's number: its digits to the base 9 -/
def code : List Int → Nat
  | [] => 0
  | z :: r => z.toNat + 9 * code r
def Good (x : List Int) : Prop := ∀ z ∈ x, 1 ≤ z ∧ z ≤ 8
theorem code_inj : ∀ {x y : List Int}, x.length = y.length → Good x → Good y → code x = code y → x = y
  | [], [], _, _, _, _ => rfl
  | [], _ :: _, l, _, _, _ => by simp at l
  | _ :: _, [], l, _, _, _ => by simp at l
  | a :: r, b :: q, l, hx, hy, e => by
    have e' : a.toNat + 9 * code r = b.toNat + 9 * code q := e
    have ha := hx a List.mem_cons_self
    have hb := hy b List.mem_cons_self
    have l' : r.length = q.length := by simpa using l
    have e1 : code r = code q := by omega
    have e2 : a = b := by omega
    rw [e2, code_inj l' (fun z hz => hx z (List.mem_cons_of_mem _ hz)) (fun z hz => hy z (List.mem_cons_of_mem _ hz)) e1]
theorem code_lt : ∀ {x : List Int}, Good x → code x < 9 ^ x.length
  | [], _ => by decide
  | a :: r, h => by
    have ha := h a List.mem_cons_self
    have ih := code_lt (x := r) fun z hz => h z (List.mem_cons_of_mem _ hz)
    show a.toNat + 9 * code r < 9 ^ (r.length + 1)
    rw [Nat.pow_succ]
    omega
theorem nodup_map : ∀ {l : List (List Int)} {n : Nat}, l.Nodup → (∀ x ∈ l, x.length = n ∧ Good x) → (l.map code).Nodup
  | [], _, _, _ => List.nodup_nil
  | a :: r, n, h, g => by
    obtain ⟨h1, h2⟩ := List.nodup_cons.mp h
    rw [List.map_cons]
    refine List.nodup_cons.mpr ⟨fun m => ?_, nodup_map h2 fun x hx => g x (List.mem_cons_of_mem _ hx)⟩
    obtain ⟨b, hb, e⟩ := List.mem_map.mp m
    have ga := g a List.mem_cons_self
    have gb := g b (List.mem_cons_of_mem _ hb)
    have := code_inj (ga.1.trans gb.1.symm) ga.2 gb.2 e.symm
    exact h1 (this ▸ hb)
/-- so many states there are -/
theorem few {l : List (List Int)} {n : Nat} (h : l.Nodup) (g : ∀ x ∈ l, x.length = n ∧ Good x) (hn : n ≤ 4) : l.length ≤ 6561 := by
  have h1 := nodup_lt (9 ^ n) (l.map code) (nodup_map h g) fun c hc => by
    obtain ⟨x, hx, e⟩ := List.mem_map.mp hc
    have := code_lt (g x hx).2
    rw [(g x hx).1] at this
    rw [← e]
    exact this
  rw [List.length_map] at h1
  have h2 : 9 ^ n ≤ 9 ^ 4 := Nat.pow_le_pow_right (by decide) hn
  exact Nat.le_trans h1 h2
end RgB

namespace Rg
open PySem L2
/-- the top's statements by places -/
def top (i : Nat) : Stmt := PySem.Challenge.pw_eventcore_k65_whole_rings_judged.main.body.getD i (.Pass ⟨0, 0, 0, 0⟩)
abbrev sIsIn : Stmt := top 4
abbrev sNeed : Stmt := top 8
abbrev sServed : Stmt := top 9
abbrev sAlive : Stmt := top 10
abbrev sRing : Stmt := top 11
abbrev sShows : Stmt := top 12
abbrev sTaken : Stmt := top 14
abbrev sPick : Stmt := top 15
abbrev sAlike : Stmt := top 16
abbrev sDists : Stmt := top 17
abbrev sIsRing : Stmt := top 18
abbrev sLaw : Stmt := top 19
end Rg

namespace RgG
open PySem PySem.Spec PyProof.Rows L2 GxR
section
variable {X : Cx} {pins : List (Addr × Obj)} {σ : L2.St} {H : Hp} {s : Shared}
/-- the generator g of n truth values pb, ready to be walked in the state s5; H1: what was held before -/
def Rdy (X : Cx) (pins : List (Addr × Obj)) (σ : L2.St) (H1 : Hp) (P : Addr) (n : Nat) (pb : Nat → Bool) (g : Addr) (s5 : Shared) : Prop :=
  ∃ (fp wr : List Addr) (G : Array GenState → Array GenState → Prop) (F : Nat → Value → Prop) (St : Nat → Shared → Prop),
    WalksS X.prog X.w X.A.in1 g fp wr G n F St ∧ St 0 s5 ∧
    TruthOf X.prog X.w X.A.in1 F pb ∧
    ∀ s', Moved wr G s5 s' → ∃ H2, Tabbed P H1 H2 ∧ Inv X pins σ H2 s'
/-- what is walked: its iterator is made in new objects, and walks n items -/
def Src (X : Cx) (P : Addr) (xv : Value) (s1 : Shared) (n : Nat) (Pf : Nat → Value → Prop) : Prop :=
  ∀ (Q' : Value → Shared → Prop), (∀ (h2 : Heap) (tk : Nat) (Ia : Addr) (fp wr : List Addr) (St : Nat → Heap → Prop), (∀ b o, s1.heap.get? b = some o → h2.get? b = some o) → s1.heap.objs.size ≤ h2.objs.size →
      (∀ A' : Around, A'.handled = none → Walks X.prog X.w A' Ia fp wr n Pf St) → St 0 h2 → (∀ b ∈ fp, b < h2.objs.size) → P ∉ fp → (∀ b ∈ wr, s1.heap.objs.size ≤ b) →
      Q' (.ref Ia) { s1 with heap := h2, toks := tk }) → wpAny (model X.prog X.w) X.A (pyIter xv) Q' X.xe s1
/-- the element: item i gives the truth value pb i, and changes nothing -/
def Elt (X : Cx) (scope : Scope) (x : Str) (elt : Expr) (P : Addr) (s1 : Shared) (Pf : Nat → Value → Prop) (pb : Nat → Bool) : Prop :=
  ∀ (cenv : Env) (A' : Around) (E' : Value → Shared → Prop) (i : Nat) (v : Value) (s2 : Shared) (m2 : Str → Option Value), cenv.scope = scope → cenv.cells = cloFrom X.env.cells scope.names [] → cenv.globals = X.env.globals → cenv.builtins = builtinsNs →
    A'.handled = none → A'.depth ≤ X.A.depth + 1 → A'.units ≤ X.A.units + 8 → Pf i v → s2.heap.Ns cenv.locals m2 → m2 x = some v → (∀ b o, b ≠ P → s1.heap.get? b = some o → s2.heap.get? b = some o) →
    wpAny (model X.prog X.w) A' (eval elt cenv) (fun y s3 => y = .bool (pb i) ∧ Keeps s2 s3) E' s2
theorem gen1 {c P : Addr} {elt iter : Expr} {x : Str} {px gpos : Pos} {scope : Scope} {k : Nat} {Q' : Value → Shared → Prop}
    (hr : Room k X.A) (TB : TabB X.base X.mg c P) (hcode : X.env.code = .ref c) (S : GenS X.env scope x)
    (hs : ∀ v, genFold iter X.env v = pure v)
    (h : wpAny (model X.prog X.w) X.A (eval iter X.env) (fun xv s1 => ∃ (H1 : Hp) (n : Nat) (Pf : Nat → Value → Prop) (pb : Nat → Bool), Inv X pins σ H1 s1 ∧ TabG H1 P ∧ Src X P xv s1 n Pf ∧ Elt X scope x elt P s1 Pf pb ∧
      ∀ g s5, Rdy X pins σ H1 P n pb g s5 → Q' (.ref g) s5) X.xe s) :
    wpAny (model X.prog X.w) X.A (eval (.GeneratorExp elt [⟨.Name x px, iter, [], 0⟩] scope gpos) X.env) Q' X.xe s := by
  refine wpAny_GeneratorExp_walksQD hr.hd S.co (closure_ok S.free) S.cell S.dot S.loc S.kind (by have := hr.dp; omega) ?_ hs
  refine thn h fun xv s1 hxv => ?_
  obtain ⟨H1, n, Pf, pb, I1, ⟨ps, hP, ht⟩, hsrc, hel, hQ⟩ := hxv
  refine hsrc _ fun h2 tk2 Ia fp wr St k2 sz12 W hst hfp hPf hwr => ?_
  have hPs : s1.heap.get? P = some { cls := .none, data := .fields ps } := I1.hok P _ hP
  have hPlt : P < s1.heap.objs.size := Heap.lt_size hPs
  have hP2 : h2.get? P = some { cls := .none, data := .fields ps } := k2 _ _ hPs
  have cd : PySem.W.CodeHd h2 c P := TB.code.keeps fun b u e => k2 _ _ (I1.bk b u e)
  have lim2 : h2.NoLimit := I1.nolimit.keeps k2
  have cont : ∀ (code : Value) (h3 : Heap) (tk : Nat) (ps' : Array Value), Heap.ExtBut P h2 h3 → h2.objs.size ≤ h3.objs.size → h3.get? P = some { cls := .none, data := .fields ps' } → (∃ more, ps' = ps ++ more) → TriplesOk ps'.toList →
      wpAny (model X.prog X.w) X.A (builtinsFor X.env.globals X.env.builtins) (fun bi s₄ =>
        ∃ Ia' fp wr n₀ Pf St₀ pz F, Value.ref Ia = .ref Ia' ∧ (∀ A' : Around, A'.handled = none → Walks X.prog X.w A' Ia' fp wr n₀ Pf St₀) ∧ St₀ 0 s₄.heap ∧ (∀ b ∈ fp, b < s₄.heap.objs.size) ∧ s₄.heap.NoLimit ∧ cStatics ∉ wr ∧
          (∀ href : Heap, (∀ b o, s₄.heap.get? b = some o → href.get? b = some o) →
            QuietGenD X.prog X.w (genEnv scope (cloFrom X.env.cells scope.names []) s₄.heap.objs.size code bi X.env) x [] elt (List.range s₄.heap.objs.size) wr Pf pz F href (X.A.depth + 1) (X.A.units + 8)) ∧
          (∀ a h₅ tk gs, gs.bare = true → s₄.heap.objs.size < a → h₅.objs.size = a + 1 → (∀ b o, s₄.heap.get? b = some o → h₅.get? b = some o) →
            WalksS X.prog X.w X.A.in4 a (a :: s₄.heap.objs.size :: List.range s₄.heap.objs.size) (s₄.heap.objs.size :: wr) (GenOnlyQ s₄.gens.size) (passing pz n₀ 0).length
              (fun j y => ∃ i, (passing pz n₀ 0)[j]? = some i ∧ F i y) (GenAt X.prog X.w X.A.in4 a s₄.gens.size s₄.heap.objs.size (List.range s₄.heap.objs.size) wr pz n₀ F) →
            GenAt X.prog X.w X.A.in4 a s₄.gens.size s₄.heap.objs.size (List.range s₄.heap.objs.size) wr pz n₀ F 0 { s₄ with gens := s₄.gens.push gs, toks := tk, heap := h₅ } →
            Q' (.ref a) { s₄ with gens := s₄.gens.push gs, toks := tk, heap := h₅ })) X.xe { s1 with heap := h3, toks := tk } := by
    intro code h3 tk ps' hx hsz hP3 hmore ht3
    obtain ⟨bm, ob, e1, e2, e3, e4, e5, e6, e7, e8⟩ := TB.bm
    have hcP : cStatics ≠ P := fun e => by
      obtain ⟨_, hns, _⟩ := I1.nolimit
      obtain ⟨o', es, ep, ho, hd, _⟩ := hns
      rw [e, hPs] at ho
      cases ho
      cases hd
    have hcl : cStatics < s1.heap.objs.size := let ⟨_, hns, _⟩ := I1.nolimit; hns.lt
    have keep3 : ∀ b u, b ≠ P → s1.heap.get? b = some u → h3.get? b = some u := fun b u hb e => hx b u hb (k2 _ _ e)
    refine wpAny_builtinsFor (m := X.mg) (by rw [I1.ok.glob]; exact ((I1.mod.glob.keeps I1.bk).keeps k2).extBut hx TB.gP) e1 e2 (keep3 _ _ e4 (I1.bk _ _ e5)) e6 e7 e8 ?_
    refine ⟨Ia, fp, wr, n, Pf, St, (fun _ => true), (fun i y => y = .bool (pb i)), rfl, W, ?_, ?_, lim2.extBut hx hcP, ?_, ?_, ?_⟩
    · exact (W X.A hr.hd).frame _ _ _ hst fun b hb u e => hx b u (fun z => hPf (z ▸ hb)) e
    · exact fun b hb => Nat.lt_of_lt_of_le (hfp b hb) hsz
    · intro z
      exact absurd (Nat.lt_of_lt_of_le hcl (hwr _ z)) (Nat.lt_irrefl _)
    · intro href hhref
      refine ⟨fun A' E' i v s₂ m₂ hA hD hU hPv hn hm hk => ?_, fun A' E' i v s₂ m₂ hA hD hU hPv hp hn hm hk => ?_⟩
      · simp only [List.forIn_nil]
        exact wpAny_pure ⟨rfl, keeps_refl _⟩
      · refine hel _ A' E' i v s₂ m₂ rfl rfl rfl rfl hA hD hU hPv hn hm fun b o hb e => ?_
        have hb3 := keep3 b o hb e
        refine hk b (List.mem_range.mpr (Heap.lt_size hb3)) (fun z => ?_) o (hhref b o hb3)
        exact absurd (Nat.lt_of_lt_of_le (Heap.lt_size e) (hwr _ z)) (Nat.lt_irrefl _)
    · intro g h5 tk5 gs hgb hag hsz5 hk5 W5 hat
      simp only [GxR.passing_true, List.length_range] at W5
      refine hQ g _ ⟨_, _, _, _, _, W5.in4_1, hat, ?_, fun s' hm => ?_⟩
      · intro j y sj Qj Ej hy hQj
        obtain ⟨i, hij, rfl⟩ := hy
        obtain ⟨hj, ej⟩ := List.getElem?_eq_some_iff.mp hij
        rw [List.getElem_range] at ej
        subst ej
        exact wpAny_truthy_bool hQj
      · obtain ⟨more, em⟩ := hmore
        have nwr : ∀ b u, s1.heap.get? b = some u → b ∉ h3.objs.size :: wr := fun b u e hb => by
          have hl := Heap.lt_size e
          rcases List.mem_cons.mp hb with z | z
          · rw [z] at hl
            have h9 : (h3.objs.size : Nat) < s1.heap.objs.size := hl
            omega
          · exact absurd (Nat.lt_of_lt_of_le hl (hwr _ z)) (Nat.lt_irrefl _)
        have J := inv_tab (more := more) (h' := s'.heap) (g' := s'.gens) (d' := s'.drawn) (t' := s'.toks) I1 hP (fun b u hb e => hm.heap b u (nwr b u e) (hk5 b u (keep3 b u hb e)))
          (by rw [← em]; exact hm.heap P _ (nwr P _ hPs) (hk5 P _ hP3)) (AllBare.movedS (I1.bare.push hgb) hm)
        rw [sh_eta s1 s' hm.os] at J
        refine ⟨upd H1 P (.tbl (ps ++ more)), ⟨⟨ps ++ more, upd_same, by rw [← em]; exact ht3⟩, fun b hb => upd_ne hb⟩, J⟩
  refine ⟨lim2, ?_⟩
  cases hf : codeAmong gpos ps.toList with
  | none =>
    refine wpAny_genexprCodeX hcode (cd.code hP2 ht) (cd.tab hP2) hf fun c' h' tk hx hge hlt hco' _ htab' _ => ?_
    obtain ⟨o1, vs, f1, tf, fl, tg, inF, tx, tt, op, _, _, _, _, _, _, _, _, _, htr, _⟩ := hco'
    exact cont _ h' tk _ hx (Nat.le_trans hge (Nat.le_of_lt hlt)) htab'.2 ⟨_, rfl⟩ htr
  | some cv =>
    refine wpAny_genexprCode_hit hcode (cd.code hP2 ht) hf ?_
    exact cont cv h2 tk2 ps (Heap.ExtBut.refl _ _) (Nat.le_refl _) hP2 ⟨#[], by simp⟩ ht
/-- what is walked: its iterator is made in new objects, and walks n items -/
def Src2 (X : Cx) (P : Addr) (xv : Value) (s1 : Shared) (n : Nat) (Pf : Nat → Array Value → Prop) : Prop :=
  ∀ (Q' : Value → Shared → Prop), (∀ (h2 : Heap) (tk : Nat) (Ia : Addr) (fp wr : List Addr) (St : Nat → Heap → Prop) (Mid : Nat → Addr → Heap → Prop), (∀ b o, s1.heap.get? b = some o → h2.get? b = some o) → s1.heap.objs.size ≤ h2.objs.size →
      (∀ A' : Around, A'.handled = none → WalksU X.prog X.w A' Ia fp wr n Pf St Mid) → St 0 h2 → (∀ b ∈ fp, b < h2.objs.size) → P ∉ fp → (∀ b ∈ wr, s1.heap.objs.size ≤ b) →
      Q' (.ref Ia) { s1 with heap := h2, toks := tk }) → wpAny (model X.prog X.w) X.A (pyIter xv) Q' X.xe s1
/-- the element: item i gives the truth value pb i, and changes nothing -/
def Elt2 (X : Cx) (scope : Scope) (x y : Str) (elt : Expr) (P : Addr) (s1 : Shared) (Pf : Nat → Array Value → Prop) (pb : Nat → Bool) : Prop :=
  ∀ (cenv : Env) (A' : Around) (E' : Value → Shared → Prop) (i : Nat) (v v' : Value) (s2 : Shared) (m2 : Str → Option Value), cenv.scope = scope → cenv.cells = cloFrom X.env.cells scope.names [] → cenv.globals = X.env.globals → cenv.builtins = builtinsNs →
    A'.handled = none → A'.depth ≤ X.A.depth + 1 → A'.units ≤ X.A.units + 8 → Pf i #[v, v'] → s2.heap.Ns cenv.locals m2 → m2 x = some v → m2 y = some v' → (∀ b o, b ≠ P → s1.heap.get? b = some o → s2.heap.get? b = some o) →
    wpAny (model X.prog X.w) A' (eval elt cenv) (fun r s3 => r = .bool (pb i) ∧ Keeps s2 s3) E' s2
theorem gen2 {c P : Addr} {elt iter : Expr} {x y : Str} {px py pt gpos : Pos} {kt : Nat} {scope : Scope} {k : Nat} {Q' : Value → Shared → Prop}
    (hr : Room k X.A) (TB : TabB X.base X.mg c P) (hcode : X.env.code = .ref c) (S : GenS X.env scope x) (hy : scope.names.lookup y = some .local) (hxy : x ≠ y)
    (hs : ∀ v, genFold iter X.env v = pure v)
    (h : wpAny (model X.prog X.w) X.A (eval iter X.env) (fun xv s1 => ∃ (H1 : Hp) (n : Nat) (Pf : Nat → Array Value → Prop) (pb : Nat → Bool), Inv X pins σ H1 s1 ∧ TabG H1 P ∧ (∀ i vals, Pf i vals → ∃ va vb, vals = #[va, vb]) ∧ Src2 X P xv s1 n Pf ∧ Elt2 X scope x y elt P s1 Pf pb ∧
      ∀ g s5, Rdy X pins σ H1 P n pb g s5 → Q' (.ref g) s5) X.xe s) :
    wpAny (model X.prog X.w) X.A (eval (.GeneratorExp elt [⟨.Tuple [.Name x px, .Name y py] kt pt, iter, [], 0⟩] scope gpos) X.env) Q' X.xe s := by
  refine wpAny_GeneratorExp_walksQTD hr.hd S.co (closure_ok S.free) S.cell S.dot S.loc hy hxy S.kind (by have := hr.dp; omega) ?_ hs
  refine thn h fun xv s1 hxv => ?_
  obtain ⟨H1, n, Pf, pb, I1, ⟨ps, hP, ht⟩, hsz2, hsrc, hel, hQ⟩ := hxv
  refine hsrc _ fun h2 tk2 Ia fp wr St Mid k2 sz12 W hst hfp hPf hwr => ?_
  have hPs : s1.heap.get? P = some { cls := .none, data := .fields ps } := I1.hok P _ hP
  have hPlt : P < s1.heap.objs.size := Heap.lt_size hPs
  have hP2 : h2.get? P = some { cls := .none, data := .fields ps } := k2 _ _ hPs
  have cd : PySem.W.CodeHd h2 c P := TB.code.keeps fun b u e => k2 _ _ (I1.bk b u e)
  have lim2 : h2.NoLimit := I1.nolimit.keeps k2
  have cont : ∀ (code : Value) (h3 : Heap) (tk : Nat) (ps' : Array Value), Heap.ExtBut P h2 h3 → h2.objs.size ≤ h3.objs.size → h3.get? P = some { cls := .none, data := .fields ps' } → (∃ more, ps' = ps ++ more) → TriplesOk ps'.toList →
      wpAny (model X.prog X.w) X.A (builtinsFor X.env.globals X.env.builtins) (fun bi s₄ =>
        ∃ Ia' fp wr n₀ Pf St₀ Mid pz F, Value.ref Ia = .ref Ia' ∧ (∀ A' : Around, A'.handled = none → WalksU X.prog X.w A' Ia' fp wr n₀ Pf St₀ Mid) ∧ (∀ i vals, Pf i vals → ∃ va vb, vals = #[va, vb]) ∧ St₀ 0 s₄.heap ∧ (∀ b ∈ fp, b < s₄.heap.objs.size) ∧ s₄.heap.NoLimit ∧ cStatics ∉ wr ∧
          (∀ href : Heap, (∀ b o, s₄.heap.get? b = some o → href.get? b = some o) →
            QuietGenTD X.prog X.w (genEnv scope (cloFrom X.env.cells scope.names []) s₄.heap.objs.size code bi X.env) x y [] elt (List.range s₄.heap.objs.size) wr Pf pz F href (X.A.depth + 1) (X.A.units + 8)) ∧
          (∀ a h₅ tk gs, gs.bare = true → s₄.heap.objs.size < a → h₅.objs.size = a + 1 → (∀ b o, s₄.heap.get? b = some o → h₅.get? b = some o) →
            WalksS X.prog X.w X.A.in4 a (a :: s₄.heap.objs.size :: List.range s₄.heap.objs.size) (s₄.heap.objs.size :: wr) (GenOnlyQ s₄.gens.size) (passing pz n₀ 0).length
              (fun j y => ∃ i, (passing pz n₀ 0)[j]? = some i ∧ F i y) (GenAt X.prog X.w X.A.in4 a s₄.gens.size s₄.heap.objs.size (List.range s₄.heap.objs.size) wr pz n₀ F) →
            GenAt X.prog X.w X.A.in4 a s₄.gens.size s₄.heap.objs.size (List.range s₄.heap.objs.size) wr pz n₀ F 0 { s₄ with gens := s₄.gens.push gs, toks := tk, heap := h₅ } →
            Q' (.ref a) { s₄ with gens := s₄.gens.push gs, toks := tk, heap := h₅ })) X.xe { s1 with heap := h3, toks := tk } := by
    intro code h3 tk ps' hx hsz hP3 hmore ht3
    obtain ⟨bm, ob, e1, e2, e3, e4, e5, e6, e7, e8⟩ := TB.bm
    have hcP : cStatics ≠ P := fun e => by
      obtain ⟨_, hns, _⟩ := I1.nolimit
      obtain ⟨o', es, ep, ho, hd, _⟩ := hns
      rw [e, hPs] at ho
      cases ho
      cases hd
    have hcl : cStatics < s1.heap.objs.size := let ⟨_, hns, _⟩ := I1.nolimit; hns.lt
    have keep3 : ∀ b u, b ≠ P → s1.heap.get? b = some u → h3.get? b = some u := fun b u hb e => hx b u hb (k2 _ _ e)
    refine wpAny_builtinsFor (m := X.mg) (by rw [I1.ok.glob]; exact ((I1.mod.glob.keeps I1.bk).keeps k2).extBut hx TB.gP) e1 e2 (keep3 _ _ e4 (I1.bk _ _ e5)) e6 e7 e8 ?_
    refine ⟨Ia, fp, wr, n, Pf, St, Mid, (fun _ => true), (fun i y => y = .bool (pb i)), rfl, W, hsz2, ?_, ?_, lim2.extBut hx hcP, ?_, ?_, ?_⟩
    · exact (W X.A hr.hd).frame _ _ _ hst fun b hb u e => hx b u (fun z => hPf (z ▸ hb)) e
    · exact fun b hb => Nat.lt_of_lt_of_le (hfp b hb) hsz
    · intro z
      exact absurd (Nat.lt_of_lt_of_le hcl (hwr _ z)) (Nat.lt_irrefl _)
    · intro href hhref
      refine ⟨fun A' E' i v v' s₂ m₂ hA hD hU hPv hn hm hm' hk => ?_, fun A' E' i v v' s₂ m₂ hA hD hU hPv hp hn hm hm' hk => ?_⟩
      · simp only [List.forIn_nil]
        exact wpAny_pure ⟨rfl, keeps_refl _⟩
      · refine hel _ A' E' i v v' s₂ m₂ rfl rfl rfl rfl hA hD hU hPv hn hm hm' fun b o hb e => ?_
        have hb3 := keep3 b o hb e
        refine hk b (List.mem_range.mpr (Heap.lt_size hb3)) (fun z => ?_) o (hhref b o hb3)
        exact absurd (Nat.lt_of_lt_of_le (Heap.lt_size e) (hwr _ z)) (Nat.lt_irrefl _)
    · intro g h5 tk5 gs hgb hag hsz5 hk5 W5 hat
      simp only [GxR.passing_true, List.length_range] at W5
      refine hQ g _ ⟨_, _, _, _, _, W5.in4_1, hat, ?_, fun s' hm => ?_⟩
      · intro j y sj Qj Ej hy hQj
        obtain ⟨i, hij, rfl⟩ := hy
        obtain ⟨hj, ej⟩ := List.getElem?_eq_some_iff.mp hij
        rw [List.getElem_range] at ej
        subst ej
        exact wpAny_truthy_bool hQj
      · obtain ⟨more, em⟩ := hmore
        have nwr : ∀ b u, s1.heap.get? b = some u → b ∉ h3.objs.size :: wr := fun b u e hb => by
          have hl := Heap.lt_size e
          rcases List.mem_cons.mp hb with z | z
          · rw [z] at hl
            have h9 : (h3.objs.size : Nat) < s1.heap.objs.size := hl
            omega
          · exact absurd (Nat.lt_of_lt_of_le hl (hwr _ z)) (Nat.lt_irrefl _)
        have J := inv_tab (more := more) (h' := s'.heap) (g' := s'.gens) (d' := s'.drawn) (t' := s'.toks) I1 hP (fun b u hb e => hm.heap b u (nwr b u e) (hk5 b u (keep3 b u hb e)))
          (by rw [← em]; exact hm.heap P _ (nwr P _ hPs) (hk5 P _ hP3)) (AllBare.movedS (I1.bare.push hgb) hm)
        rw [sh_eta s1 s' hm.os] at J
        refine ⟨upd H1 P (.tbl (ps ++ more)), ⟨⟨ps ++ more, upd_same, by rw [← em]; exact ht3⟩, fun b hb => upd_ne hb⟩, J⟩
  refine ⟨lim2, ?_⟩
  cases hf : codeAmong gpos ps.toList with
  | none =>
    refine wpAny_genexprCodeX hcode (cd.code hP2 ht) (cd.tab hP2) hf fun c' h' tk hx hge hlt hco' _ htab' _ => ?_
    obtain ⟨o1, vs, f1, tf, fl, tg, inF, tx, tt, op, _, _, _, _, _, _, _, _, _, htr, _⟩ := hco'
    exact cont _ h' tk _ hx (Nat.le_trans hge (Nat.le_of_lt hlt)) htab'.2 ⟨_, rfl⟩ htr
  | some cv =>
    refine wpAny_genexprCode_hit hcode (cd.code hP2 ht) hf ?_
    exact cont cv h2 tk2 ps (Heap.ExtBut.refl _ _) (Nat.le_refl _) hP2 ⟨#[], by simp⟩ ht
end

/-! ### any, all -/
/-- the generator expression's scope, as it is written: its captured names are cells of the def -/
structure GenK (env : Env) (scope : Scope) (x : Str) : Prop where
  kind : scope.kind = .function
  co : scope.isCoroutine = false
  cell : ∀ y ∈ scope.names, y.2 ≠ .cell
  dot : scope.names.lookup (".0" : Str) = some NameKind.local
  loc : scope.names.lookup x = some .local
  free : ∀ y ∈ scope.names, y.2 = .free → env.kindOf y.1 = some .cell ∨ env.kindOf y.1 = some .free
theorem GenK.at {X : Cx} {pins : List (Addr × Obj)} {σ : L2.St} {H : Hp} {s : Shared} {scope : Scope} {x : Str} (S : GenK X.env scope x) (I : Inv X pins σ H s) : GenS X.env scope x :=
  ⟨S.kind, S.co, S.cell, S.dot, S.loc, fun y hy e => I.ok.has _ (S.free y hy e)⟩
section
variable {X : Cx} {c P : Addr} {elt iter : Expr} {x y : Str} {px py pt p pos gpos : Pos} {kt : Nat} {scope : Scope} {k : Nat}
/-- what the rule asks: the walked thing's value, its source, its element, the truth values; behind it the def's table may have grown -/
def tGen (X : Cx) (scope : Scope) (x : Str) (elt : Expr) (P : Addr) (te : TE) (fin : Nat → (Nat → Bool) → Bool) : TE := fun σ H Q => te σ H fun v H1 => ∃ (n : Nat) (pb : Nat → Bool), TabG H1 P ∧
  (∀ pins s1 xv, Inv X pins σ H1 s1 → RelV v xv → ∃ Pf, Src X P xv s1 n Pf ∧ Elt X scope x elt P s1 Pf pb) ∧ ∀ H2, Tabbed P H1 H2 → Q (.bl (fin n pb)) H2
def tGen2 (X : Cx) (scope : Scope) (x y : Str) (elt : Expr) (P : Addr) (te : TE) (fin : Nat → (Nat → Bool) → Bool) : TE := fun σ H Q => te σ H fun v H1 => ∃ (n : Nat) (pb : Nat → Bool), TabG H1 P ∧
  (∀ pins s1 xv, Inv X pins σ H1 s1 → RelV v xv → ∃ Pf, (∀ i vals, Pf i vals → ∃ va vb, vals = #[va, vb]) ∧ Src2 X P xv s1 n Pf ∧ Elt2 X scope x y elt P s1 Pf pb) ∧ ∀ H2, Tabbed P H1 H2 → Q (.bl (fin n pb)) H2
def anyF (n : Nat) (pb : Nat → Bool) : Bool := (List.range n).any pb
def allF (n : Nat) (pb : Nat → Bool) : Bool := (List.range n).all pb
theorem pe_any1 {te : TE} (hr : Room k X.A) (hg : Gl X "any") (hm : X.mg "any" = none) (TB : TabB X.base X.mg c P) (hcode : X.env.code = .ref c) (S : GenK X.env scope x) (hi : PE X iter te)
    (hs : ∀ v, genFold iter X.env v = pure v)
    (he : starEach [.GeneratorExp elt [⟨.Name x px, iter, [], 0⟩] scope gpos] X.env = (false, eval (.GeneratorExp elt [⟨.Name x px, iter, [], 0⟩] scope gpos) X.env) :: starEach [] X.env := by rfl) :
    PE X (.Call (.Name "any" p) [.GeneratorExp elt [⟨.Name x px, iter, [], 0⟩] scope gpos] [] pos) (tGen X scope x elt P te anyF) := by
  refine ⟨fun pins s σ H Q I h => ?_⟩
  refine wpAny_Call_Name_kw (ld_blt I hg hm boot_any ?_)
  refine PyProof.Rows.callWith_builtin1 ?_ he (by rfl)
  rw [he]
  show wpAny _ _ (spliced ((false, eval (.GeneratorExp elt [⟨.Name x px, iter, [], 0⟩] scope gpos) X.env) :: backTo pos (starEach [] X.env))) _ _ s
  refine Calls.spliced_cons (gen1 (pins := pins) (σ := σ) hr TB hcode (S.at I) hs (thn (hi.run pins s σ H _ I h) fun xv s1 hx => ?_))
  obtain ⟨v, H1, I1, r1, n, pb, hT, hse, hQ⟩ := hx
  obtain ⟨Pf, h1, h2⟩ := hse pins s1 xv I1 r1
  refine ⟨H1, n, Pf, pb, I1, hT, h1, h2, fun g s5 hG => ?_⟩
  obtain ⟨fp, wr, G, F, St, W, hst, htr, hI⟩ := hG
  refine Calls.spliced_nil ?_
  refine call_any_walkS (W.self 0 _ _ _ hst ⟨g, fp, wr, G, _, F, St, _, rfl, W, hst, htr, fun s' hmv => ?_⟩)
  obtain ⟨H2, hT2, J⟩ := hI s' hmv
  exact ⟨.bl _, H2, J, rfl, hQ H2 hT2⟩
theorem pe_all1 {te : TE} (hr : Room k X.A) (hg : Gl X "all") (hm : X.mg "all" = none) (TB : TabB X.base X.mg c P) (hcode : X.env.code = .ref c) (S : GenK X.env scope x) (hi : PE X iter te)
    (hs : ∀ v, genFold iter X.env v = pure v) (hb : bootBuiltins "all" = some (.builtin "all") := by decide +kernel)
    (he : starEach [.GeneratorExp elt [⟨.Name x px, iter, [], 0⟩] scope gpos] X.env = (false, eval (.GeneratorExp elt [⟨.Name x px, iter, [], 0⟩] scope gpos) X.env) :: starEach [] X.env := by rfl) :
    PE X (.Call (.Name "all" p) [.GeneratorExp elt [⟨.Name x px, iter, [], 0⟩] scope gpos] [] pos) (tGen X scope x elt P te allF) := by
  refine ⟨fun pins s σ H Q I h => ?_⟩
  refine wpAny_Call_Name_kw (ld_blt I hg hm hb ?_)
  refine PyProof.Rows.callWith_builtin1 ?_ he (by rfl)
  rw [he]
  show wpAny _ _ (spliced ((false, eval (.GeneratorExp elt [⟨.Name x px, iter, [], 0⟩] scope gpos) X.env) :: backTo pos (starEach [] X.env))) _ _ s
  refine Calls.spliced_cons (gen1 (pins := pins) (σ := σ) hr TB hcode (S.at I) hs (thn (hi.run pins s σ H _ I h) fun xv s1 hx => ?_))
  obtain ⟨v, H1, I1, r1, n, pb, hT, hse, hQ⟩ := hx
  obtain ⟨Pf, h1, h2⟩ := hse pins s1 xv I1 r1
  refine ⟨H1, n, Pf, pb, I1, hT, h1, h2, fun g s5 hG => ?_⟩
  obtain ⟨fp, wr, G, F, St, W, hst, htr, hI⟩ := hG
  refine Calls.spliced_nil ?_
  refine call_all_walkS (W.self 0 _ _ _ hst ⟨g, fp, wr, G, _, F, St, _, rfl, W, hst, htr, fun s' hmv => ?_⟩)
  obtain ⟨H2, hT2, J⟩ := hI s' hmv
  exact ⟨.bl _, H2, J, rfl, hQ H2 hT2⟩
theorem pe_any2 {te : TE} (hr : Room k X.A) (hg : Gl X "any") (hm : X.mg "any" = none) (TB : TabB X.base X.mg c P) (hcode : X.env.code = .ref c) (S : GenK X.env scope x) (hy : scope.names.lookup y = some .local) (hxy : x ≠ y) (hi : PE X iter te)
    (hs : ∀ v, genFold iter X.env v = pure v)
    (he : starEach [.GeneratorExp elt [⟨.Tuple [.Name x px, .Name y py] kt pt, iter, [], 0⟩] scope gpos] X.env = (false, eval (.GeneratorExp elt [⟨.Tuple [.Name x px, .Name y py] kt pt, iter, [], 0⟩] scope gpos) X.env) :: starEach [] X.env := by rfl) :
    PE X (.Call (.Name "any" p) [.GeneratorExp elt [⟨.Tuple [.Name x px, .Name y py] kt pt, iter, [], 0⟩] scope gpos] [] pos) (tGen2 X scope x y elt P te anyF) := by
  refine ⟨fun pins s σ H Q I h => ?_⟩
  refine wpAny_Call_Name_kw (ld_blt I hg hm boot_any ?_)
  refine PyProof.Rows.callWith_builtin1 ?_ he (by rfl)
  rw [he]
  show wpAny _ _ (spliced ((false, eval (.GeneratorExp elt [⟨.Tuple [.Name x px, .Name y py] kt pt, iter, [], 0⟩] scope gpos) X.env) :: backTo pos (starEach [] X.env))) _ _ s
  refine Calls.spliced_cons (gen2 (pins := pins) (σ := σ) hr TB hcode (S.at I) hy hxy hs (thn (hi.run pins s σ H _ I h) fun xv s1 hx => ?_))
  obtain ⟨v, H1, I1, r1, n, pb, hT, hse, hQ⟩ := hx
  obtain ⟨Pf, h0, h1, h2⟩ := hse pins s1 xv I1 r1
  refine ⟨H1, n, Pf, pb, I1, hT, h0, h1, h2, fun g s5 hG => ?_⟩
  obtain ⟨fp, wr, G, F, St, W, hst, htr, hI⟩ := hG
  refine Calls.spliced_nil ?_
  refine call_any_walkS (W.self 0 _ _ _ hst ⟨g, fp, wr, G, _, F, St, _, rfl, W, hst, htr, fun s' hmv => ?_⟩)
  obtain ⟨H2, hT2, J⟩ := hI s' hmv
  exact ⟨.bl _, H2, J, rfl, hQ H2 hT2⟩
end
end RgG

namespace RgG
open PySem PySem.Spec PyProof.Rows L2 GxR
section
variable {X : Cx} {pins : List (Addr × Obj)} {σ : L2.St} {H : Hp} {s : Shared} {P : Addr} {xs : List V}
/-- item i is a value of xs's i-th -/
def ItemV (xs : List V) (i : Nat) (v : Value) : Prop := ∃ x, xs[i]? = some x ∧ RelV x v
theorem src_tup {a : Addr} (I : Inv X pins σ H s) (hP : ∃ ps, H P = some (.tbl ps)) (h : SqT X.K H a xs) : Src X P (.ref a) s xs.length (ItemV xs) := by
  intro Q' hQ
  obtain ⟨its, rv, p, hz⟩ := I.tuple h
  obtain ⟨o, e, hc, n, hd⟩ := p
  have hIT : s.heap.IsTuple a its.toArray := ⟨o, e, hc, n, hd⟩
  have hlt : a < s.heap.objs.size := Heap.lt_size e
  have hlen : its.length = xs.length := rv.length.symm
  obtain ⟨ps, hps⟩ := hP
  have hPs : s.heap.get? P = some { cls := .none, data := .fields ps } := I.hok P _ hps
  have haP : a ≠ P := fun z => by
    rw [z, hPs] at e
    cases e
    cases hc
  have hPlt : P < s.heap.objs.size := Heap.lt_size hPs
  refine wpAny_pyIter_tuple hIT ?_
  generalize ho : ({ cls := .type "tuple_iterator", data := .fields #[.ref a, .int 0 0] } : Obj) = ob
  refine hQ (s.heap.push ob) s.toks s.heap.objs.size [s.heap.objs.size, a] [s.heap.objs.size] (fun i h => h.IsTupleIter s.heap.objs.size a i ∧ h.IsTuple a its.toArray) (fun b o q => Heap.get?_push_of_some _ q) (by rw [Heap.size_push]; exact Nat.le_succ _) (fun A' hA => ?_) ⟨?_, hIT.push _⟩ ?_ ?_ ?_
  · have W := Walks.tuple (prog := X.prog) (w := X.w) (A := A') hA s.heap.objs.size a (Nat.ne_of_lt hlt) its.toArray
    have es : its.toArray.size = xs.length := by rw [List.size_toArray, hlen]
    rw [es] at W
    refine PySem.Walks.mono_item W fun i v hi hv => ?_
    have hv2 : its[i]? = some v := by simpa using hv
    have hx : xs[i]? = some xs[i] := List.getElem?_eq_getElem hi
    obtain ⟨u, hu, ru⟩ := rv.get hx
    rw [hv2] at hu
    cases hu
    exact ⟨_, hx, ru⟩
  · subst ho
    exact ⟨_, Heap.get?_push_size _ rfl, rfl, rfl⟩
  · intro b hb
    rw [Heap.size_push]
    rcases List.mem_cons.mp hb with z | z
    · rw [z]; exact Nat.lt_succ_self _
    · rcases List.mem_cons.mp z with z | z
      · rw [z]; exact Nat.lt_succ_of_lt hlt
      · cases z
  · intro hb
    rcases List.mem_cons.mp hb with z | z
    · rw [z] at hPlt; exact Nat.lt_irrefl _ hPlt
    · rcases List.mem_cons.mp z with z | z
      · exact haP z.symm
      · cases z
  · intro b hb
    rcases List.mem_cons.mp hb with z | z
    · rw [z]; exact Nat.le_refl _
    · cases z
/-- range(n) as a value -/
theorem cr_range1 : CallR X (.type "range") (fun vs H Q => ∃ j, vs = [V.int j] ∧ ∀ p, H p = none → Q (.ref p) (upd H p (.rng 0 j))) := by
  intro pins s σ H vs us Q I r h
  obtain ⟨j, rfl, q⟩ := h
  obtain ⟨u1, rfl, rj⟩ := vals1 r
  obtain ⟨u, rfl⟩ := rj
  refine call_range_1 ⟨.ref s.heap.objs.size, upd H s.heap.objs.size (.rng 0 j), I.laid (t' := s.toks + 1 + 1) (fun b o e => Heap.get?_push_of_some _ e) (Nat.le_refl _) ?_, rfl, q _ (I.hok.fresh (Nat.le_refl _))⟩
  exact ⟨s.toks, u, s.toks + 1, Heap.get?_push_size _ rfl⟩
def ItemI (n : Nat) (i : Nat) (v : Value) : Prop := i < n ∧ ∃ t, v = .int (i : Int) t
theorem src_rng {a : Addr} {n : Nat} (I : Inv X pins σ H s) (hP : ∃ ps, H P = some (.tbl ps)) (h : H a = some (.rng 0 (n : Int))) (hn : (n : Int) < 2 ^ 62) : Src X P (.ref a) s n (ItemI n) := by
  intro Q' hQ
  obtain ⟨t, u, v, e⟩ := I.hok a _ h
  obtain ⟨ps, hps⟩ := hP
  have hPs : s.heap.get? P = some { cls := .none, data := .fields ps } := I.hok P _ hps
  have hPlt : P < s.heap.objs.size := Heap.lt_size hPs
  refine wpAny_pyIter_range e (small_one (by decide) (by decide) (by omega) hn) ?_
  have e2 : Builtin.Range.rangeSize 0 (n : Int) 1 = (n : Int) := by rw [rangeSize_one]; split <;> omega
  rw [e2]
  generalize ho : ({ cls := .type "range_iterator", data := .fields #[rawInt 0, rawInt (n : Int), rawInt 1] } : Obj) = ob
  refine hQ (s.heap.push ob) s.toks s.heap.objs.size [s.heap.objs.size] [s.heap.objs.size] (fun i h => IsRangeIter h s.heap.objs.size (0 + (i : Nat) * 1) ((n : Int) - (i : Nat)) 1) (fun b o q => Heap.get?_push_of_some _ q) (by rw [Heap.size_push]; exact Nat.le_succ _) (fun A' hA => ?_) ?_ ?_ ?_ ?_
  · refine PySem.Walks.mono_item (Walks.range (prog := X.prog) (w := X.w) (A := A') hA s.heap.objs.size 0 1 n) fun i v hi hv => ?_
    obtain ⟨t, e⟩ := hv
    exact ⟨hi, t, by rw [e]; congr 1; omega⟩
  · subst ho
    show IsRangeIter _ _ (0 + ((0 : Nat) : Int) * 1) ((n : Int) - ((0 : Nat) : Int)) 1
    have e1 : (0 : Int) + ((0 : Nat) : Int) * 1 = 0 := by decide
    have e3 : (n : Int) - ((0 : Nat) : Int) = n := by omega
    rw [e1, e3]
    exact Heap.get?_push_size _ rfl
  · intro b hb
    rw [Heap.size_push]
    rcases List.mem_cons.mp hb with z | z
    · rw [z]; exact Nat.lt_succ_self _
    · cases z
  · intro hb
    rcases List.mem_cons.mp hb with z | z
    · rw [z] at hPlt; exact Nat.lt_irrefl _ hPlt
    · cases z
  · intro b hb
    rcases List.mem_cons.mp hb with z | z
    · rw [z]; exact Nat.le_refl _
    · cases z
/-- pairs: the i-th is a pair of values of ps's i-th -/
def ItemP (ps : List (V × V)) (i : Nat) (vals : Array Value) : Prop := ∃ p u w, ps[i]? = some p ∧ vals = #[u, w] ∧ RelV p.1 u ∧ RelV p.2 w
theorem src_pairs {a : Addr} {ts : List Addr} {prs : List (V × V)} (I : Inv X pins σ H s) (hP : ∃ ps, H P = some (.tbl ps)) (h : SqL X.K H a (ts.map V.ref)) (hl : ts.length = prs.length)
    (ht : ∀ (i : Nat) (t : Addr) (p : V × V), ts[i]? = some t → prs[i]? = some p → H t = some (.tup [p.1, p.2])) : Src2 X P (.ref a) s prs.length (ItemP prs) := by
  intro Q' hQ
  obtain ⟨its, rv, p, hz⟩ := I.list h
  have hIL := p.isList
  obtain ⟨o, e, hc, n, hd⟩ := id hIL
  have hlt : a < s.heap.objs.size := Heap.lt_size e
  have hlen : its.length = ts.length := by rw [← rv.length, List.length_map]
  obtain ⟨ps, hps⟩ := hP
  have hPs : s.heap.get? P = some { cls := .none, data := .fields ps } := I.hok P _ hps
  have haP : a ≠ P := fun z => by
    rw [z, hPs] at e
    cases e
    cases hc
  have hPlt : P < s.heap.objs.size := Heap.lt_size hPs
  -- the tuples, as they stand
  have tup : ∀ (i : Nat) (t : Addr) (p : V × V), ts[i]? = some t → prs[i]? = some p → ∃ u w, s.heap.IsTuple t #[u, w] ∧ RelV p.1 u ∧ RelV p.2 w := fun i t p h1 h2 => by
    obtain ⟨_, us, r, q⟩ := (show ObjOk X.prog X.w H s.heap t (.tup [p.1, p.2]) from I.hok t _ (ht i t p h1 h2))
    obtain ⟨u, w, rfl, r1, r2⟩ := vals2 r
    exact ⟨u, w, q, r1, r2⟩
  -- choose the addresses and pairs
  let Ts : Nat → Addr := fun i => ts.getD i 0
  have hTs : ∀ (i : Nat) (t : Addr), ts[i]? = some t → Ts i = t := fun i t h1 => by
    show ts.getD i 0 = t
    rw [List.getD_eq_getElem?_getD, h1]
    rfl
  have hval : ∃ vals : Nat → Array Value, ∀ i, i < prs.length → s.heap.IsTuple (Ts i) (vals i) ∧ ItemP prs i (vals i) := by
    have h1 : ∀ i : Nat, ∃ v : Array Value, i < prs.length → s.heap.IsTuple (Ts i) v ∧ ItemP prs i v := fun i => by
      by_cases hi : i < prs.length
      · have hi2 : i < ts.length := by omega
        obtain ⟨u, w, q, r1, r2⟩ := tup i ts[i] prs[i] (List.getElem?_eq_getElem hi2) (List.getElem?_eq_getElem hi)
        refine ⟨#[u, w], fun _ => ⟨?_, prs[i], u, w, List.getElem?_eq_getElem hi, rfl, r1, r2⟩⟩
        rw [hTs i ts[i] (List.getElem?_eq_getElem hi2)]
        exact q
      · exact ⟨#[], fun z => absurd z hi⟩
    exact ⟨fun i => Classical.choose (h1 i), fun i => Classical.choose_spec (h1 i)⟩
  obtain ⟨vals, hvals⟩ := hval
  have es : its.toArray.size = prs.length := by rw [List.size_toArray, hlen, hl]
  have hit : ∀ j, j < its.toArray.size → its.toArray[j]? = some (.ref (Ts j)) := fun j hj => by
    have hj2 : j < ts.length := by omega
    have hx : (ts.map V.ref)[j]? = some (V.ref ts[j]) := by rw [List.getElem?_map, List.getElem?_eq_getElem hj2]; rfl
    obtain ⟨u, hu, ru⟩ := rv.get hx
    rw [hTs j ts[j] (List.getElem?_eq_getElem hj2)]
    have e9 : u = Value.ref ts[j] := ru
    rw [← e9]
    simpa using hu
  have hTlt : ∀ j, j < its.toArray.size → Ts j < s.heap.objs.size := fun j hj => by
    obtain ⟨⟨_, e, _⟩, _⟩ := hvals j (by omega)
    exact Heap.lt_size e
  have hTP : ∀ j, j < its.toArray.size → Ts j ≠ P := fun j hj z => by
    obtain ⟨⟨_, e, hc, _⟩, _⟩ := hvals j (by omega)
    rw [z, hPs] at e
    cases e
    cases hc
  refine wpAny_pyIter_list hIL ?_
  generalize ho : ({ cls := .type "list_iterator", data := .fields #[.ref a, .int 0 0] } : Obj) = ob
  refine hQ (s.heap.push ob) s.toks s.heap.objs.size (s.heap.objs.size :: a :: (List.range its.toArray.size).map Ts) [s.heap.objs.size]
    (fun j h => h.IsListIter s.heap.objs.size a j ∧ h.IsList a its.toArray ∧ ∀ k, k < its.toArray.size → h.IsTuple (Ts k) (vals k))
    (fun j T h => (j < its.toArray.size ∧ T = Ts j) ∧ h.IsListIter s.heap.objs.size a (j + 1) ∧ h.IsList a its.toArray ∧ ∀ k, k < its.toArray.size → h.IsTuple (Ts k) (vals k))
    (fun b o q => Heap.get?_push_of_some _ q) (by rw [Heap.size_push]; exact Nat.le_succ _) (fun A' hA => ?_) ⟨?_, hIL.push _, fun k hk => (hvals k (by omega)).1.push _⟩ ?_ ?_ ?_
  · have W := (WalksU.listOfTuples (prog := X.prog) (w := X.w) (A := A') hA s.heap.objs.size a (Nat.ne_of_lt hlt) its.toArray Ts vals hit (fun j hj => Nat.ne_of_lt (hTlt j hj))).bound
    rw [← es]
    exact { sub := W.sub, frame := W.frame, item := fun i s Q E hi st hQ => W.item i s Q E hi st fun T v h' tk hv hT hm hk => hQ T v h' tk (by rw [hv.2]; exact (hvals i (by omega)).2) hT hm hk, go := W.go, apart := W.apart, done := W.done, self := W.self }
  · subst ho
    exact ⟨_, Heap.get?_push_size _ rfl, rfl, rfl⟩
  · intro b hb
    rw [Heap.size_push]
    rcases List.mem_cons.mp hb with z | z
    · rw [z]; exact Nat.lt_succ_self _
    · rcases List.mem_cons.mp z with z | z
      · rw [z]; exact Nat.lt_succ_of_lt hlt
      · obtain ⟨j, hj, e⟩ := List.mem_map.mp z
        rw [← e]
        exact Nat.lt_succ_of_lt (hTlt j (List.mem_range.mp hj))
  · intro hb
    rcases List.mem_cons.mp hb with z | z
    · rw [z] at hPlt; exact Nat.lt_irrefl _ hPlt
    · rcases List.mem_cons.mp z with z | z
      · exact haP z.symm
      · obtain ⟨j, hj, e⟩ := List.mem_map.mp z
        exact hTP j (List.mem_range.mp hj) e
  · intro b hb
    rcases List.mem_cons.mp hb with z | z
    · rw [z]; exact Nat.le_refl _
    · cases z
theorem itemP_two {prs : List (V × V)} : ∀ i vals, ItemP prs i vals → ∃ va vb, vals = #[va, vb] := fun _ _ ⟨_, u, w, _, e, _⟩ => ⟨u, w, e⟩
end
end RgG

/-! elements of generator expressions, at the level of the machine -/
namespace RgE
open PySem PySem.Spec PyProof.Rows L2 Rg GxR
abbrev KeepsH (h h' : Heap) : Prop := ∀ b o, h.get? b = some o → h'.get? b = some o
theorem mod_keeps {K : PySem.W.Frag} {mg : Str → Option Value} {h h' : Heap} (M : Mod K mg h) (k : KeepsH h h') : Mod K mg h' :=
  ⟨M.kin.keeps k, M.glob.keeps k, let ⟨mb, a, b⟩ := M.blt; ⟨mb, a.keeps k, b⟩, M.nolimit.keeps k⟩
/-- what isinstance is to know of the value u of x -/
def Kt (K : PySem.W.Frag) (x : V) (u : Value) (h : Heap) : Prop := ∃ (T : String) (Pz : Heap → Prop), PySem.W.KitX K u (.type T) Pz ∧ (∀ h', KeepsH h h' → Pz h') ∧ u ≠ .builtin "__main__.__loader__#opaque" ∧
  ((kitB T "int" = some true ∧ kitB T "bool" = some false ∧ ∃ i t, x = .int i ∧ u = .int i t) ∨ (kitB T "int" = some true ∧ kitB T "bool" = some true ∧ ∀ i, x ≠ .int i) ∨ (kitB T "int" = some false ∧ ∀ i, x ≠ .int i))
theorem Kt.keeps {K : PySem.W.Frag} {x : V} {u : Value} {h h' : Heap} (k : Kt K x u h) (e : KeepsH h h') : Kt K x u h' :=
  let ⟨T, Pz, Z, p, n, r⟩ := k
  ⟨T, Pz, Z, fun h2 e2 => p h2 fun b o q => e2 b o (e b o q), n, r⟩
/-- is_in, as plain Lean -/
def isIn (x : V) (a c : Int) : Bool := match x with
  | .int i => decide (a ≤ i) && decide (i ≤ c)
  | _ => false
section
variable {prog : Program} {w : World} {A : Around} {E : Value → Shared → Prop} {s : Shared} {K : PySem.W.Frag} {mg : Str → Option Value} {cenv : Env} {m : Str → Option Value} {Q : Value → Shared → Prop}
theorem ld_loc {x : Str} {p : Pos} {v : Value} (hk : cenv.scope.kind = .function) (hl : cenv.scope.names.lookup x = some .local) (hn : s.heap.Ns cenv.locals m) (hm : m x = some v) (h : Q v s) (hd : (x == ("__debug__" : Str)) = false := by decide) :
    wpAny (model prog w) A (eval (.Name x p) cenv) Q E s := wpAny_Name (wpAny_loadName_local hk hl hn hm h) hd
theorem ld_cel {x : Str} {p : Pos} {v : Value} {c : Addr} (hk : cenv.scope.kind = .function) (hl : cenv.scope.names.lookup x = some .free) (hc : cenv.cells.lookup x = some c) (hm : s.heap.IsCell c (some v)) (h : Q v s) (hd : (x == ("__debug__" : Str)) = false := by decide) (hcd : (x == ("__classdict__" : Str)) = false := by decide) :
    wpAny (model prog w) A (eval (.Name x p) cenv) Q E s := wpAny_Name (wpAny_loadName_free hk hl hc hm h hcd) hd
theorem ld_bi {x : Str} {p : Pos} {u : Value} (M : Mod K mg s.heap) (hk : cenv.scope.kind = .function) (hg : cenv.kindOf x = some .globalImplicit) (eg : cenv.globals = mainGlobals) (eb : cenv.builtins = builtinsNs) (hm : mg x = none) (hv : bootBuiltins x = some u) (h : Q u s)
    (hn : x ≠ "__name__" := by decide) (hd : (x == ("__debug__" : Str)) = false := by decide) : wpAny (model prog w) A (eval (.Name x p) cenv) Q E s := by
  obtain ⟨mb, h1, h2⟩ := M.blt
  exact Calls.Name_function_global hk hg (Calls.loadGlobal_builtin (by rw [eg]; exact M.glob) hm (by rw [eb]; exact h1) ((h2 x hn).trans hv) h) hd
theorem ld_gl {x : Str} {p : Pos} {u : Value} (M : Mod K mg s.heap) (hk : cenv.scope.kind = .function) (hg : cenv.kindOf x = some .globalImplicit) (eg : cenv.globals = mainGlobals) (hm : mg x = some u) (h : Q u s)
    (hd : (x == ("__debug__" : Str)) = false := by decide) : wpAny (model prog w) A (eval (.Name x p) cenv) Q E s :=
  Calls.Name_function_global hk hg (Calls.loadGlobal_global (by rw [eg]; exact M.glob) hm h) hd
/-- isinstance(x, T), x a name of the frame -/
theorem isi_raw {x y : Str} {p p1 p2 pos : Pos} {T c : String} {b : Bool} {v : Value} {Pz : Heap → Prop} (M : Mod K mg s.heap) (hk : cenv.scope.kind = .function) (hg : cenv.kindOf "isinstance" = some .globalImplicit) (hg2 : cenv.kindOf y = some .globalImplicit)
    (eg : cenv.globals = mainGlobals) (eb : cenv.builtins = builtinsNs) (hm : mg "isinstance" = none) (hm2 : mg y = none) (hv2 : bootBuiltins y = some (.type c)) (hl : cenv.scope.names.lookup x = some .local) (hn : s.heap.Ns cenv.locals m) (hx : m x = some v)
    (Z : PySem.W.KitX K v (.type T) Pz) (hp : Pz s.heap) (hne : v ≠ .builtin "__main__.__loader__#opaque") (e : kitB T c = some b) (h : ∀ tk, Q (.bool b) { s with toks := tk })
    (hd1 : (x == ("__debug__" : Str)) = false := by decide) (hd2 : (y == ("__debug__" : Str)) = false := by decide) (hyn : y ≠ "__name__" := by decide)
    (he : starEach [.Name x p1, .Name y p2] cenv = (false, eval (.Name x p1) cenv) :: starEach [.Name y p2] cenv := by rfl) (he2 : starEach [.Name y p2] cenv = (false, eval (.Name y p2) cenv) :: starEach [] cenv := by rfl)
    (hpl : (backTo pos (starEach [.Name y p2] cenv)).any (·.1) = false := by rfl) :
    wpAny (model prog w) A (eval (.Call (.Name "isinstance" p) [.Name x p1, .Name y p2] [] pos) cenv) Q E s := by
  refine wpAny_Call_Name_kw (ld_bi M hk hg eg eb hm boot_isinstance ?_)
  refine PyProof.Rows.callWith_builtin1 ?_ he hpl
  rw [he]
  show wpAny _ _ (spliced ((false, eval (.Name x p1) cenv) :: backTo pos (starEach [.Name y p2] cenv))) _ _ s
  refine Calls.spliced_cons (ld_loc hk hl hn hx ?_ hd1)
  rw [he2]
  show wpAny _ _ (spliced ((false, eval (.Name y p2) cenv) :: backTo pos (starEach [] cenv))) _ _ s
  refine Calls.spliced_cons (ld_bi M hk hg2 eg eb hm2 hv2 ?_ hyn hd2)
  refine Calls.spliced_nil ?_
  exact PySem.W.kia_one Z M.kin hp (kit_ty e) hne h
end
section
variable {P : Program} {w : World} {A : Around} {s : Shared} {K : PySem.W.Frag} {mg : Str → Option Value}
theorem isin_call {f : Addr} {fd : FuncData} (F : Fun K "is_in" "is_in" sIsIn f fd) (hb : Binds K fd ["value", "least", "most"] []) (m1 : mg "isinstance" = none) (m2 : mg "int" = none) (m3 : mg "bool" = none)
    {x : V} {u : Value} {a c : Int} {t1 t2 : Tok} (M : Mod K mg s.heap) (hroom : A.depth < recursionLimit) (kt : Kt K x u s.heap) :
    codeAny (model P w) A (.call (.ref f) ⟨[u, .int a t1, .int c t2], []⟩) (fun r s' => r = .ok (.ret (.bool (isIn x a c))) ∧ Keeps s s') s := by
  obtain ⟨oc, od, kV, doc, pm, an, cdv, ct, osl, rfl, lk, hcd⟩ := F.ex
  obtain ⟨T, Pz, Z, hz, hne, hk3⟩ := kt
  refine Att.call_fn (binds := [("value", u), ("least", .int a t1), ("most", .int c t2)]) M.kin M.nolimit lk hcd hroom (hb s [u, .int a t1, .int c t2] M.kin rfl) (by rfl) (fun s1 x1 => ?_) rfl rfl rfl
  obtain ⟨h1, tk, rfl, hk⟩ := x1.done
  have M1 : Mod K mg h1 := mod_keeps M hk
  have hn := x1.toInCall.ns
  have g0 : bindL (envOfC "is_in" (defScope sIsIn) s.heap.objs.size f cdv).kindOf [("value", u), ("least", .int a t1), ("most", .int c t2)] (fun _ => none) "value" = some u := by with_unfolding_all rfl
  have g1 : bindL (envOfC "is_in" (defScope sIsIn) s.heap.objs.size f cdv).kindOf [("value", u), ("least", .int a t1), ("most", .int c t2)] (fun _ => none) "least" = some (.int a t1) := by with_unfolding_all rfl
  have g2 : bindL (envOfC "is_in" (defScope sIsIn) s.heap.objs.size f cdv).kindOf [("value", u), ("least", .int a t1), ("most", .int c t2)] (fun _ => none) "most" = some (.int c t2) := by with_unfolding_all rfl
  have fin : ∀ (b : Bool) (tk' : Nat), b = isIn x a c → ((.ok (.ret (.bool b)) : Result) = .ok (.ret (.bool (isIn x a c)))) ∧ Keeps s { s with heap := h1, toks := tk' } := fun b tk' e => ⟨by rw [e], h1, tk', rfl, hk⟩
  refine wpAny_execs_cons (wpAny_Return_some ?_)
  refine BoolOp_and ?_
  rcases hk3 with ⟨k1, k2, i, t, ex, eu⟩ | ⟨k1, k2, hx⟩ | ⟨k1, hx⟩
  · refine isi_raw M1 rfl rfl rfl rfl rfl m1 m2 boot_int rfl hn g0 Z (hz _ hk) hne k1 fun tk1 => wpAny_truthy_bool ?_
    refine BoolOp_and (UnaryOp_ (isi_raw M1 rfl rfl rfl rfl rfl m1 m3 boot_bool rfl hn g0 Z (hz _ hk) hne k2 fun tk2 => PyProof.Rows.not_of (wpAny_truthy_bool (wpAny_truthy_bool ?_))))
    subst ex eu
    refine BoolOp_one (Compare_chain (ld_loc rfl rfl hn g1 (chain_link (ld_loc rfl rfl hn g0 (le_int (wpAny_truthy_bool ?_))))) (by with_unfolding_all rfl))
    by_cases ha : a ≤ i
    · rw [decide_eq_true ha]
      refine ite_tt (chain_last (ld_loc rfl rfl hn g2 (le_int ?_)))
      exact fin _ _ (by show decide (i ≤ c) = (decide (a ≤ i) && decide (i ≤ c)); rw [decide_eq_true ha, Bool.true_and])
    · rw [decide_eq_false ha]
      exact ite_ff (fin _ _ (by show false = (decide (a ≤ i) && decide (i ≤ c)); rw [decide_eq_false ha, Bool.false_and]))
  · have ef : isIn x a c = false := by
      cases x with
      | int i => exact absurd rfl (hx i)
      | _ => rfl
    refine isi_raw M1 rfl rfl rfl rfl rfl m1 m2 boot_int rfl hn g0 Z (hz _ hk) hne k1 fun tk1 => wpAny_truthy_bool ?_
    refine BoolOp_and (UnaryOp_ (isi_raw M1 rfl rfl rfl rfl rfl m1 m3 boot_bool rfl hn g0 Z (hz _ hk) hne k2 fun tk2 => PyProof.Rows.not_of (wpAny_truthy_bool (wpAny_truthy_bool ?_))))
    exact fin _ _ ef.symm
  · have ef : isIn x a c = false := by
      cases x with
      | int i => exact absurd rfl (hx i)
      | _ => rfl
    refine isi_raw M1 rfl rfl rfl rfl rfl m1 m2 boot_int rfl hn g0 Z (hz _ hk) hne k1 fun tk1 => wpAny_truthy_bool ?_
    exact fin _ _ ef.symm
end
end RgE

namespace RgE
open PySem PySem.Spec PyProof.Rows L2 Rg GxR RgG
section
variable {X : Cx} {pins : List (Addr × Obj)} {σ : L2.St} {H : Hp} {s s2 : Shared} {P : Addr}
/-- all but the table stands -/
abbrev KeepsBut (P : Addr) (h h' : Heap) : Prop := ∀ b o, b ≠ P → h.get? b = some o → h'.get? b = some o
def TblAt (H : Hp) (P : Addr) : Prop := ∃ ps, H P = some (.tbl ps)
theorem TblAt.get (t : TblAt H P) (I : Inv X pins σ H s) : ∃ ps : Array Value, s.heap.get? P = some { cls := .none, data := .fields ps } := let ⟨ps, e⟩ := t; ⟨ps, I.hok P _ e⟩
theorem mod_at (I : Inv X pins σ H s) (t : TblAt H P) (k : KeepsBut P s.heap s2.heap) : Mod X.K X.mg s2.heap := by
  obtain ⟨ps, e⟩ := t
  refine mod_keeps I.mod fun b o hb => k b o (fun z => ?_) (I.bk b o hb)
  have := (I.bs b o hb).2
  rw [z, e] at this
  cases this
/-- another object than the table -/
theorem ne_tab (I : Inv X pins σ H s) (t : TblAt H P) {a : Addr} {o : Obj} (e : s.heap.get? a = some o) (h : o.cls ≠ .none) : a ≠ P := fun z => by
  obtain ⟨ps, q⟩ := t.get I
  rw [z, q] at e
  cases e
  exact h rfl
/-- a value whose kind is seen -/
def Ty0 (H : Hp) : V → Prop
  | .non => True
  | .bl _ => True
  | .int _ => True
  | .str _ => True
  | .ref a => (∃ xs, H a = some (.lst xs)) ∨ ∃ xs, H a = some (.tup xs)
  | _ => False
theorem kt_of {K : PySem.W.Frag} (I : Inv X pins σ H s) (t : TblAt H P) {x : V} {u : Value} (r : RelV x u) (ty : Ty0 H x) (k : KeepsBut P s.heap s2.heap) : Kt K x u s2.heap := by
  cases x with
  | non =>
    obtain rfl : u = Value.none := r
    exact ⟨"NoneType", _, PySem.W.kitx_none, fun _ _ => True.intro, (fun z => nomatch z), .inr (.inr ⟨by decide +kernel, fun i z => nomatch z⟩)⟩
  | bl b =>
    obtain rfl : u = Value.bool b := r
    exact ⟨"bool", _, PySem.W.kitx_bool, fun _ _ => True.intro, (fun z => nomatch z), .inr (.inl ⟨by decide +kernel, by decide +kernel, fun i z => nomatch z⟩)⟩
  | int i =>
    obtain ⟨t', rfl⟩ := (show ∃ t, u = Value.int i t from r)
    exact ⟨"int", _, PySem.W.kitx_int, fun _ _ => True.intro, (fun z => nomatch z), .inl ⟨by decide +kernel, by decide +kernel, i, t', rfl, rfl⟩⟩
  | str z =>
    obtain ⟨t', rfl⟩ := (show ∃ t, u = Value.str z t from r)
    exact ⟨"str", _, PySem.W.kitx_str, fun _ _ => True.intro, (fun z => nomatch z), .inr (.inr ⟨by decide +kernel, fun i z => nomatch z⟩)⟩
  | ref a =>
    obtain rfl : u = Value.ref a := r
    rcases ty with ⟨xs, e⟩ | ⟨xs, e⟩
    · obtain ⟨_, _, n, _, h1⟩ := (show ObjOk X.prog X.w H s.heap a (.lst xs) from I.hok a _ e)
      have h2 := k a _ (ne_tab I t h1 (by simp)) h1
      exact ⟨"list", _, PySem.W.kitx_list, fun h' q => ⟨_, q a _ h2, rfl⟩, (fun z => nomatch z), .inr (.inr ⟨by decide +kernel, fun i z => nomatch z⟩)⟩
    · obtain ⟨_, _, _, o, h1, hc, _⟩ := (show ObjOk X.prog X.w H s.heap a (.tup xs) from I.hok a _ e)
      have h2 := k a _ (ne_tab I t h1 (by rw [hc]; simp)) h1
      exact ⟨"tuple", _, PySem.W.kitx_tuple, fun h' q => ⟨o, q a _ h2, hc⟩, (fun z => nomatch z), .inr (.inr ⟨by decide +kernel, fun i z => nomatch z⟩)⟩
  | byt b => exact ty.elim
  | flt b => exact ty.elim
  | ty n => exact ty.elim
theorem clo_lookup {cells : List (Str × Addr)} {names : List (Str × NameKind)} {y : Str} {c : Addr} (h : (y, .free) ∈ names) (e : cells.lookup y = some c) : (cloFrom cells names []).lookup y = some c := by
  obtain ⟨c', q⟩ := mem_lookup (cloFrom_has (cells := cells) (acc := []) h)
  rcases cloFrom_mem (PySem.mem_of_lookup q) with z | ⟨_, z⟩
  · exact nomatch z
  · rw [q, z, e]
    rfl
/-- a captured name -/
theorem cap {i : Nat} {y : Str} {v : V} {scope : Scope} (I : Inv X pins σ H s) (t : TblAt H P) (hN : X.N[i]? = some y) (hσ : σ[i]? = some (some v)) (hk : X.env.kindOf y = some .cell ∨ X.env.kindOf y = some .free) (hf : (y, .free) ∈ scope.names)
    (k : KeepsBut P s.heap s2.heap) : ∃ u c, RelV v u ∧ (cloFrom X.env.cells scope.names []).lookup y = some c ∧ s2.heap.IsCell c (some u) := by
  obtain ⟨m, hn, hl⟩ := I.loc
  obtain ⟨u, r, l⟩ := hl i y v hN hσ (by rcases hk with z | z; exact .inr (.inl z); exact .inr (.inr z))
  rcases l with ⟨z, _⟩ | ⟨_, c, hc, o, ho, hd⟩
  · rcases hk with q | q
    · rw [q] at z; cases z
    · rw [q] at z; cases z
  · refine ⟨u, c, r, clo_lookup hf hc, o, k c o (fun z => ?_) ho, hd⟩
    obtain ⟨ps, q⟩ := t.get I
    rw [z, q] at ho
    cases ho
    cases hd
theorem list_at {a : Addr} {xs : List V} (I : Inv X pins σ H s) (t : TblAt H P) (h : SqL X.K H a xs) (k : KeepsBut P s.heap s2.heap) : ∃ its : List Value, Vals xs its ∧ s2.heap.IsList a its.toArray ∧ xs.length ≤ sizeLine := by
  obtain ⟨its, rv, p, hz⟩ := I.list h
  obtain ⟨o, e, hc, n, hd⟩ := p.isList
  exact ⟨its, rv, ⟨o, k a o (ne_tab I t e (by rw [hc]; simp)) e, hc, n, hd⟩, hz⟩
theorem tup_at {a : Addr} {xs : List V} (I : Inv X pins σ H s) (t : TblAt H P) (h : SqT X.K H a xs) (k : KeepsBut P s.heap s2.heap) : ∃ its : List Value, Vals xs its ∧ IsTup s2.heap a its.toArray ∧ xs.length ≤ sizeLine := by
  obtain ⟨its, rv, p, hz⟩ := I.tuple h
  obtain ⟨o, e, hc, n, hd⟩ := p
  exact ⟨its, rv, ⟨o, k a o (ne_tab I t e (by rw [hc]; simp)) e, hc, n, hd⟩, hz⟩
end
section
variable {prog : Program} {w : World} {A : Around} {E : Value → Shared → Prop} {s : Shared} {K : PySem.W.Frag} {mg : Str → Option Value} {cenv : Env} {Q : Value → Shared → Prop}
/-- is_in(e1, e2, e3) -/
theorem isin_ev {f : Addr} {fd : FuncData} {e1 e2 e3 : Expr} {p pos : Pos} (F : Fun K "is_in" "is_in" sIsIn f fd) (hb : Binds K fd ["value", "least", "most"] []) (m1 : mg "isinstance" = none) (m2 : mg "int" = none) (m3 : mg "bool" = none) (m4 : mg "is_in" = some (.ref f))
    (M : Mod K mg s.heap) (hroom : A.depth < recursionLimit) (hk : cenv.scope.kind = .function) (hg : cenv.kindOf "is_in" = some .globalImplicit) (eg : cenv.globals = mainGlobals)
    (h : wpAny (model prog w) A (eval e1 cenv) (fun u s1 => wpAny (model prog w) A (eval e2 cenv) (fun v s2 => wpAny (model prog w) A (eval e3 cenv) (fun z s3 => ∃ x a c t1 t2, v = .int a t1 ∧ z = .int c t2 ∧ Mod K mg s3.heap ∧ Kt K x u s3.heap ∧
      ∀ s4, Keeps s3 s4 → Q (.bool (isIn x a c)) s4) E s2) E s1) E s)
    (he1 : starEach [e1, e2, e3] cenv = (false, eval e1 cenv) :: starEach [e2, e3] cenv := by rfl) (he2 : starEach [e2, e3] cenv = (false, eval e2 cenv) :: starEach [e3] cenv := by rfl) (he3 : starEach [e3] cenv = (false, eval e3 cenv) :: starEach [] cenv := by rfl)
    (hpl : (backTo pos (starEach [e2, e3] cenv)).any (·.1) = false := by rfl) : wpAny (model prog w) A (eval (.Call (.Name "is_in" p) [e1, e2, e3] [] pos) cenv) Q E s := by
  refine wpAny_Call_Name_kw (ld_gl M hk hg eg m4 ?_)
  refine PySem.W.callWith_K (h₀ := s.heap) M.kin F.kp ?_ he1 hpl
  rw [he1]
  show wpAny _ _ (spliced ((false, eval e1 cenv) :: backTo pos (starEach [e2, e3] cenv))) _ _ s
  refine Calls.spliced_cons (thn h fun u s1 h1 => ?_)
  rw [he2]
  show wpAny _ _ (spliced ((false, eval e2 cenv) :: backTo pos (starEach [e3] cenv))) _ _ s1
  refine Calls.spliced_cons (thn h1 fun v s2 h2 => ?_)
  rw [he3]
  show wpAny _ _ (spliced ((false, eval e3 cenv) :: backTo pos (starEach [] cenv))) _ _ s2
  refine Calls.spliced_cons (thn h2 fun z s3 h3 => ?_)
  obtain ⟨x, a, c, t1, t2, rfl, rfl, M3, kt, hQ⟩ := h3
  refine Calls.spliced_nil ⟨M3.kin, ?_⟩
  refine wpAny_call (codeAny_mono (isin_call F hb m1 m2 m3 M3 hroom kt) fun r s' hr => ?_)
  obtain ⟨rfl, k⟩ := hr
  exact hQ s' k
end
theorem keeps_tk {s : Shared} {h : Heap} {tk : Nat} {s4 : Shared} (k : Keeps { s with toks := tk } s4) : Keeps s s4 := by
  obtain ⟨h', tk', rfl, k⟩ := k
  exact ⟨h', tk', rfl, k⟩
section
variable {X : Cx} {pins : List (Addr × Obj)} {σ : L2.St} {H : Hp} {s : Shared} {P : Addr} {scope : Scope} {k : Nat}
/-- is_in(one, 1, MOST_DISTANCE) for one in a tuple -/
theorem elt_need {f : Addr} {fd : FuncData} {xs : List V} {p p1 p2 p3 pos : Pos} {j : Nat} {c : Int} {t : Tok} (F : Fun X.K "is_in" "is_in" sIsIn f fd) (hb : Binds X.K fd ["value", "least", "most"] []) (m1 : X.mg "isinstance" = none) (m2 : X.mg "int" = none) (m3 : X.mg "bool" = none) (m4 : X.mg "is_in" = some (.ref f))
    (m5 : X.mg "MOST_DISTANCE" = some (.int c t)) (hr : Room k X.A) (I : Inv X pins σ H s) (hT : TblAt H P) (hty : ∀ x ∈ xs, Ty0 H x)
    (hk : scope.kind = .function) (l1 : scope.names.lookup ("one" : Str) = some .local) (l2 : scope.names.lookup ("is_in" : Str) = some .globalImplicit) (l3 : scope.names.lookup ("MOST_DISTANCE" : Str) = some .globalImplicit) :
    Elt X scope "one" (.Call (.Name "is_in" p) [.Name "one" p1, .Constant (.int 1) j p2, .Name "MOST_DISTANCE" p3] [] pos) P s (ItemV xs) (fun i => isIn (xs.getD i .non) 1 c) := by
  intro cenv A' E' i v s2 m2' es ec eg eb hA hD hU hP hn hm kp
  obtain ⟨x, hx, rx⟩ := hP
  have M2 := mod_at I hT kp
  have hx2 : xs.getD i .non = x := by rw [List.getD_eq_getElem?_getD, hx]; rfl
  have hroom : A'.depth < recursionLimit := by have := hr.dp; omega
  refine isin_ev F hb m1 m2 m3 m4 M2 hroom (by rw [es]; exact hk) (by show cenv.scope.names.lookup _ = _; rw [es]; exact l2) (by rw [eg]; exact I.ok.glob)
    (ld_loc (by rw [es]; exact hk) (by rw [es]; exact l1) hn hm (wpAny_Constant_int (ld_gl (by exact M2) (by rw [es]; exact hk) (by show cenv.scope.names.lookup _ = _; rw [es]; exact l3) (by rw [eg]; exact I.ok.glob) m5 ?_)))
  refine ⟨x, 1, c, _, _, rfl, rfl, M2, kt_of I hT rx (hty x (List.mem_of_getElem? hx)) kp, fun s4 k4 => ⟨(by show _ = Value.bool (isIn (xs.getD i .non) 1 c); rw [hx2]), ?_⟩⟩
  obtain ⟨h', tk', rfl, k⟩ := k4
  exact ⟨h', tk', rfl, k⟩
/-- one is None or is_in(one, 0, len(distances) - 1) for one in a tuple; distances in slot i0 -/
def okItem (x : V) (n : Int) : Bool := decide (x = .non) || isIn x 0 (n - 1)
theorem elt_shows {f : Addr} {fd : FuncData} {xs ds : List V} {ad : Addr} {i0 : Nat} {p p1 p2 p3 p4 p5 p6 p7 p8 p9 pos pos2 pos3 : Pos} {j j2 j3 : Nat} (F : Fun X.K "is_in" "is_in" sIsIn f fd) (hb : Binds X.K fd ["value", "least", "most"] []) (m1 : X.mg "isinstance" = none) (m2 : X.mg "int" = none) (m3 : X.mg "bool" = none) (m4 : X.mg "is_in" = some (.ref f))
    (m5 : X.mg "len" = none) (hr : Room k X.A) (I : Inv X pins σ H s) (hT : TblAt H P) (hty : ∀ x ∈ xs, Ty0 H x)
    (hN : X.N[i0]? = some "distances") (hσ : σ[i0]? = some (some (.ref ad))) (hds : SqT X.K H ad ds) (hkd : X.env.kindOf "distances" = some .cell)
    (hk : scope.kind = .function) (l1 : scope.names.lookup ("one" : Str) = some .local) (l2 : scope.names.lookup ("is_in" : Str) = some .globalImplicit) (l3 : scope.names.lookup ("len" : Str) = some .globalImplicit) (l4 : scope.names.lookup ("distances" : Str) = some .free) :
    Elt X scope "one" (.BoolOp .Or [.Compare (.Name "one" p1) [.Is] [.Constant .none j p2] p3, .Call (.Name "is_in" p) [.Name "one" p4, .Constant (.int 0) j2 p5, .BinOp (.Call (.Name "len" p6) [.Name "distances" p7] [] p8) .Sub (.Constant (.int 1) j3 p9) pos2] [] pos] pos3) P s (ItemV xs) (fun i => okItem (xs.getD i .non) ds.length) := by
  intro cenv A' E' i v s2 m2' es ec eg eb hA hD hU hP hn hm kp
  obtain ⟨x, hx, rx⟩ := hP
  have M2 := mod_at I hT kp
  have hx2 : xs.getD i .non = x := by rw [List.getD_eq_getElem?_getD, hx]; rfl
  have hroom : A'.depth < recursionLimit := by have := hr.dp; omega
  have hkc : cenv.scope.kind = .function := by rw [es]; exact hk
  have gl : cenv.globals = mainGlobals := by rw [eg]; exact I.ok.glob
  refine BoolOp_or (wpAny_Compare1 (ld_loc hkc (by rw [es]; exact l1) hn hm (Constant_none (is_none_gen (wpAny_truthy_bool ?_)))))
  rw [rx.none_iff]
  by_cases hnon : x = .non
  · rw [decide_eq_true hnon]
    refine ite_tt ⟨?_, keeps_refl _⟩
    show Value.bool true = .bool (okItem (xs.getD i .non) ds.length)
    rw [hx2]
    unfold okItem
    rw [decide_eq_true hnon]
    rfl
  · rw [decide_eq_false hnon]
    refine ite_ff (BoolOp_one ?_)
    obtain ⟨ud, cc, rd, hcl, hcell⟩ := cap (s2 := s2) (scope := scope) I hT hN hσ (.inl hkd) (PySem.mem_of_lookup l4) kp
    obtain rfl : ud = Value.ref ad := rd
    obtain ⟨its, rv, hIT, hz⟩ := tup_at I hT hds kp
    have hlen := rv.length
    have hn63 := line63
    refine isin_ev F hb m1 m2 m3 m4 M2 hroom hkc (by show cenv.scope.names.lookup _ = _; rw [es]; exact l2) gl
      (ld_loc hkc (by rw [es]; exact l1) hn hm (wpAny_Constant_int ?_))
    refine wpAny_BinOp ?_
    refine wpAny_Call_Name_kw (ld_bi (by exact M2) hkc (by show cenv.scope.names.lookup _ = _; rw [es]; exact l3) gl eb m5 PySem.boot_len ?_)
    refine PyProof.Rows.callWith_builtin1 ?_ rfl rfl
    show wpAny _ _ (spliced ((false, eval (.Name "distances" p7) cenv) :: backTo p8 (starEach [] cenv))) _ _ _
    refine Calls.spliced_cons (ld_cel hkc (by rw [es]; exact l4) (by rw [ec]; exact hcl) hcell ?_)
    refine Calls.spliced_nil ?_
    refine len_tuple hIT (by simp only [List.size_toArray] <;> omega) ?_
    refine wpAny_Constant_int (sub_int ?_)
    have e9 : ((its.toArray.size : Nat) : Int) = (ds.length : Int) := by rw [List.size_toArray, hlen]
    rw [e9]
    refine ⟨x, 0, _, _, _, rfl, rfl, M2, kt_of I hT rx (hty x (List.mem_of_getElem? hx)) kp, fun s4 k4 => ⟨?_, ?_⟩⟩
    · show _ = Value.bool (okItem (xs.getD i .non) ds.length)
      rw [hx2]
      unfold okItem
      rw [decide_eq_false hnon]
      rfl
    · obtain ⟨h', tk', rfl, k⟩ := k4
      exact ⟨h', tk', rfl, k⟩

/-- later in alive, for index, later in a list of pairs; alive in slot i0, a dict with tuple keys -/
theorem elt_alive {prs : List (V × V)} {kvs : List (List Key × V)} {ks : List (List Key)} {da : Addr} {i0 : Nat} {p1 p2 p3 : Pos} (hr : Room k X.A) (I : Inv X pins σ H s) (hT : TblAt H P)
    (hN : X.N[i0]? = some "alive") (hσ : σ[i0]? = some (some (.ref da))) (hda : Rd H da (.dT kvs)) (hkd : X.env.kindOf "alive" = some .cell ∨ X.env.kindOf "alive" = some .free)
    (hks : ∀ (i : Nat) (p : V × V), prs[i]? = some p → ∃ b ky, ks[i]? = some ky ∧ p.2 = .ref b ∧ H b = some (.tup (ky.map kV)))
    (hk : scope.kind = .function) (l1 : scope.names.lookup ("later" : Str) = some .local) (l4 : scope.names.lookup ("alive" : Str) = some .free) :
    Elt2 X scope "index" "later" (.Compare (.Name "later" p1) [.In] [.Name "alive" p2] p3) P s (ItemP prs) (fun i => (valV kvs (ks.getD i [])).isSome) := by
  intro cenv A' E' i v v' s2 m2' es ec eg eb hA hD hU hP hn hm hm' kp
  obtain ⟨p, u, w, hp, hv, ru, rw'⟩ := hP
  obtain rfl : v = u := by have := congrArg (fun a : Array Value => a[0]?) hv; simpa using this
  obtain rfl : v' = w := by have := congrArg (fun a : Array Value => a[1]?) hv; simpa using this
  obtain ⟨b, ky, hky, ep, hb⟩ := hks i p hp
  rw [ep] at rw'
  obtain rfl : v' = Value.ref b := rw'
  have hkc : cenv.scope.kind = .function := by rw [es]; exact hk
  obtain ⟨ud, cc, rd, hcl, hcell⟩ := cap (s2 := s2) (scope := scope) I hT hN hσ hkd (PySem.mem_of_lookup l4) kp
  obtain rfl : ud = Value.ref da := rd
  obtain ⟨z, hd, xs, rel, dd⟩ := dt_rd I.hok hda
  obtain ⟨ps, hPs⟩ := hT.get I
  have kSeq : ∀ b o vs n, s.heap.get? b = some o → o.data = .seq vs n → s2.heap.get? b = some o := fun b o vs n e q => kp b o (fun z => by
    rw [z, hPs] at e
    cases e
    cases q) e
  have dd2 : s2.heap.DictOfH (tupleKind (mixKind X.prog X.w)) da xs := by
    obtain ⟨o, es', ep', h1, h2, h3, h4, h5, h6⟩ := dd
    refine ⟨o, es', ep', kp da o (fun z => ?_) h1, h2, h3, h4, fun x hx => tupleKind_stays.stays kSeq (h5 x hx), h6⟩
    rw [z, hPs] at h1
    cases h1
    cases h3
  have key2 : (tupleKind (mixKind X.prog X.w)).is s2.heap ky b := tupleKind_stays.stays kSeq (key_of I.hok hb)
  have hu : A'.units + 1 < cLine := by have := hr.un; omega
  refine wpAny_Compare1 (ld_loc hkc (by rw [es]; exact l1) hn hm' (ld_cel hkc (by rw [es]; exact l4) (by rw [ec]; exact hcl) hcell ?_))
  refine wpAny_in_heap (tupleKind_room_in1 hu) key2 hd dd2 ⟨?_, keeps_tok _ _⟩
  have q := (rel.val ky).isSome_eq
  rw [Option.isSome_map] at q
  show Value.bool _ = Value.bool ((valV kvs (ks.getD i [])).isSome)
  rw [List.getD_eq_getElem?_getD, hky]
  show Value.bool _ = Value.bool ((valV kvs ky).isSome)
  rw [q]
/-- xs[i] in a frame, xs a captured list, i the int j -/
theorem ix_ev {prog : Program} {w : World} {A : Around} {E : Value → Shared → Prop} {s : Shared} {cenv : Env} {Q : Value → Shared → Prop} {y x : Str} {p1 p2 p3 : Pos} {a c : Addr} {its : List Value} {m : Str → Option Value} {i : Nat} {t : Tok} {u : Value}
    (hk : cenv.scope.kind = .function) (hl : cenv.scope.names.lookup y = some .free) (hc : cenv.cells.lookup y = some c) (hcell : s.heap.IsCell c (some (.ref a))) (hx : cenv.scope.names.lookup x = some .local) (hn : s.heap.Ns cenv.locals m) (hm : m x = some (.int (i : Int) t))
    (hL : s.heap.IsList a its.toArray) (hi : its[i]? = some u) (hz : its.length ≤ sizeLine) (h : Q u s) (hd1 : (y == ("__debug__" : Str)) = false := by decide) (hd2 : (y == ("__classdict__" : Str)) = false := by decide) (hd3 : (x == ("__debug__" : Str)) = false := by decide)
    (hs : ∀ ov iv, subscripted (.Name x p2) false ov iv = operate [ov, iv] (getItem ov iv) := by intro _ _; rfl) :
    wpAny (model prog w) A (eval (.Subscript (.Name y p1) (.Name x p2) p3) cenv) Q E s := by
  have hn63 := line63
  have hlt := (List.getElem?_eq_some_iff.mp hi).1
  refine Subscript_ (ld_cel hk hl hc hcell (ld_loc hk hx hn hm ?_ hd3) hd1 hd2)
  exact item_listR hL (by omega) (by omega) (by simpa using hi) h (hs _ _)
/-- later[j] - places[j] > distance, for j in range(n) -/
theorem elt_gap {ls ps : List Int} {d : Int} {al ap : Addr} {il ip id0 n : Nat} {p1 p2 p3 p4 p5 p6 p7 p8 p9 : Pos} (I : Inv X pins σ H s) (hT : TblAt H P)
    (hNl : X.N[il]? = some "later") (hσl : σ[il]? = some (some (.ref al))) (hL : SqL X.K H al (ls.map V.int)) (hkl : X.env.kindOf "later" = some .cell)
    (hNp : X.N[ip]? = some "places") (hσp : σ[ip]? = some (some (.ref ap))) (hPl : SqL X.K H ap (ps.map V.int)) (hkp : X.env.kindOf "places" = some .cell)
    (hNd : X.N[id0]? = some "distance") (hσd : σ[id0]? = some (some (.int d))) (hkd : X.env.kindOf "distance" = some .cell)
    (hnl : n ≤ ls.length) (hnp : n ≤ ps.length)
    (hk : scope.kind = .function) (l1 : scope.names.lookup ("j" : Str) = some .local) (l2 : scope.names.lookup ("later" : Str) = some .free) (l3 : scope.names.lookup ("places" : Str) = some .free) (l4 : scope.names.lookup ("distance" : Str) = some .free) :
    Elt X scope "j" (.Compare (.BinOp (.Subscript (.Name "later" p1) (.Name "j" p2) p3) .Sub (.Subscript (.Name "places" p4) (.Name "j" p5) p6) p7) [.Gt] [.Name "distance" p8] p9) P s (ItemI n) (fun i => decide (ls.getD i 0 - ps.getD i 0 > d)) := by
  intro cenv A' E' i v s2 m2' es ec eg eb hA hD hU hP hn hm kp
  obtain ⟨hi, t, rfl⟩ := hP
  have hkc : cenv.scope.kind = .function := by rw [es]; exact hk
  obtain ⟨u1, c1, r1, hc1, he1⟩ := cap (s2 := s2) (scope := scope) I hT hNl hσl (.inl hkl) (PySem.mem_of_lookup l2) kp
  obtain rfl : u1 = Value.ref al := r1
  obtain ⟨u2, c2, r2, hc2, he2⟩ := cap (s2 := s2) (scope := scope) I hT hNp hσp (.inl hkp) (PySem.mem_of_lookup l3) kp
  obtain rfl : u2 = Value.ref ap := r2
  obtain ⟨u3, c3, r3, hc3, he3⟩ := cap (s2 := s2) (scope := scope) I hT hNd hσd (.inl hkd) (PySem.mem_of_lookup l4) kp
  obtain ⟨t3, rfl⟩ := (show ∃ t, u3 = Value.int d t from r3)
  obtain ⟨itl, rvl, hIl, hzl⟩ := list_at I hT hL kp
  obtain ⟨itp, rvp, hIp, hzp⟩ := list_at I hT hPl kp
  have hl1 : (ls.map V.int)[i]? = some (V.int (ls.getD i 0)) := by
    rw [List.getElem?_map, List.getD_eq_getElem?_getD, List.getElem?_eq_getElem (by omega)]; rfl
  have hp1 : (ps.map V.int)[i]? = some (V.int (ps.getD i 0)) := by
    rw [List.getElem?_map, List.getD_eq_getElem?_getD, List.getElem?_eq_getElem (by omega)]; rfl
  obtain ⟨w1, ew1, rw1⟩ := rvl.get hl1
  obtain ⟨w2, ew2, rw2⟩ := rvp.get hp1
  obtain ⟨tl, rfl⟩ := (show ∃ t, w1 = Value.int _ t from rw1)
  obtain ⟨tp, rfl⟩ := (show ∃ t, w2 = Value.int _ t from rw2)
  have zl := rvl.length
  have zp := rvp.length
  refine wpAny_Compare1 (wpAny_BinOp ?_)
  refine ix_ev hkc (by rw [es]; exact l2) (by rw [ec]; exact hc1) he1 (by rw [es]; exact l1) hn hm hIl ew1 (by omega) ?_
  refine ix_ev hkc (by rw [es]; exact l3) (by rw [ec]; exact hc2) he2 (by rw [es]; exact l1) hn hm hIp ew2 (by omega) ?_
  refine sub_int (ld_cel hkc (by rw [es]; exact l4) (by rw [ec]; exact hc3) he3 (gt_int ⟨rfl, keeps_tok _ _⟩))
end
end RgE

/-! t[::-1] of a tuple -/
namespace RgR
open PySem PySem.Spec PyProof.Rows L2 HT
theorem pick_rev (xs : List Value) : ((List.range xs.length).filterMap fun (k : Nat) => xs.toArray[(((xs.length : Int) - 1) + (k : Int) * (-1)).toNat]?) = xs.reverse := by
  have h : ∀ n, n ≤ xs.length → ((List.range n).filterMap fun (k : Nat) => xs.toArray[(((xs.length : Int) - 1) + (k : Int) * (-1)).toNat]?) = xs.reverse.take n := by
    intro n
    induction n with
    | zero => intro _; rfl
    | succ n ih =>
      intro hn
      rw [List.range_succ, List.filterMap_append, ih (by omega)]
      have e1 : (((xs.length : Int) - 1) + (n : Int) * (-1)).toNat = xs.length - 1 - n := by omega
      have e2 : xs.toArray[xs.length - 1 - n]? = some (xs[xs.length - 1 - n]'(by omega)) := by
        rw [List.getElem?_toArray, List.getElem?_eq_getElem (by omega)]
      have e3 : xs.reverse[n]? = some (xs[xs.length - 1 - n]'(by omega)) := by
        rw [List.getElem?_reverse (by omega), List.getElem?_eq_getElem (by omega)]
      rw [List.take_add_one, e3, List.filterMap_cons, e1, e2]
      rfl
  rw [h xs.length (Nat.le_refl _)]
  exact List.take_of_length_le (by rw [List.length_reverse]; exact Nat.le_refl _)
section
variable {prog : Program} {w : World} {A : Around} {E : Value → Shared → Prop} {s : Shared}
theorem sliceApplied_rev {sl : Addr} {vs : Value} {n : Nat} {Q : Int × Int × Nat → Shared → Prop} (hs : s.heap.IsSliceOf sl .none .none vs) (ps : IsPart vs (some (-1)))
    (h : Q ((n : Int) - 1, -1, n) s) : wpAny (model prog w) A (Builtin.Slice.sliceApplied (.ref sl) (pure (n : Int))) Q E s := by
  obtain ⟨os, hos, hcs, hds⟩ := id hs
  unfold Builtin.Slice.sliceApplied Builtin.Slice.sliceFields
  refine wpAny_bind (wpAny_bind (wpAny_field hos hds (x := .none) rfl (wpAny_bind (wpAny_field hos hds (x := .none) rfl (wpAny_bind (wpAny_field hos hds (x := vs) rfl (wpAny_pure ?_)))))))
  refine wpAny_bind (slicePart_ ps ?_)
  show wpAny _ _ (if ((-1 : Int) == 0) = true then _ else _) _ _ s
  rw [if_neg (by decide)]
  refine wpAny_bind (slicePart_ .none (wpAny_bind (slicePart_ .none (wpAny_bind (wpAny_pure ?_)))))
  show wpAny _ _ (match Builtin.Slice.sliceAdjust none none (-1) (n : Int) with | (lo, hi) => pure (lo, (-1 : Int), Builtin.Slice.slicePlaces lo hi (-1))) _ _ s
  have e1 : Builtin.Slice.sliceAdjust none none (-1) (n : Int) = ((n : Int) - 1, -1) := rfl
  rw [e1]
  show wpAny _ _ (pure ((n : Int) - 1, (-1 : Int), Builtin.Slice.slicePlaces ((n : Int) - 1) (-1) (-1))) _ _ s
  have e2 : Builtin.Slice.slicePlaces ((n : Int) - 1) (-1) (-1) = n := by
    unfold Builtin.Slice.slicePlaces
    have h1 : ¬ ((-1 : Int) > 0) := by omega
    simp only [h1, if_false]
    split
    · have : -(-1 : Int) = 1 := by decide
      rw [this, Int.ediv_one]
      omega
    · omega
  rw [e2]
  exact wpAny_pure h
theorem getItem_tuple_rev {t sl : Addr} {its : List Value} {vs : Value} {Q : Value → Shared → Prop} (ht : IsTup s.heap t its.toArray) (hs : s.heap.IsSliceOf sl .none .none vs) (ps : IsPart vs (some (-1)))
    (h : Q (.ref s.heap.objs.size) { s with heap := s.heap.push { cls := .type "tuple", data := .seq its.reverse.toArray } })
    (hsz : its.length ≤ sizeLine) : wpAny (model prog w) A (getItem (.ref t) (.ref sl)) Q E s := by
  have htake : sizeOk (.seq its.reverse.toArray) := by
    show its.reverse.toArray.size ≤ sizeLine
    rw [List.size_toArray, List.length_reverse]
    exact hsz
  obtain ⟨os, hos, hcs, hds⟩ := id hs
  have hTs : s.TypeIs (.ref sl) "slice" := ⟨os, hos, hcs⟩
  unfold getItem
  try with_reducible refine wpAny_holding ?_
  first | refine wpAny_bind (wpAny_pure ?_) | skip
  refine wpAny_bind (wpAny_sequenceKey ht.typeIs (by decide) ?_)
  refine wpAny_bind (wpAny_callSpecial?_slot (name := Str.ofString "__getitem__") ht.typeIs PyProof.Rows.slot_tuple_getitem
    (wpAny_call_entry PyProof.Rows.slot_tuple_getitem ht.typeIs entry_tuple_getitem ?_ (args_tuple_getitem _ _)))
  show wpAny _ _ (Builtin.Tuple.tupleItemsOf (.ref t) >>= _) _ _ s
  refine wpAny_bind (tupleItemsOf_ ht ?_)
  refine wpAny_bind (wpAny_typeOf hTs ?_)
  rw [if_pos (by decide)]
  have hlen : its.toArray.size = its.length := List.size_toArray
  refine wpAny_bind (sliceApplied_rev hs ps ?_)
  have hno : ¬ (((((its.toArray.size : Nat) : Int) - 1) == 0 && ((-1 : Int)) == 1 && its.toArray.size == its.toArray.size) = true) := by
    intro q
    rw [Bool.and_eq_true, Bool.and_eq_true] at q
    exact absurd q.1.2 (by decide)
  show wpAny _ _ (if ((((its.toArray.size : Nat) : Int) - 1) == 0 && ((-1 : Int)) == 1 && its.toArray.size == its.toArray.size) = true then _ else _) _ _ s
  rw [if_neg hno, hlen, pick_rev]
  first
    | exact wpAny_bind (m := Builtin.Tuple.tupleExact _) (wpAny_newObj_type (wpAny_pure ⟨_, rfl, wpAny_pure h⟩) htake)
    | exact wpAny_bind (m := Builtin.Tuple.tupleExact _) (wpAny_newObj_type (wpAny_bind (wpAny_pure (wpAny_pure ⟨_, rfl, wpAny_pure h⟩))) htake)
    | exact wpAny_bind (wpAny_bind (m := Builtin.Tuple.tupleExact _) (wpAny_newObj_type (wpAny_pure (wpAny_pure ⟨_, rfl, wpAny_pure h⟩)) htake))
    | exact wpAny_bind (wpAny_bind (m := Builtin.Tuple.tupleExact _) (wpAny_newObj_type (wpAny_pure ⟨_, rfl, wpAny_pure h⟩) htake))
end
def tRevT (K : PySem.W.Frag) (te : TE) : TE := fun σ H Q => te σ H fun x H1 => ∃ a xs, x = .ref a ∧ SqT K H1 a xs ∧ ∀ p, H1 p = none → Q (.ref p) (upd H1 p (.tup xs.reverse))
theorem pe_revT {X : Cx} {e : Expr} {te : TE} {k : Nat} {p1 p2 p3 pos : Pos} (he : PE X e te) : PE X (.Subscript e (.Slice none none (some (.UnaryOp .USub (.Constant (.int 1) k p1) p2)) p3) pos) (tRevT X.K te) := by
  refine ⟨fun pins s σ H Q I h => ?_⟩
  refine Subscript_ (thn (he.run pins s σ H _ I h) fun v s1 ⟨x, H1, I1, r1, q1⟩ => ?_)
  obtain ⟨a, xs, ex, hx, q⟩ := q1
  subst ex
  cases r1
  have hst : PO X (some (.UnaryOp .USub (.Constant (.int 1) k p1) p2)) (tPart (tUn (rU fun i => .int (-i)) (tC (.int 1)))) := po_some (pe_un un_neg pe_int)
  refine wpAny_Slice ?_
  rw [evalPart_none]
  refine wpAny_pure (wpAny_pure ?_)
  refine thn (hst.run pins s1 σ H1 (fun o H4 => o = some (-1) ∧ H4 = H1) I1 ⟨1, rfl, -1, rfl, rfl, rfl⟩) fun vs s4 ⟨o, H4, I4, ps, eo, e4⟩ => ?_
  subst eo e4
  have I5 : Inv X pins σ H4 { s4 with heap := s4.heap.push { cls := .type "slice", data := .fields #[.none, .none, vs] } } := I4.kept (t' := s4.toks) fun b ob q => Heap.get?_push_of_some _ q
  obtain ⟨its, r, ht, hz⟩ := I5.tuple hx
  have hlen := r.length
  show wpAny (model X.prog X.w) X.A (subscriptTail e (.Slice none none (some (.UnaryOp .USub (.Constant (.int 1) k p1) p2)) p3) (.ref a) (.ref s4.heap.objs.size)) (EP X pins σ Q) X.xe { s4 with heap := s4.heap.push { cls := .type "slice", data := .fields #[.none, .none, vs] } }
  refine tail_any (ops := [.ref a, .ref s4.heap.objs.size]) ht.typeIs (PyProof.Rows.slot_tuple_getitem.lookup) ?_ (by with_unfolding_all rfl)
  refine getItem_tuple_rev ht (Heap.IsSliceOf.new _ .none .none vs) ps ?_ (by omega)
  refine ⟨.ref _, _, I5.laid (t' := s4.toks) (o := .tup xs.reverse) (fun b ob q => Heap.get?_push_of_some _ q) (Nat.le_refl _) ?_, rfl, q _ (I5.hok.fresh (Nat.le_refl _))⟩
  exact ⟨by rw [List.length_reverse]; exact hz, _, r.reverse, _, Heap.get?_push_size _ rfl, rfl, _, rfl⟩
end RgR

/-! enumerate of a tuple -/
namespace RgR
open PySem PySem.Spec PyProof.Rows L2
open AutoSeq1 (wpAny_loadPart')
theorem meets_enumerate_newT (l : Addr) (items : Array Value) (n : Nat) (dct : Option Addr) (sl : Array (Option Value)) :
    Meets (Builtin.«enumerate.__new__» ⟨[.type "enumerate", .ref l], []⟩) (fun _ R s => s.heap.get? l = some { cls := .type "tuple", dict := dct, data := .seq items n, slots := sl } ∧
      R (.ok (.ret (.ref (s.heap.push { cls := .type "tuple_iterator", data := .fields #[.ref l, .int 0 0] }).objs.size)))
        { s with heap := (s.heap.push { cls := .type "tuple_iterator", data := .fields #[.ref l, .int 0 0] }).push { cls := .type "enumerate", data := .fields #[.none, .bool false, .ref s.heap.objs.size, rawInt 0, .none, .none] } }) :=
  .of_wp fun prog w A R s h => by
    obtain ⟨hp, g, d, tk, os⟩ := s; obtain ⟨hl, h⟩ := h
    have hsub := sub_enumerate
    have hL : Heap.IsTuple (Shared.heap ⟨hp, g, d, tk, os⟩) l items := ⟨_, hl, rfl, n, rfl⟩
    wp_walk using wpAny_loadPart' hl
    refine wpAny_stack_any fun st => wpAny_pure ?_
    split
    · rename_i c _ _ _ _ _
      cases (c == Value.type "enumerate")
      · wp_walk using wpAny_loadPart' hl, wpAny_pyIter_tuple hL
        exact ⟨_, rfl, h⟩
      · wp_walk using wpAny_loadPart' hl, wpAny_pyIter_tuple hL
        exact ⟨_, rfl, h⟩
    · wp_walk using wpAny_loadPart' hl, wpAny_pyIter_tuple hL
      exact ⟨_, rfl, h⟩
section
variable {prog : Program} {w : World} {A : Around} {E : Value → Shared → Prop} {s : Shared}
theorem call_enumerate_tuple {l : Addr} {items : Array Value} {Q : Value → Shared → Prop} (hL : s.heap.IsTuple l items)
    (h : ∀ h', IsEnum h' (s.heap.objs.size + 1) s.heap.objs.size 0 .none → h'.IsTupleIter s.heap.objs.size l 0 → h'.objs.size = s.heap.objs.size + 2 →
      (∀ b o, s.heap.get? b = some o → h'.get? b = some o) → Q (.ref (s.heap.objs.size + 1)) { s with heap := h' }) :
    wpAny (model prog w) A (call (.type "enumerate") [.ref l]) Q E s := by
  obtain ⟨⟨c, dct, dt, sl⟩, hl, hc, n, hd⟩ := hL
  replace hc : c = .type "tuple" := hc
  replace hd : dt = .seq items n := hd
  subst hc hd
  refine callType_new F.called_enumerate (by decide) (F.typeCall_enumerate_1 _) (F.newCall_enumerate_1 _) (fun obj => F.args_object_init_2 obj _) F.entry_enumerate_new
    (meets_enumerate_newT l items n dct sl) ⟨hl, ?_⟩
  have hz : (s.heap.push { cls := .type "tuple_iterator", data := .fields #[.ref l, .int 0 0] }).objs.size = s.heap.objs.size + 1 := Heap.size_push ..
  show _ ∧ _
  rw [hz]
  have he : IsEnum ((s.heap.push { cls := .type "tuple_iterator", data := .fields #[.ref l, .int 0 0] }).push
      { cls := .type "enumerate", data := .fields #[.none, .bool false, .ref s.heap.objs.size, rawInt 0, .none, .none] }) (s.heap.objs.size + 1) s.heap.objs.size 0 .none := by
    have := Heap.get?_push_size (s.heap.push { cls := .type "tuple_iterator", data := .fields #[.ref l, .int 0 0] })
      (o := { cls := .type "enumerate", data := .fields #[.none, .bool false, .ref s.heap.objs.size, rawInt 0, .none, .none] }) rfl
    rw [hz] at this; exact this
  refine ⟨⟨_, he, rfl⟩, h _ he ⟨_, Heap.get?_push_of_some _ (Heap.get?_push_size _ rfl), rfl, rfl⟩ (by rw [Heap.size_push, hz]) fun b o x => Heap.get?_push_of_some _ (Heap.get?_push_of_some _ x)⟩
end
/-- the tuple at a, each item in a new pair -/
def IteT (K : PySem.W.Frag) (a : Addr) : It :=
  ⟨fun i H => ∃ (xs : List V) (x : V), SqT K H a xs ∧ xs[i]? = some x, fun i H v H' => ∃ T x, v = .ref T ∧ H T = none ∧ H' = upd H T (.tup [.int (i : Nat), x]) ∧ ∀ xs, SqT K H a xs → xs[i]? = some x, fun i H => ∃ xs : List V, SqT K H a xs ∧ xs.length ≤ i⟩
theorem turn_enumT {P : Program} {w : World} {K : PySem.W.Frag} {elts : List Expr} {kk : Nat} {tpos : Pos} (a e it : Addr) :
    Turn P w K (.Tuple elts kk tpos) (IteT K a) [e, it] e (fun i h => (∃ old, IsEnum h e it ((i : Nat) : Int) old) ∧ h.IsTupleIter it a i ∧ e ≠ it ∧ a ≠ it ∧ a ≠ e) where
  mem := by simp
  obj := fun i h st b hb => by
    obtain ⟨⟨old, he⟩, ⟨o, ho, hc, hd⟩, _⟩ := st
    have e' : b = e ∨ b = it := by simpa using hb
    rcases e' with z | z
    · rw [z]; exact ⟨_, he, fun v q => nomatch q⟩
    · rw [z]; exact ⟨o, ho, fun v q => by rw [hd] at q; cases q⟩
  keep := fun i h h' st k => let ⟨⟨old, he⟩, hi, hne⟩ := st; ⟨⟨old, k e (by simp) _ he⟩, hi.at fun o q => k it (by simp) o q, hne⟩
  item := by
    intro X hP hw hK hc i pins s σ H E I hf st hg
    subst hP hw hK
    obtain ⟨⟨old, he⟩, hit, hne, hai, hae⟩ := st
    obtain ⟨xs, x, hq, hx⟩ := hg
    obtain ⟨its, rv, p, hz⟩ := I.tuple hq
    obtain ⟨u, hu, ru⟩ := rv.get hx
    have hel : e < s.heap.objs.size := Heap.lt_size he
    have hil : it < s.heap.objs.size := by obtain ⟨_, q, _⟩ := hit; exact Heap.lt_size q
    obtain ⟨ot, et, hct, nt, hdt⟩ := p
    have pT : s.heap.IsTuple a its.toArray := ⟨ot, et, hct, nt, hdt⟩
    have hi : i < its.toArray.size := by
      have := (List.getElem?_eq_some_iff.mp hu).1
      rw [List.size_toArray]
      exact this
    refine wpAny_pyNext_enum_itemD (Draws.tuple (A := X.A.in1) (I.ok.hd hc) it a hai its.toArray) he ⟨hit, pT⟩ hi hne (by simp; exact ⟨hne, Ne.symm hae⟩) fun x' h' tk hP ho hit' hT hsz hk => ?_
    have ex : x' = u := by
      have h1 : its.toArray[i]? = some x' := hP
      rw [List.getElem?_toArray, hu] at h1
      exact (Option.some.inj h1).symm
    subst ex
    obtain ⟨hit', _⟩ := hit'
    refine ⟨_, rfl, wpAny_letOwnedTupleGo_enum (s := { s with heap := h', toks := tk + 1 }) ho fun h'' he' sb => ?_⟩
    have hT2 : h''.get? s.heap.objs.size = some { cls := .type "tuple", data := .seq #[.int i tk, x'] } := (sb.2 _ (Nat.ne_of_gt hel)).trans hT
    have new : ObjOk X.prog X.w (upd H s.heap.objs.size (.tup [.int (i : Nat), x])) h'' s.heap.objs.size (.tup [.int (i : Nat), x]) :=
      ⟨by show 2 ≤ sizeLine; decide, [.int i tk, x'], .cons ⟨_, rfl⟩ (.cons ru .nil), ⟨_, hT2, rfl, _, rfl⟩⟩
    have I1 : Inv X pins σ (upd H s.heap.objs.size (.tup [.int (i : Nat), x])) { s with heap := h'', toks := tk + 1 } :=
      I.turnedNew (ch := [e, it]) (fun b ob hb q => (sb.2 b (fun z => hb (by simp [z]))).trans (hk b ob (fun z => hb (by simp [z])) (fun z => hb (by simp [z])) q)) hf (Nat.le_refl _) new
    refine ⟨.ref s.heap.objs.size, _, I1, rfl, ⟨_, x, rfl, I.hok.fresh (Nat.le_refl _), rfl, fun ys hy => by rw [I.tuple_inj hy hq]; exact hx⟩, ⟨⟨x', ?_⟩, hit'.at fun o q => (sb.2 it (Ne.symm hne)).trans q, hne, hai, hae⟩, fun b hb => ?_⟩
    · have e1 : ((i + 1 : Nat) : Int) = (i : Int) + 1 := by omega
      rw [e1]; exact he'
    · have hb' : b < s.heap.objs.size := by
        have e' : b = e ∨ b = it := by simpa using hb
        rcases e' with z | z
        · rw [z]; exact hel
        · rw [z]; exact hil
      rw [upd_ne (Nat.ne_of_lt hb')]
      exact (hf b hb).1
  done := by
    intro X hP hw hK hc i pins s σ H E I hf st hg
    subst hP hw hK
    obtain ⟨⟨old, he⟩, hit, hne, hai, hae⟩ := st
    obtain ⟨xs, hq, hx⟩ := hg
    obtain ⟨its, rv, p, hz⟩ := I.tuple hq
    obtain ⟨ot, et, hct, nt, hdt⟩ := p
    have pT : s.heap.IsTuple a its.toArray := ⟨ot, et, hct, nt, hdt⟩
    obtain ⟨f0, f1, f2, f3, f4, f5⟩ := hf it (by simp)
    have hl := rv.length
    -- the iterator stands at or behind the end
    have hend : its.toArray[i]? = none := by rw [List.getElem?_toArray]; exact List.getElem?_eq_none (by omega)
    have D : Draws X.prog X.w X.A.in1 it [it, a] 0 (fun _ _ => False) (fun _ h => h.IsTupleIter it a i ∧ h.IsTuple a its.toArray) :=
      { live := fun _ h st => let ⟨⟨o, ho, _⟩, _⟩ := st; ⟨o, ho⟩
        frame := fun _ h h' st k => ⟨st.1.at fun o q => k it (by simp) o q, st.2.at fun o q => k a (by simp) o q⟩
        item := fun i' s' Q E hlt _ _ => absurd hlt (Nat.not_lt_zero _)
        done := fun s' Q E st hE => wpAny_nextOf_tuple_end (I.ok.hd hc) st.1 st.2 hend hE }
    exact wpAny_pyNext_enum_endD D he ⟨hit, pT⟩ fun h' eb => ⟨rfl, I.turned (t' := s.toks) (fun b o hb q => eb b o hb q) f0 f1 f3 f4 f5⟩
  self := fun A i s Q E st h => let ⟨⟨_, he⟩, _⟩ := st; wpAny_pyIter_enum he h
def iEnumT (K : PySem.W.Frag) (ta : TA) : TI := fun σ H R => ta σ H fun vs H1 => ∃ a xs, vs = [.ref a] ∧ SqT K H1 a xs ∧ R (IteT K a) H1
theorem pi_enumT {X : Cx} {e : Expr} {ta : TA} {p pos tpos : Pos} {elts : List Expr} {kk : Nat} (hg : Gl X "enumerate") (hm : X.mg "enumerate" = none) (ha : PA X [e] ta) (hs : starEach [e] X.env = [(false, eval e X.env)] := by rfl) :
    PI X (.Tuple elts kk tpos) (.Call (.Name "enumerate" p) [e] [] pos) (iEnumT X.K ta) := by
  refine ⟨fun pins s σ H R I h => ?_⟩
  refine Call_ (ld_blt I hg hm boot_enumerate (PyProof.Rows.callWith_type1 (thn (ha.run pos pins s σ H _ I h) fun us s1 ⟨vs, H1, I1, r1, q1⟩ => ?_) hs rfl))
  obtain ⟨a, xs, ex, hq, q⟩ := q1
  subst ex
  cases r1 with
  | cons r rr =>
    cases rr
    cases r
    obtain ⟨its, rv, p', hz⟩ := I1.tuple hq
    obtain ⟨ot, et, hct, nt, hdt⟩ := p'
    have hlt : a < s1.heap.objs.size := Heap.lt_size et
    refine call_enumerate_tuple (items := its.toArray) ⟨ot, et, hct, nt, hdt⟩ fun h' he hit hsz hk => wpAny_pyIter_enum he ?_
    have I2 : Inv X pins σ H1 { s1 with heap := h' } := I1.kept (t' := s1.toks) hk
    refine ⟨s1.heap.objs.size + 1, [s1.heap.objs.size + 1, s1.heap.objs.size], _, _, H1, rfl, I2, turn_enumT a (s1.heap.objs.size + 1) s1.heap.objs.size, ⟨⟨.none, he⟩, hit, Nat.succ_ne_self _, Nat.ne_of_lt hlt, Nat.ne_of_lt (Nat.lt_succ_of_lt hlt)⟩, fun b hb => ?_, q⟩
    have e' : b = s1.heap.objs.size + 1 ∨ b = s1.heap.objs.size := by simpa using hb
    have hle : s1.heap.objs.size ≤ b := by
      rcases e' with z | z
      · rw [z]; exact Nat.le_add_right _ _
      · rw [z]; exact Nat.le_refl _
    exact I1.fpOk hle (I1.hok.fresh hle)
theorem walk_enumT {K : PySem.W.Frag} {a : Addr} {xs : List V} : Walk (IteT K a) xs.length (fun H => SqT K H a xs) (YPair (fun i => some (.int (i : Nat))) (fun i => xs[i]?)) := by
  refine ⟨fun i _ hi q => ⟨xs, xs[i], q, by simp [hi]⟩, fun _ q => ⟨xs, q, Nat.le_refl _⟩, fun i H v H' _ q y => ?_⟩
  obtain ⟨T, x, h1, h2, h3, h4⟩ := y
  exact ⟨T, .int (i : Nat), x, h1, h2, h3, rfl, h4 xs q⟩
end RgR

/-! dicts with tuple keys: {k: v}, dict(pairs), del d[k] -/
namespace RgR
open PySem PySem.Spec PyProof.Rows L2
section
variable {κ : Type} [DecidableEq κ]
def mergeG (acc more : List (κ × V)) : List (κ × V) := more.foldl (fun a kv => putK a kv.1 kv.2) acc
theorem mergeG_len : ∀ (more acc : List (κ × V)), (mergeG acc more).length ≤ acc.length + more.length
  | [], acc => Nat.le_refl _
  | p :: r, acc => by
    have h1 := mergeG_len r (putK acc p.1 p.2)
    have h2 := length_putK acc p.1 p.2
    show (mergeG (putK acc p.1 p.2) r).length ≤ _
    rw [List.length_cons]; omega
theorem mergeG_nd : ∀ (more acc : List (κ × V)), (acc.map (·.1) ++ more.map (·.1)).Nodup → mergeG acc more = acc ++ more
  | [], acc, _ => by
    show acc = acc ++ []
    rw [List.append_nil]
  | p :: r, acc, h => by
    have hn : valV acc p.1 = none := by
      cases e : valV acc p.1 with
      | none => rfl
      | some v =>
        have m := valV_in e
        have := (List.nodup_append.mp h).2.2 _ m p.1 (by simp)
        exact absurd rfl this
    show mergeG (putK acc p.1 p.2) r = acc ++ p :: r
    rw [putK_new _ hn, mergeG_nd r (acc ++ [(p.1, p.2)]) (by simpa using h)]
    simp
end
theorem KT_merge {H : Hp} : ∀ {kvs : List (List Key × V)} {prs : List (List Key × Addr × Value)} {acc : List (List Key × V)} {xs : List (List Key × Addr × Value)}, KT H kvs prs → KT H acc xs → KT H (mergeG acc kvs) (storedAllH xs prs) := by
  intro kvs prs acc xs r
  induction r generalizing acc xs with
  | nil => intro q; exact q
  | @cons p q ps qs h t ih =>
    intro r0
    obtain ⟨h1, h2, h3⟩ := h
    have e : KT H (putK acc p.1 p.2) (storedH xs q.1 q.2.1 q.2.2) := by
      have := r0.put p.1 h2 h3
      rw [← h1]; exact this
    exact ih e
section
variable {X : Cx}
/-- the pairs, as they stand -/
theorem prs_of {pins : List (Addr × Obj)} {σ : L2.St} {H : Hp} {s : Shared} (I : Inv X pins σ H s) : ∀ {ts : List Addr} {kvs : List (List Key × V)}, Paired (fun t kv => ∃ b, H t = some (.tup [V.ref b, kv.2]) ∧ H b = some (.tup (kv.1.map kV))) ts kvs →
    ∃ prs : List (List Key × Addr × Value), KT H kvs prs ∧ prs.length = ts.length ∧ ∀ (j : Nat) (q : List Key × Addr × Value), prs[j]? = some q → ∃ t : Addr, ts[j]? = some t ∧ s.heap.IsTuple t #[Value.ref q.2.1, q.2.2]
  | _, _, .nil => ⟨[], .nil, rfl, fun j q e => by simp at e⟩
  | _, _, .cons (a := t) (b := kv) h r => by
    obtain ⟨prs, k, hl, hp⟩ := prs_of I r
    obtain ⟨b, h1, h2⟩ := h
    obtain ⟨_, us, rv, o, e1, e2, n, e3⟩ := (show ObjOk X.prog X.w H s.heap t (.tup [V.ref b, kv.2]) from I.hok t _ h1)
    obtain ⟨u, y, rfl, ru, ry⟩ := vals2 rv
    obtain rfl : u = Value.ref b := ru
    refine ⟨(kv.1, b, y) :: prs, .cons ⟨rfl, h2, ry⟩ k, by rw [List.length_cons, List.length_cons, hl], fun j q e => ?_⟩
    cases j with
    | zero =>
      have e' : (kv.1, b, y) = q := Option.some.inj e
      subst e'
      exact ⟨t, rfl, ⟨o, e1, e2, n, e3⟩⟩
    | succ j =>
      obtain ⟨t', e1, e2⟩ := hp j q (by simpa using e)
      exact ⟨t', by simpa using e1, e2⟩
/-- dict(ps), ps a list of pairs (k, v), the keys tuples -/
def rDictT (K : PySem.W.Frag) : List V → Hp → VK → Prop := fun xs H Q => ∃ (a : Addr) (ts : List Addr) (kvs : List (List Key × V)), xs = [.ref a] ∧ SqL K H a (ts.map V.ref) ∧
  Paired (fun t kv => ∃ b, H t = some (.tup [V.ref b, kv.2]) ∧ H b = some (.tup (kv.1.map kV))) ts kvs ∧ ∀ p, H p = none → Q (.ref p) (upd H p (.dT (mergeG [] kvs)))
theorem call_dictT (hcalm : X.calm = true) (hu : X.A.units + 2 < cLine) : CallR X (.type "dict") (rDictT X.K) := by
  intro pins s σ H xs us Q I r q
  obtain ⟨a, ts, kvs, ex, hq, hp, q⟩ := q
  subst ex
  obtain ⟨u, eu, rx⟩ := vals1 r
  subst eu
  cases rx
  obtain ⟨its, rv, pl, hz⟩ := I.list hq
  have ei := refs_at rv
  subst ei
  rw [List.length_map] at hz
  obtain ⟨prs, rel, hl, hpr⟩ := prs_of I hp
  obtain ⟨o, n, ho, hc, hd, hdat⟩ := pl
  have P := PairArg.list (prog := X.prog) (w := X.w) a (ts.map Value.ref).toArray (fun j => ts.getD j 0) (prs.map fun p => (Value.ref p.2.1, p.2.2))
  have key : ∀ x ∈ prs, (tupleKind (mixKind X.prog X.w)).is s.heap x.1 x.2.1 := by
    have all : ∀ {l : List (List Key × V)} {m : List (List Key × Addr × Value)}, KT H l m → ∀ x ∈ m, (tupleKind (mixKind X.prog X.w)).is s.heap x.1 x.2.1 := by
      intro l m q
      induction q with
      | nil => intro x hx; exact nomatch hx
      | @cons p q ps qs hq t ih =>
        intro x hx
        rcases List.mem_cons.mp hx with e | hx
        · subst e
          exact key_of I.hok (by rw [← hq.1]; exact hq.2.1)
        · exact ih x hx
    exact all rel
  refine call_dict_pairsH (knd := tupleKind (mixKind X.prog X.w)) (ps := prs) P (I.ok.hd hcalm) (show X.A.units + 1 + 1 < cLine from hu) ⟨⟨o, n, ho, hc, hd, hdat⟩, ?_, fun j k v hj => ?_⟩ ⟨by rw [List.length_map], fun i k v hi => ?_⟩ (fun h' hk x hx => ?_) (by rw [List.length_map, hl]; exact hz) fun h' tk hd' hk => ?_
  · rw [List.size_toArray, List.length_map, List.length_map, hl]
  · rw [List.getElem?_map] at hj
    obtain ⟨p, hp1, hp2⟩ := Option.map_eq_some_iff.mp hj
    cases hp2
    obtain ⟨t, e1, e2⟩ := hpr j p hp1
    have e3 : ts.getD j 0 = t := by rw [List.getD_eq_getElem?_getD, e1]; rfl
    refine ⟨?_, .inl ?_⟩
    · show (ts.map Value.ref).toArray[j]? = some (.ref (ts.getD j 0))
      rw [e3, List.getElem?_toArray, List.getElem?_map, e1]
      rfl
    · show s.heap.IsTuple (ts.getD j 0) _
      rw [e3]
      exact e2
  · have hi' : (prs.map fun p => (Value.ref p.2.1, p.2.2))[i]? = some (k, v) := hi
    rw [List.getElem?_map] at hi'
    obtain ⟨p, hp1, hp2⟩ := Option.map_eq_some_iff.mp hi'
    cases hp2
    exact ⟨p.1, p.2.1, hp1, rfl⟩
  · refine tupleKind_stays.stays (fun b ob vs m e1 e2 => hk b ob (Nat.ne_of_lt (Heap.lt_size e1)) (fun z => nomatch z) e1) (key x hx)
  · have hm : (s.heap.objs.size == sysModules) = false := beq_eq_false_iff_ne.mpr (Nat.ne_of_gt I.big)
    have hlen : (mergeG [] kvs).length ≤ sizeLine := by
      refine Nat.le_trans (mergeG_len kvs []) ?_
      have : kvs.length = prs.length := Paired.length rel
      rw [List.length_nil, Nat.zero_add, this, hl]
      exact hz
    have hf : H s.heap.objs.size = none := I.hok.fresh (Nat.le_refl _)
    obtain ⟨q2, es, ep, hq2, h2, h3, h4, _, h5⟩ := hd'
    refine ⟨.ref s.heap.objs.size, upd H s.heap.objs.size (.dT (mergeG [] kvs)), I.laid (t' := tk) (fun b ob e => hk b ob (fun z => nomatch z) e) (Nat.le_refl _) ?_, rfl, q _ hf⟩
    exact ⟨hlen, hm, _, (KT_merge rel .nil).keeps fun c ys ec => by rw [upd_ne (ne_of_none ec hf)]; exact ec, q2, es, ep, hq2, h2, h3, h4, h5⟩
/-- del d[k], a tuple key that is there -/
def sDDelT (td ty : TE) : TS := fun D σ H => td σ H fun x H1 => ty σ H1 fun y H2 => ∃ a kvs k b, x = .ref a ∧ H2 a = some (.dT kvs) ∧ y = .ref b ∧ H2 b = some (.tup (k.map kV)) ∧ (valV kvs k).isSome = true ∧ D.nx σ (upd H2 a (.dT (dropK kvs k)))
theorem ps_ddelT {o i : Expr} {td ty : TE} {tpos pos : Pos} (hu : X.A.units + 1 < cLine) (ho : PE X o td) (hi : PE X i ty) : PS X (.Delete [.Subscript o i tpos] pos) (sDDelT td ty) := by
  refine ⟨fun pins s σ H D I h => ?_⟩
  refine wpAny_Delete (wpAny_deleteEach_cons (wpAny_delete_Subscript (thn (ho.run pins s σ H _ I h) fun u s1 ⟨x, H1, I1, rx, q1⟩ => thn (hi.run pins s1 σ H1 _ I1 q1) fun iv s2 ⟨y, H2, I2, ry, a, kvs, k, b, ex, e, ey, eb, l, q2⟩ => ?_)))
  subst ex ey
  obtain rfl : u = Value.ref a := rx
  obtain rfl : iv = Value.ref b := ry
  obtain ⟨z, hd, xs, rel, dd⟩ := dt_of I2.hok e
  have hz : xs.length ≤ sizeLine := by rw [← Paired.length rel]; exact z
  have hat : ∃ p, atKey xs k = some p := by
    have := (rel.val k).isSome_eq
    rw [l] at this
    cases q : atKey xs k with
    | none => rw [q] at this; cases this
    | some p => exact ⟨p, rfl⟩
  obtain ⟨p, hp⟩ := hat
  refine wpAny_delItem_heap (hsz := hz) (knd := tupleKind (mixKind X.prog X.w)) (tupleKind_room_in1 hu) (key_of I2.hok eb) hd dd hp fun h' dd' hs => ?_
  obtain ⟨q, es, ep, hq, h2, h3, h4, _, h5⟩ := dd'
  refine wpAny_deleteEach_nil ⟨σ, _, ?_, q2⟩
  refine d_write I2 (by rw [e]; exact True.intro) hs ⟨q, hq⟩ ⟨Nat.le_trans (dropK_le kvs k) z, hd, _, (DX.KT_drop k rel).keeps (fun c ys ec => (by rw [upd_ne (ne_of ec e (fun z => nomatch z))]; exact ec)), q, es, ep, hq, h2, h3, h4, h5⟩
/-- {k: v}, one pair, the key a tuple -/
def tDisp1 (tk tv : TE) : TE := fun σ H Q => ∀ p, H p = none → tk σ (upd H p (.dT [])) fun x H1 => tv σ H1 fun y H2 => ∃ b k, x = .ref b ∧ H2 b = some (.tup (k.map kV)) ∧ H2 p = some (.dT []) ∧ Q (.ref p) (upd H2 p (.dT [(k, y)]))
theorem pe_disp1 {kx vx : Expr} {tk tv : TE} {pos : Pos} (hu : X.A.units + 1 < cLine) (hk : PE X kx tk) (hv : PE X vx tv) : PE X (.Dict [some kx] [vx] pos) (tDisp1 tk tv) := by
  refine ⟨fun pins s σ H Q I q => ?_⟩
  have hn := I.hok.fresh (Nat.le_refl s.heap.objs.size)
  have I1 := I.laid (a := s.heap.objs.size) (o := .dT []) (h' := s.heap.push { cls := .type "dict", data := .dict #[] }) (t' := s.toks) (fun _ _ q => Heap.get?_push_of_some _ q) (Nat.le_refl _) (dt_empty s.heap I.big)
  have hu0 : X.A.units < cLine := by omega
  rw [arm_eval_Dict]
  have hshape : (evalEachOpt [some kx] X.env).zip ((evalEach [vx] X.env).map fun v => do let x ← v; standAt pos; pure x) = [(eval kx X.env, (do let x ← eval vx X.env; standAt pos; pure x : Sem Value))].map fun p => (some p.1, p.2) := by rfl
  rw [hshape, dictDisplay_pairs _ (by simp) (by simp)]
  refine wpAny_bind (wpAny_standAt (wpAny_bind (wpAny_subDictH (knd := tupleKind (mixKind X.prog X.w)) (show X.A.units < cLine from hu0) (by simp) ?_)))
  have PP : PPs X pos [some kx] [vx] [(tk, tv)] := pps_cons hk hv pps_nil
  let Post : V → V → Hp → Prop := fun x y H2 => ∃ b k, x = .ref b ∧ H2 b = some (.tup (k.map kV)) ∧ H2 s.heap.objs.size = some (.dT []) ∧ Q (.ref s.heap.objs.size) (upd H2 s.heap.objs.size (.dT [(k, y)]))
  let QQ : List (V × V) → Hp → Prop := fun ps H2 => match ps with | [(x, y)] => Post x y H2 | _ => False
  refine thn (PP.run pins { s with heap := s.heap.push { cls := .type "dict", data := .dict #[] } } σ (upd H s.heap.objs.size (.dT [])) QQ I1 (q _ hn)) fun vs s2 hvs => ?_
  obtain ⟨ps, H2, I2, rel, hQQ⟩ := hvs
  match ps, rel, hQQ with
  | [(x, y)], rel, ⟨b, k, ex, eb, ep, hQ⟩ =>
    subst ex
    cases rel with
    | @cons _ w0 _ _ hw t =>
      cases t
      obtain ⟨w1, w2⟩ := w0
      obtain ⟨r1, r2⟩ := hw
      obtain rfl : w1 = Value.ref b := r1
      obtain ⟨z, hd, xs, kt, dd⟩ := dt_of I2.hok ep
      cases kt
      refine ⟨[(k, b, w2)], ⟨rfl, rfl, key_of I2.hok eb, True.intro⟩, dd, fun h' tk dd' hs => wpAny_pure ⟨.ref s.heap.objs.size, _, ?_, rfl, hQ⟩⟩
      obtain ⟨q2, es, ep2, hq, h2, h3, h4, _, h5⟩ := dd'
      refine d_write I2 (by rw [ep]; exact True.intro) hs ⟨q2, hq⟩ ⟨by show 1 ≤ sizeLine; decide, hd, [(k, b, w2)], .cons ⟨rfl, ?_, r2⟩ .nil, q2, es, ep2, hq, h2, h3, h4, h5⟩
      show upd H2 s.heap.objs.size (.dT [(k, y)]) b = _
      rw [upd_ne (ne_of eb ep (fun z => nomatch z))]
      exact eb
end
end RgR

namespace Rg
open PySem PySem.Spec PyProof.Rows L2 GxR RgG RgE RgR
/-- a def of the module -/
structure Df (K : PySem.W.Frag) (mg : Str → Option Value) (x : Str) (st : Stmt) (ps : List Str) where
  f : Addr
  fd : FuncData
  F : Fun K x x st f fd
  b : Binds K fd ps []
  m : mg x = some (.ref f)
/-- a def with a table of code objects -/
structure Dt (K : PySem.W.Frag) (mg : Str → Option Value) (x : Str) (st : Stmt) (ps : List Str) extends Df K mg x st ps where
  c : Addr
  P : Addr
  code : fd.code = .ref c
structure Tx (K : PySem.W.Frag) (mg : Str → Option Value) where
  isi : Df K mg "is_in" sIsIn ["value", "least", "most"]
  need : Dt K mg "need_distances" sNeed ["distances"]
  served : Df K mg "served" sServed ["distances", "state", "index"]
  alive : Dt K mg "alive_states" sAlive ["distances"]
  ring : Df K mg "ring_for" sRing ["distances"]
  shows : Dt K mg "shows_ring" sShows ["distances", "value"]
  taken : Df K mg "_law_taken" sTaken ["_law_row", "_law_many"]
  pick : Df K mg "_law_pick" sPick ["_law_row", "_law_things"]
  alike : Df K mg "_law_alike" sAlike ["_law_found", "_law_due"]
  dists : Df K mg "_law_distances" sDists ["_law_row", "_law_most"]
  isRing : Df K mg "_law_is_ring" sIsRing ["_law_distances_here", "_law_value"]
  t4 : Tok
  most4 : mg "MOST_DISTANCES" = some (.int 4 t4)
  t8 : Tok
  most8 : mg "MOST_DISTANCE" = some (.int 8 t8)
  zlen : mg "len" = none
  zisi : mg "isinstance" = none
  zint : mg "int" = none
  zbool : mg "bool" = none
  ztuple : mg "tuple" = none
  zlist : mg "list" = none
  zstr : mg "str" = none
  zrange : mg "range" = none
  zall : mg "all" = none
  zany : mg "any" = none
  zenum : mg "enumerate" = none
  zdict : mg "dict" = none
  zmax : mg "max" = none
  zmin : mg "min" = none
/-- the tables -/
def Tx.T {K : PySem.W.Frag} {mg : Str → Option Value} (t : Tx K mg) : List Addr := [t.need.P, t.alive.P, t.shows.P]
structure TabsB {K : PySem.W.Frag} {mg : Str → Option Value} (t : Tx K mg) (base : Heap) : Prop where
  need : TabB base mg t.need.c t.need.P
  alive : TabB base mg t.alive.c t.alive.P
  shows : TabB base mg t.shows.c t.shows.P
/-- a def whose code object is known -/
theorem okC {P : Program} {w : World} {K : PySem.W.Frag} {mg : Str → Option Value} {base : Heap} {x qual : Str} {st : Stmt} {f c : Addr} {fd : FuncData} {N ps : List Str} {k : Nat} {sp : Sp} (F : Fun K x qual st f fd) (hc : fd.code = .ref c) (S : FnScope N ps (defScope st)) (len : ∀ vs H Q E, sp vs H Q E → vs.length = ps.length)
    (hbody : ∀ (A : Around) (outer : List Env) (s : Shared) (H : Hp) (vs : List V) (Q : VK) (E : XK), Room k (A.deeper (envOfC qual (defScope st) s.heap.objs.size f (.ref c))) → sp vs H Q E →
      ∃ t, PSs (cxOf CX0 P w K mg base N qual (defScope st) f (.ref c) A outer s H E).nox (defBody st) t ∧ t { nx := fun _ H' => Q .non H', rt := Q } (start N vs) H) : FnOk P w K mg base CX0 (k + 1) f fd ps sp := by
  obtain ⟨oc, od, kV, doc, pm, an, cdv, ct, osl, rfl, lk, hcd⟩ := F.ex
  have e : cdv = .ref c := hc
  subst e
  refine fn_of lk hcd S len fun A outer s H vs Q E hr hsp => ?_
  obtain ⟨t, h, q⟩ := hbody A outer s H vs Q E hr hsp
  exact ⟨t, h.nox, q⟩
/-- the tables stand -/
def TbG (T : List Addr) (H : Hp) : Prop := ∀ P ∈ T, TabG H P
/-- what was there stands, but for the tables (they grow) and what is at ex -/
structure Gr (T ex : List Addr) (H H' : Hp) : Prop where
  tb : TbG T H'
  st : ∀ b o, b ∉ ex → H b = some o → (∀ ps, o ≠ .tbl ps) → H' b = some o
  tt : ∀ b ps, b ∉ ex → H b = some (.tbl ps) → ∃ ps', H' b = some (.tbl ps')
section
variable {T ex : List Addr} {H H1 H2 : Hp}
theorem Gr.refl (t : TbG T H) : Gr T ex H H := ⟨t, fun _ _ _ e _ => e, fun _ ps _ e => ⟨ps, e⟩⟩
theorem Gr.trans (a : Gr T ex H H1) (b : Gr T ex H1 H2) : Gr T ex H H2 := ⟨b.tb, fun c o h e n => b.st c o h (a.st c o h e n) n, fun c ps h e => let ⟨ps', q⟩ := a.tt c ps h e; b.tt c ps' h q⟩
theorem Gr.wide (a : Gr T [] H H1) : Gr T ex H H1 := ⟨a.tb, fun b o _ e n => a.st b o (by simp) e n, fun b ps _ e => a.tt b ps (by simp) e⟩
theorem TbG.same (t : TbG T H) (e : ∀ P ∈ T, ∀ ps, H P = some (.tbl ps) → H1 P = some (.tbl ps)) : TbG T H1 := fun P hP => let ⟨ps, a, b⟩ := t P hP; ⟨ps, e P hP ps a, b⟩
theorem Gr.same (t : TbG T H) (e : Same H H1) : Gr T ex H H1 := ⟨t.same fun P _ ps q => e _ _ q, fun b o _ q _ => e b o q, fun b ps _ q => ⟨ps, e b _ q⟩⟩
/-- a new object -/
theorem TbG.new {p : Addr} {o : HO} (t : TbG T H) (h : H p = none) : TbG T (upd H p o) := t.same fun P _ ps q => by rw [upd_ne (ne_of_none q h)]; exact q
theorem Gr.new {p : Addr} {o : HO} (a : Gr T ex H H1) (h : H1 p = none) : Gr T ex H (upd H1 p o) :=
  ⟨a.tb.new h, fun b u hb e n => by rw [upd_ne (ne_of_none (a.st b u hb e n) h)]; exact a.st b u hb e n, fun b ps hb e => by
    obtain ⟨ps', q⟩ := a.tt b ps hb e
    exact ⟨ps', by rw [upd_ne (ne_of_none q h)]; exact q⟩⟩
/-- a tracked object that is no table is changed -/
theorem TbG.put {p : Addr} {o u : HO} (t : TbG T H) (h : H p = some u) (n : ∀ ps, u ≠ .tbl ps) : TbG T (upd H p o) := t.same fun P _ ps q => by
  rw [upd_ne (ne_of q h fun z => n ps z.symm)]; exact q
theorem Gr.put {p : Addr} {o u : HO} (a : Gr T ex H H1) (h : H1 p = some u) (n : ∀ ps, u ≠ .tbl ps) (hp : p ∈ ex ∨ H p = none) : Gr T ex H (upd H1 p o) :=
  ⟨a.tb.put h n, fun b v hb e m => by
    have hne : b ≠ p := by
      rcases hp with z | z
      · exact fun q => hb (q ▸ z)
      · exact ne_of_none e z
    rw [upd_ne hne]; exact a.st b v hb e m, fun b ps hb e => by
    have hne : b ≠ p := by
      rcases hp with z | z
      · exact fun q => hb (q ▸ z)
      · exact ne_of_none e z
    rw [upd_ne hne]; exact a.tt b ps hb e⟩
/-- behind a generator expression -/
theorem Gr.tabbed {P : Addr} (t : TbG T H) (d : Tabbed P H H1) (hP : ∃ ps, H P = some (.tbl ps)) : Gr T ex H H1 :=
  ⟨fun Q hQ => by
    by_cases e : Q = P
    · rw [e]; exact d.1
    · obtain ⟨ps, a, b⟩ := t Q hQ
      exact ⟨ps, by rw [d.2 Q e]; exact a, b⟩, fun b o _ e n => by
    have hb : b ≠ P := fun z => by
      obtain ⟨ps, q⟩ := hP
      rw [z, q] at e
      exact n ps (Option.some.inj e).symm
    rw [d.2 b hb]; exact e, fun b ps _ e => by
    by_cases hb : b = P
    · obtain ⟨ps', q, _⟩ := d.1
      exact ⟨ps', by rw [hb]; exact q⟩
    · exact ⟨ps, by rw [d.2 b hb]; exact e⟩⟩
theorem TbG.tbl (t : TbG T H) {P : Addr} (h : P ∈ T) : TblAt H P := let ⟨ps, e, _⟩ := t P h; ⟨ps, e⟩
theorem Gr.lst (a : Gr T ex H H1) {b : Addr} {xs : List V} (h : H b = some (.lst xs)) (hb : b ∉ ex) : H1 b = some (.lst xs) := a.st b _ hb h fun _ z => nomatch z
theorem Gr.tup (a : Gr T ex H H1) {b : Addr} {xs : List V} (h : H b = some (.tup xs)) (hb : b ∉ ex) : H1 b = some (.tup xs) := a.st b _ hb h fun _ z => nomatch z
theorem Gr.free (a : Gr T ex H H1) {b : Addr} (h : H1 b = none) (hb : b ∉ ex) : H b = none := by
  cases q : H b with
  | none => rfl
  | some o =>
    by_cases ht : ∃ ps, o = .tbl ps
    · obtain ⟨ps, rfl⟩ := ht
      obtain ⟨ps', e⟩ := a.tt b ps hb q
      rw [h] at e
      cases e
    · rw [a.st b o hb q fun ps z => ht ⟨ps, z⟩] at h
      cases h
end
/-- GenK by a look -/
def genC (sc scope : Scope) (x : Str) : Bool :=
  decide (scope.kind = .function) && !scope.isCoroutine && (scope.names.all fun y => decide (y.2 ≠ .cell)) && decide (scope.names.lookup (".0" : Str) = some .local) && decide (scope.names.lookup x = some .local) &&
    (scope.names.all fun y => decide (y.2 ≠ .free) || decide (sc.names.lookup y.1 = some .cell) || decide (sc.names.lookup y.1 = some .free))
theorem genK_by {env : Env} {sc scope : Scope} {x : Str} (e : env.scope = sc) (h : genC sc scope x = true) : GenK env scope x := by
  unfold genC at h
  simp only [Bool.and_eq_true, Bool.or_eq_true, List.all_eq_true, decide_eq_true_eq, Bool.not_eq_true'] at h
  obtain ⟨⟨⟨⟨⟨h1, h2⟩, h3⟩, h4⟩, h5⟩, h6⟩ := h
  refine ⟨h1, h2, h3, h4, h5, fun y hy f => ?_⟩
  rcases h6 y hy with (z | z) | z
  · exact absurd f z
  · exact .inl (by show env.scope.names.lookup y.1 = _; rw [e]; exact z)
  · exact .inr (by show env.scope.names.lookup y.1 = _; rw [e]; exact z)
/-- good distances -/
structure Dist (ds : List Int) : Prop where
  l1 : 1 ≤ ds.length
  l4 : ds.length ≤ 4
  rg : ∀ z ∈ ds, 1 ≤ z ∧ z ≤ 8
end Rg

namespace Rg
open PySem PySem.Spec PyProof.Rows L2 GxR RgG RgE RgR
section
variable {P : Program} {w : World} {K : PySem.W.Frag} {mg : Str → Option Value} {base : Heap}
def spNeed (T : List Addr) : Sp := fun vs H Q _ => ∃ (a : Addr) (ds : List Int), vs = [.ref a] ∧ H a = some (.tup (ds.map V.int)) ∧ Dist ds ∧ TbG T H ∧ ∀ H', Gr T [] H H' → Q .non H'
theorem scNeed : FnScope ["distances"] ["distances"] (defScope sNeed) := ⟨rfl, rfl, rfl, by decide +kernel, rfl, by decide +kernel, by decide +kernel⟩
theorem allF_isIn {ds : List Int} (h : ∀ z ∈ ds, 1 ≤ z ∧ z ≤ 8) : allF (ds.map V.int).length (fun i => isIn ((ds.map V.int).getD i .non) 1 8) = true := by
  unfold allF
  rw [List.all_eq_true]
  intro i hi
  have hi' : i < (ds.map V.int).length := List.mem_range.mp hi
  rw [List.length_map] at hi'
  have e : (ds.map V.int).getD i .non = V.int ds[i] := by
    rw [List.getD_eq_getElem?_getD, List.getElem?_map, List.getElem?_eq_getElem hi']
    rfl
  have := h ds[i] (List.getElem_mem hi')
  rw [e]
  show (decide (1 ≤ ds[i]) && decide (ds[i] ≤ 8)) = true
  rw [decide_eq_true this.1, decide_eq_true this.2]
  rfl
theorem ok_need (t : Tx K mg) (B : TabsB t base) : FnOk P w K mg base CX0 1 t.need.f t.need.fd ["distances"] (spNeed t.T) := by
  refine okC t.need.F t.need.code scNeed (fun vs H Q E h => ?_) (fun A outer s H vs Q E hr h => ?_)
  · obtain ⟨a, ds, rfl, _⟩ := h
    rfl
  · obtain ⟨a, ds, rfl, ha, hd, hT, k⟩ := h
    have hPT : t.need.P ∈ t.T := by unfold Tx.T; simp
    refine ⟨_, pss_cons (ps_if (PW.pt (pw_or (pt_not (pt_val (pe_callB call_isi (by rfl) t.zisi boot_isinstance (pa_cons (pv 0) (pa_cons (pe_bltn (v := .ty "tuple") (by rfl) t.ztuple boot_tuple rfl) pa_nil)))))
      (pw_or1 (pt_not (pt_chain op_le op_le pe_int (pe_callB call_len_seq (by rfl) t.zlen PySem.boot_len (pa_cons (pv 0) pa_nil)) (pe_glob (v := .int 4) (by rfl) t.most4 ⟨_, rfl⟩)))))) (pss_one ps_never) pss_nil)
      (pss_one (ps_if (pt_not (pt_val (pe_all1 hr (by rfl) t.zall B.need rfl (genK_by (sc := defScope sNeed) rfl (by decide +kernel)) (pv 0) (by intro _; rfl)))) (pss_one ps_never) pss_nil)), ?_⟩
    -- isinstance(distances, tuple)
    refine ⟨_, rfl, _, _, _, _, true, rfl, .ty _, .base (.tup ha), kit_ty (by decide +kernel), _, rfl, ?_⟩
    refine iteF ?_
    have l1 := hd.l1
    have l4 := hd.l4
    have ll : ((ds.map V.int).length : Int) = ds.length := by rw [List.length_map]
    -- 1 <= len(distances) <= 4
    refine ⟨_, rfl, _, _, rfl, .inr (SqT.of ha), _, _, rfl, rfl, _, rfl, ?_⟩
    rw [if_pos (decide_eq_true (by omega))]
    refine ⟨_, _, rfl, rfl, _, rfl, ?_⟩
    rw [decide_eq_true (show ((ds.map V.int).length : Int) ≤ 4 by omega)]
    refine iteF ?_
    -- all(is_in(one, 1, 8) for one in distances)
    obtain ⟨psP, hPs⟩ := hT.tbl hPT
    refine ⟨_, rfl, (ds.map V.int).length, (fun i => isIn ((ds.map V.int).getD i .non) 1 8), hT _ hPT, fun pins s1 xv I1 r1 => ?_, fun H2 hd2 => ?_⟩
    · obtain rfl : xv = Value.ref a := r1
      refine ⟨_, src_tup I1 ⟨_, hPs⟩ (SqT.of ha), elt_need t.isi.F t.isi.b t.zisi t.zint t.zbool t.isi.m t.most8 hr I1 ⟨_, hPs⟩ (fun x hx => ?_) rfl rfl rfl rfl⟩
      obtain ⟨z, _, rfl⟩ := List.mem_map.mp hx
      exact True.intro
    · refine ⟨_, rfl, ?_⟩
      rw [allF_isIn hd.rg]
      refine iteF ?_
      exact k H2 (Gr.tabbed hT hd2 ⟨_, hPs⟩)
end
end Rg

namespace Rg
open PySem PySem.Spec PyProof.Rows L2 GxR RgG RgE RgR
/-- a state -/
structure Stt (n : Nat) (st : List Int) : Prop where
  len : st.length = n
  rg : ∀ z ∈ st, 1 ≤ z ∧ z ≤ 8
section
variable {P : Program} {w : World} {K : PySem.W.Frag} {mg : Str → Option Value} {base : Heap}
def spServed : Sp := fun vs H Q _ => ∃ (a b : Addr) (ds st : List Int) (j : Int), vs = [.ref a, .ref b, .int j] ∧ H a = some (.tup (ds.map V.int)) ∧ H b = some (.tup (st.map V.int)) ∧ Dist ds ∧ Stt ds.length st ∧
  (∀ H', Same H H' → Q .non H') ∧ ∀ H' p st', Same H H' → H p = none → H' p = some (.tup (st'.map V.int)) → Stt ds.length st' → Q (.ref p) H'
theorem scServed : FnScope ["distances", "state", "index", "found", "k", "left"] ["distances", "state", "index"] (defScope sServed) := ⟨rfl, rfl, rfl, by decide +kernel, rfl, by decide +kernel, by decide +kernel⟩
theorem ok_served (t : Tx K mg) : FnOk P w K mg base CX0 1 t.served.f t.served.fd ["distances", "state", "index"] spServed := by
  refine t.served.F.ok scServed (fun vs H Q E h => ?_) (fun cdv A outer s H vs Q E hr h => ?_)
  · obtain ⟨a, b, ds, st, j, rfl, _⟩ := h
    rfl
  · obtain ⟨a, b, ds, st, j, rfl, ha, hb, hd, hs, k1, k2⟩ := h
    refine ⟨_, pss_cons (ps_set (i := 3) scServed.nd rfl (Or.inl rfl) (pe_lst pa_nil))
      (pss_cons (ps_for PassesOwn.never rfl (pi_enumT (by rfl) t.zenum (pa_cons (pv 1) pa_nil)) (pg_tup rfl (pgs_cons (pg_name (i := 4) scServed.nd rfl (Or.inl rfl)) (pgs_cons (pg_name (i := 5) scServed.nd rfl (Or.inl rfl)) pgs_nil)))
        (pss_one (ps_if (pt_cmpR op_eq (pv 4) (pv 2) (nomark _))
          (pss_one (ps_expr (pe_bm PySem.F.plainAttrs_list PySem.F.slot_list_append PySem.F.type_list_append mt_append (pv 3) (pa_cons (pe_ix ix_tup (pv 0) (pv 4) (fun _ _ => rfl)) pa_nil))))
          (pss_one (ps_if (pt_cmpR op_eq (pv 5) pe_int (nomark _)) (pss_one (ps_ret pe_non))
            (pss_one (ps_expr (pe_bm PySem.F.plainAttrs_list PySem.F.slot_list_append PySem.F.type_list_append mt_append (pv 3) (pa_cons (pe_op op_sub (pv 5) pe_int) pa_nil)))))))))
      (pss_one (ps_ret (pe_tupleOf (by rfl) t.ztuple (pv 3))))), ?_⟩
    -- found = []
    refine ⟨(by show 0 ≤ sizeLine; decide), fun L hL => ?_⟩
    refine ⟨_, rfl, b, st.map V.int, rfl, SqT.of (by rw [upd_ne (ne_of_none hb hL)]; exact hb), ?_⟩
    refine for_it (walk_enumT (K := K) (a := b) (xs := st.map V.int)) (fun i σ H1 => ∃ (acc : List Int) (u v : Option V), σ = [some (.ref a), some (.ref b), some (.int j), some (.ref L), u, v] ∧ Same H H1 ∧ H1 L = some (.lst (acc.map V.int)) ∧ acc.length = i ∧ ∀ z ∈ acc, 1 ≤ z ∧ z ≤ 8) ?_ ?_ ?_ ?_
    · exact ⟨[], none, none, rfl, fun c o e => by rw [upd_ne (ne_of_none e hL)]; exact e, by rw [upd_same]; rfl, rfl, fun z hz => nomatch hz⟩
    · rintro i σ H1 hi ⟨acc, u, v, rfl, sm, _⟩
      exact SqT.of (sm _ _ hb)
    · rintro i x σ H1 H2 hi ⟨acc, u, v, rfl, sm, hl, hn, hg⟩ ⟨Tp, x1, x2, rfl, hT, rfl, e1, e2⟩
      cases e1
      have hi2 : i < st.length := by rw [List.length_map] at hi; exact hi
      have ex : x2 = V.int st[i] := by
        have e2' : (st.map V.int)[i]? = some x2 := e2
        rw [List.getElem?_map, List.getElem?_eq_getElem hi2] at e2'
        exact (Option.some.inj e2').symm
      subst ex
      have hgz := hs.rg st[i] (List.getElem_mem hi2)
      have hdi : i < ds.length := by rw [← hs.len]; exact hi2
      have neT : ∀ c o, H1 c = some o → c ≠ Tp := fun c o e => ne_of_none e hT
      have hl2 : upd H1 Tp (.tup [.int (i : Nat), .int st[i]]) L = some (.lst (acc.map V.int)) := by rw [upd_ne (neT _ _ hl)]; exact hl
      have sm2 : Same H (upd H1 Tp (.tup [.int (i : Nat), .int st[i]])) := fun c o e => by rw [upd_ne (neT _ _ (sm c o e))]; exact sm c o e
      have hz : (acc.map V.int).length < sizeLine := by
        rw [List.length_map, hn]
        have := hs.len
        have := hd.l4
        have e : sizeLine = 16777216 := sizeLine_eq
        omega
      have next : ∀ (z : Int) (u v : Option V), 1 ≤ z ∧ z ≤ 8 → ∃ (acc' : List Int) (u' v' : Option V), [some (V.ref a), some (V.ref b), some (V.int j), some (V.ref L), u, v] = [some (V.ref a), some (V.ref b), some (V.int j), some (V.ref L), u', v'] ∧
          Same H (upd (upd H1 Tp (.tup [.int (i : Nat), .int st[i]])) L (.lst (acc.map V.int ++ [.int z]))) ∧ (upd (upd H1 Tp (.tup [.int (i : Nat), .int st[i]])) L (.lst (acc.map V.int ++ [.int z]))) L = some (.lst (acc'.map V.int)) ∧ acc'.length = i + 1 ∧ ∀ z ∈ acc', 1 ≤ z ∧ z ≤ 8 := fun z u v hz => by
        refine ⟨acc ++ [z], u, v, rfl, fun c o e => ?_, by rw [upd_same, List.map_append]; rfl, by rw [List.length_append, hn]; rfl, fun y hy => ?_⟩
        · rw [upd_ne (ne_of_none e hL)]; exact sm2 c o e
        · rcases List.mem_append.mp hy with q | q
          · exact hg y q
          · rw [List.mem_singleton.mp q]; exact hz
      refine ⟨Tp, _, rfl, SqT.of upd_same, rfl, _, _, rfl, _, _, rfl, rfl, ?_⟩
      -- k == index
      refine ⟨_, rfl, _, rfl, rfl, _, rfl, ?_⟩
      refine ite2 (fun _ => ?_) (fun _ => ?_)
      · -- found.append(distances[k])
        refine ⟨_, rfl, .inl ⟨rfl, _, SqL.of hl2⟩, _, rfl, _, rfl, a, ds.map V.int, (i : Int), V.int ds[i], rfl, rfl, SqT.of (sm2 _ _ ha), atI_nat (by rw [List.getElem?_map, List.getElem?_eq_getElem hdi]; rfl), L, _, _, rfl, rfl, hl2, hz, ?_⟩
        exact next _ _ _ (hd.rg _ (List.getElem_mem hdi))
      · -- left == 1
        refine ⟨_, rfl, rfl, _, rfl, ?_⟩
        refine ite2 (fun _ => ?_) (fun h1 => ?_)
        · exact k1 _ sm2
        · have hne : st[i] ≠ 1 := fun z => h1 (by rw [z]; rfl)
          refine ⟨_, rfl, .inl ⟨rfl, _, SqL.of hl2⟩, _, rfl, _, _, rfl, rfl, L, _, _, rfl, rfl, hl2, hz, ?_⟩
          exact next _ _ _ (by omega)
    · rintro σ H1 ⟨acc, u, v, rfl, sm, hl, hn, hg⟩
      refine ⟨_, rfl, .inl ⟨L, _, rfl, SqL.of hl, fun q hq => ?_⟩⟩
      refine k2 _ q acc (fun c o e => by rw [upd_ne (ne_of_none (sm c o e) hq)]; exact sm c o e) (sm.free hq) upd_same ⟨?_, hg⟩
      rw [hn, List.length_map]
      exact hs.len
end
end Rg

namespace Rg
open PySem PySem.Spec PyProof.Rows L2 GxR RgG RgE RgR
/-! what the dict of the states looks like -/
def kOf (st : List Int) : List Key := st.map Sum.inl
theorem kOf_kV (st : List Int) : (kOf st).map kV = st.map V.int := by unfold kOf; rw [List.map_map]; rfl
def unK (k : List Key) : List Int := k.map fun x => match x with | .inl i => i | .inr _ => 0
theorem unK_kOf (st : List Int) : unK (kOf st) = st := by
  unfold unK kOf
  rw [List.map_map]
  exact List.map_id _
theorem kOf_inj {a b : List Int} (h : kOf a = kOf b) : a = b := by rw [← unK_kOf a, h, unK_kOf]
def IsSt (n : Nat) (k : List Key) : Prop := ∃ st, k = kOf st ∧ Stt n st
theorem few_keys {n : Nat} {ks : List (List Key)} (hn : n ≤ 4) (nd : ks.Nodup) (h : ∀ k ∈ ks, IsSt n k) : ks.length ≤ 6561 := by
  have e : (ks.map unK).map kOf = ks := by
    rw [List.map_map]
    have : ∀ k ∈ ks, (kOf ∘ unK) k = id k := fun k hk => by
      obtain ⟨st, rfl, _⟩ := h k hk
      show kOf (unK (kOf st)) = kOf st
      rw [unK_kOf]
    rw [List.map_congr_left this, List.map_id]
  have nd2 : (ks.map unK).Nodup := by
    have q : ((ks.map unK).map kOf).Nodup := by rw [e]; exact nd
    exact (List.pairwise_map.mp q).imp fun h e => h (congrArg kOf e)
  have := RgB.few nd2 (n := n) (fun x hx => by
    obtain ⟨k, hk, rfl⟩ := List.mem_map.mp hx
    obtain ⟨st, rfl, s⟩ := h k hk
    rw [unK_kOf]
    exact ⟨s.len, s.rg⟩) hn
  rwa [List.length_map] at this
/-- a step: a tuple (index, state), the state among the keys ks -/
def ItemOk (n : Nat) (ks : List (List Key)) (H : Hp) (t : Addr) : Prop := ∃ (j : Int) (b : Addr) (st : List Int), H t = some (.tup [.int j, .ref b]) ∧ H b = some (.tup (st.map V.int)) ∧ Stt n st ∧ kOf st ∈ ks ∧ 0 ≤ j ∧ j < n
/-- a list of steps, at most B -/
def ListOk (n B : Nat) (ks : List (List Key)) (H : Hp) (v : V) : Prop := ∃ (l : Addr) (items : List Addr), v = .ref l ∧ H l = some (.lst (items.map V.ref)) ∧ items.length ≤ B ∧ ∀ t ∈ items, ItemOk n ks H t
structure StOk (n B : Nat) (ks : List (List Key)) (kvs : List (List Key × V)) (H : Hp) : Prop where
  nd : (kvs.map (·.1)).Nodup
  key : ∀ kv ∈ kvs, IsSt n kv.1
  lst : ∀ kv ∈ kvs, ListOk n B ks H kv.2
section
variable {n B : Nat} {ks ks' : List (List Key)} {kvs : List (List Key × V)} {H H' : Hp}
/-- tuples stand -/
def Tups (H H' : Hp) : Prop := ∀ b xs, H b = some (.tup xs) → H' b = some (.tup xs)
def Lsts (H H' : Hp) : Prop := ∀ b xs, H b = some (.lst xs) → H' b = some (.lst xs)
theorem ItemOk.mono {t : Addr} (h : ItemOk n ks H t) (e : Tups H H') (k : ∀ x ∈ ks, x ∈ ks') : ItemOk n ks' H' t :=
  let ⟨j, b, st, h1, h2, h3, h4, h5⟩ := h; ⟨j, b, st, e _ _ h1, e _ _ h2, h3, k _ h4, h5⟩
theorem ListOk.mono {v : V} {B' : Nat} (h : ListOk n B ks H v) (e : Tups H H') (el : Lsts H H') (k : ∀ x ∈ ks, x ∈ ks') (hB : B ≤ B') : ListOk n B' ks' H' v :=
  let ⟨l, items, h1, h2, h3, h4⟩ := h; ⟨l, items, h1, el _ _ h2, Nat.le_trans h3 hB, fun t ht => (h4 t ht).mono e k⟩
theorem StOk.mono {B' : Nat} (h : StOk n B ks kvs H) (e : Tups H H') (el : Lsts H H') (k : ∀ x ∈ ks, x ∈ ks') (hB : B ≤ B') : StOk n B' ks' kvs H' :=
  ⟨h.nd, h.key, fun kv hk => (h.lst kv hk).mono e el k hB⟩
theorem StOk.few (h : StOk n B ks kvs H) (hn : n ≤ 4) : kvs.length ≤ 6561 := by
  have := few_keys hn h.nd fun k hk => by
    obtain ⟨kv, hkv, rfl⟩ := List.mem_map.mp hk
    exact h.key kv hkv
  rwa [List.length_map] at this
/-- a new object -/
theorem tups_new {p : Addr} {o : HO} (h : H p = none) : Tups H (upd H p o) := fun b xs e => by rw [upd_ne (ne_of_none e h)]; exact e
theorem lsts_new {p : Addr} {o : HO} (h : H p = none) : Lsts H (upd H p o) := fun b xs e => by rw [upd_ne (ne_of_none e h)]; exact e
theorem tups_same (e : Same H H') : Tups H H' := fun b xs q => e _ _ q
theorem lsts_same (e : Same H H') : Lsts H H' := fun b xs q => e _ _ q
theorem Tups.trans {H1 : Hp} (a : Tups H H') (b : Tups H' H1) : Tups H H1 := fun c xs e => b c xs (a c xs e)
theorem Lsts.trans {H1 : Hp} (a : Lsts H H') (b : Lsts H' H1) : Lsts H H1 := fun c xs e => b c xs (a c xs e)
/-- an object that is no tuple, no list, is changed -/
theorem tups_put {p : Addr} {o u : HO} (h : H p = some u) (nt : ∀ xs, u ≠ .tup xs) : Tups H (upd H p o) := fun b xs e => by
  rw [upd_ne (ne_of e h fun z => nt xs z.symm)]; exact e
theorem lsts_put {p : Addr} {o u : HO} (h : H p = some u) (nl : ∀ xs, u ≠ .lst xs) : Lsts H (upd H p o) := fun b xs e => by
  rw [upd_ne (ne_of e h fun z => nl xs z.symm)]; exact e
theorem gr_tups {T : List Addr} (a : Gr T [] H H') : Tups H H' := fun b xs e => a.tup e (by simp)
theorem gr_lsts {T : List Addr} (a : Gr T [] H H') : Lsts H H' := fun b xs e => a.lst e (by simp)
/-- one step more in the list at l: all lists that stand there get it -/
theorem StOk.app {l t : Addr} {items : List Addr} (h : StOk n B ks kvs H) (hl : H l = some (.lst (items.map V.ref))) (hi : ItemOk n ks H t) (ok : ListOk n B ks H (.ref l)) :
    StOk n (B + 1) ks kvs (upd H l (.lst (items.map V.ref ++ [V.ref t]))) := by
  have et : Tups H (upd H l (.lst (items.map V.ref ++ [V.ref t]))) := tups_put hl fun xs z => nomatch z
  refine ⟨h.nd, h.key, fun kv hk => ?_⟩
  obtain ⟨l2, it2, e1, e2, e3, e4⟩ := h.lst kv hk
  by_cases q : l2 = l
  · subst q
    rw [hl] at e2
    have e5 : items.map V.ref = it2.map V.ref := by
      have := Option.some.inj e2
      injection this
    refine ⟨l2, it2 ++ [t], e1, by rw [upd_same, List.map_append, ← e5]; rfl, by rw [List.length_append]; exact Nat.add_le_add_right e3 1, fun t' ht' => ?_⟩
    rcases List.mem_append.mp ht' with z | z
    · exact (e4 t' z).mono et fun x hx => hx
    · rw [List.mem_singleton.mp z]; exact hi.mono et fun x hx => hx
  · exact ⟨l2, it2, e1, by rw [upd_ne q]; exact e2, Nat.le_succ_of_le e3, fun t' ht' => (e4 t' ht').mono et fun x hx => hx⟩
/-- a new key with an empty list -/
theorem StOk.put {k : List Key} {l : Addr} (h : StOk n B ks kvs H) (hk : valV kvs k = none) (hs : IsSt n k) (hl : H l = some (.lst [])) : StOk n B ks (putK kvs k (.ref l)) H := by
  rw [putK_new _ hk]
  refine ⟨?_, fun kv hkv => ?_, fun kv hkv => ?_⟩
  · rw [List.map_append]
    exact nd_snoc h.nd (valV_not hk)
  · rcases List.mem_append.mp hkv with q | q
    · exact h.key kv q
    · rw [List.mem_singleton.mp q]; exact hs
  · rcases List.mem_append.mp hkv with q | q
    · exact h.lst kv q
    · rw [List.mem_singleton.mp q]; exact ⟨l, [], rfl, hl, Nat.zero_le _, fun t ht => nomatch ht⟩
end
theorem valV_mem {κ : Type} [DecidableEq κ] {kvs : List (κ × V)} {k : κ} {v : V} (h : valV kvs k = some v) : (k, v) ∈ kvs := by
  unfold valV at h
  obtain ⟨kv, h1, h2⟩ := Option.map_eq_some_iff.mp h
  have e := List.find?_some h1
  have m := List.mem_of_find?_eq_some h1
  have e' : kv.1 = k := of_decide_eq_true e
  obtain ⟨a, b⟩ := kv
  cases e'
  cases h2
  exact m
theorem valV_of_key {κ : Type} [DecidableEq κ] {kvs : List (κ × V)} {k : κ} (h : k ∈ kvs.map (·.1)) : ∃ v, valV kvs k = some v := by
  cases e : valV kvs k with
  | some v => exact ⟨v, rfl⟩
  | none => exact absurd h (valV_not e)
end Rg

namespace Rg
open PySem PySem.Spec PyProof.Rows L2 GxR RgG RgE RgR
abbrev NA : List Str := ["distances", "start", "steps", "queue", "state", "index", "later", "is_changed", "gone", "alive", "one"]
theorem scAlive : FnScope NA ["distances"] (defScope sAlive) := ⟨rfl, rfl, rfl, by decide +kernel, rfl, by decide +kernel, by decide +kernel⟩
abbrev XA (P : Program) (w : World) {K : PySem.W.Frag} {mg : Str → Option Value} (base : Heap) (t : Tx K mg) (A : Around) (outer : List Env) (s : Shared) (H : Hp) (E : XK) : Cx :=
  (cxOf CX0 P w K mg base NA "alive_states" (defScope sAlive) t.alive.f (.ref t.alive.c) A outer s H E).nox
def stA (i : Nat) : Stmt := (defBody sAlive).getD i (.Pass ⟨0, 0, 0, 0⟩)
/-- the states' dict at SD, the queue at QD -/
structure Q1 (T : List Addr) (ds : List Int) (H0 H : Hp) (SD QD : Addr) (kvs : List (List Key × V)) (qs : List Addr) (pops : Nat) : Prop where
  gr : Gr T [] H0 H
  sd : H SD = some (.dT kvs)
  sf : H0 SD = none
  ok : StOk ds.length (4 * pops) (kvs.map (·.1)) kvs H
  lf : ∀ kv ∈ kvs, ∀ l, kv.2 = .ref l → H0 l = none
  qd : H QD = some (.lst (qs.map V.ref))
  qf : H0 QD = none
  ql : ∀ kv ∈ kvs, kv.2 ≠ .ref QD
  qk : ∀ q ∈ qs, ∃ st, H q = some (.tup (st.map V.int)) ∧ Stt ds.length st ∧ kOf st ∈ kvs.map (·.1)
  cnt : pops + qs.length = kvs.length
  st : kOf ds ∈ kvs.map (·.1)
/-- within the for: j indices gone through, the state at q is out of the queue -/
structure Q2 (T : List Addr) (ds : List Int) (H0 H : Hp) (SD QD q : Addr) (sq : List Int) (kvs : List (List Key × V)) (qs : List Addr) (pops j : Nat) : Prop where
  gr : Gr T [] H0 H
  sd : H SD = some (.dT kvs)
  sf : H0 SD = none
  ok : StOk ds.length (4 * pops + j) (kvs.map (·.1)) kvs H
  lf : ∀ kv ∈ kvs, ∀ l, kv.2 = .ref l → H0 l = none
  qd : H QD = some (.lst (qs.map V.ref))
  qf : H0 QD = none
  ql : ∀ kv ∈ kvs, kv.2 ≠ .ref QD
  qk : ∀ q ∈ qs, ∃ st, H q = some (.tup (st.map V.int)) ∧ Stt ds.length st ∧ kOf st ∈ kvs.map (·.1)
  cnt : pops + 1 + qs.length = kvs.length
  st : kOf ds ∈ kvs.map (·.1)
  hq : H q = some (.tup (sq.map V.int))
  sg : Stt ds.length sq
  kq : kOf sq ∈ kvs.map (·.1)
section
variable {P : Program} {w : World} {K : PySem.W.Frag} {mg : Str → Option Value} {base : Heap}
def SigA (a SD QD : Addr) (σ : L2.St) : Prop := ∃ u4 u5 u6 u7 u8 u9 u10 : Option V, σ = [some (.ref a), some (.ref a), some (.ref SD), some (.ref QD), u4, u5, u6, u7, u8, u9, u10]
def Pre3 (T : List Addr) (a : Addr) (ds : List Int) (H0 : Hp) (σ : L2.St) (H : Hp) : Prop := ∃ SD QD kvs qs pops, SigA a SD QD σ ∧ Q1 T ds H0 H SD QD kvs qs pops
/-- start = tuple(distances); steps, queue = {start: []}, [start] -/
theorem al12 (t : Tx K mg) {A : Around} {outer : List Env} {s : Shared} {H0 : Hp} {E : XK} {a : Addr} {ds : List Int} (hu : (XA P w base t A outer s H0 E).A.units + 1 < cLine) (ha : H0 a = some (.tup (ds.map V.int))) (hd : Dist ds) (hT : TbG t.T H0) :
    ∃ t1 t2, PS (XA P w base t A outer s H0 E) (stA 0) t1 ∧ PS (XA P w base t A outer s H0 E) (stA 1) t2 ∧ ∀ (D : Ends) (u : TS), (∀ σ' H', Pre3 t.T a ds H0 σ' H' → u D σ' H') → tSeq t1 (tSeq t2 u) D (start NA [.ref a]) H0 := by
  refine ⟨_, _, ps_set (i := 1) scAlive.nd rfl (Or.inl rfl) (pe_tupleOf (by rfl) t.ztuple (pv 0)),
    ps_asg (pe_tup (pa_cons (pe_disp1 hu (pv 1) (pe_lst pa_nil)) (pa_cons (pe_lst (pa_cons (pv 1) pa_nil)) pa_nil))) (pg_tup rfl (pgs_cons (pg_name (i := 2) scAlive.nd rfl (Or.inr rfl)) (pgs_cons (pg_name (i := 3) scAlive.nd rfl (Or.inl rfl)) pgs_nil))), fun D u hu => ?_⟩
  refine ⟨_, rfl, .inr ⟨a, ds.map V.int, rfl, SqT.of ha, ?_⟩⟩
  -- {start: []}
  intro SD hSD
  have ha1 : upd H0 SD (.dT []) a = some (.tup (ds.map V.int)) := by rw [upd_ne (ne_of_none ha hSD)]; exact ha
  refine ⟨_, rfl, (by show 0 ≤ sizeLine; decide), fun l hl => ?_⟩
  have nSl : SD ≠ l := ne_of_none (o := .dT []) upd_same hl
  have h0l : H0 l = none := by rw [upd_ne nSl.symm] at hl; exact hl
  refine ⟨a, kOf ds, rfl, by rw [upd_ne (ne_of_none ha1 hl), kOf_kV]; exact ha1, by rw [upd_ne nSl]; exact upd_same, ?_⟩
  -- [start]
  refine ⟨_, rfl, (by show 1 ≤ sizeLine; decide), fun QD hQD => ?_⟩
  have nQS : SD ≠ QD := ne_of_none (o := .dT [(kOf ds, .ref l)]) upd_same hQD
  have nQl : l ≠ QD := ne_of_none (o := .lst []) (by rw [upd_ne nSl.symm]; exact upd_same) hQD
  have h0Q : H0 QD = none := by rw [upd_ne nQS.symm, upd_ne nQl.symm, upd_ne nQS.symm] at hQD; exact hQD
  refine ⟨(by show 2 ≤ sizeLine; decide), fun TP hTP => ?_⟩
  refine ⟨TP, _, rfl, SqT.of upd_same, rfl, _, _, rfl, _, _, rfl, rfl, ?_⟩
  refine hu _ _ ⟨SD, QD, [(kOf ds, .ref l)], [a], 0, ⟨none, none, none, none, none, none, none, rfl⟩, ?_⟩
  -- the heap, step by step
  have g1 : Gr t.T [] H0 (upd H0 SD (.dT [])) := (Gr.refl hT).new hSD
  have g2 := g1.new (o := .lst []) hl
  have g3 := g2.put (o := .dT [(kOf ds, .ref l)]) (p := SD) (u := .dT []) (by rw [upd_ne nSl]; exact upd_same) (fun ps z => nomatch z) (.inr hSD)
  have g4 := g3.new (o := .lst [.ref a]) hQD
  have g5 := g4.new (o := .tup [.ref SD, .ref QD]) hTP
  have e1 : (upd (upd (upd (upd (upd H0 SD (.dT [])) l (.lst [])) SD (.dT [(kOf ds, .ref l)])) QD (.lst [.ref a])) TP (.tup [.ref SD, .ref QD])) l = some (.lst []) := by
    have q : (upd (upd (upd (upd H0 SD (.dT [])) l (.lst [])) SD (.dT [(kOf ds, .ref l)])) QD (.lst [.ref a])) l = some (.lst []) := by rw [upd_ne nQl, upd_ne nSl.symm, upd_same]
    rw [upd_ne (ne_of_none q hTP)]; exact q
  have e2 : (upd (upd (upd (upd (upd H0 SD (.dT [])) l (.lst [])) SD (.dT [(kOf ds, .ref l)])) QD (.lst [.ref a])) TP (.tup [.ref SD, .ref QD])) SD = some (.dT [(kOf ds, .ref l)]) := by
    have q : (upd (upd (upd (upd H0 SD (.dT [])) l (.lst [])) SD (.dT [(kOf ds, .ref l)])) QD (.lst [.ref a])) SD = some (.dT [(kOf ds, .ref l)]) := by rw [upd_ne nQS, upd_same]
    rw [upd_ne (ne_of_none q hTP)]; exact q
  have e3 : (upd (upd (upd (upd (upd H0 SD (.dT [])) l (.lst [])) SD (.dT [(kOf ds, .ref l)])) QD (.lst [.ref a])) TP (.tup [.ref SD, .ref QD])) QD = some (.lst [.ref a]) := by
    rw [upd_ne (ne_of_none (o := .lst [.ref a]) upd_same hTP)]; exact upd_same
  have e4 := g5.tup ha (by simp)
  exact { gr := g5, sd := e2, sf := hSD, qd := e3, qf := h0Q, cnt := rfl, st := by simp
          ok := ⟨by simp, fun kv hkv => by rw [List.mem_singleton.mp hkv]; exact ⟨ds, rfl, rfl, hd.rg⟩, fun kv hkv => by rw [List.mem_singleton.mp hkv]; exact ⟨l, [], rfl, e1, Nat.zero_le _, fun t ht => nomatch ht⟩⟩
          lf := fun kv hkv l' e => by
            rw [List.mem_singleton.mp hkv] at e
            cases e
            exact h0l
          ql := fun kv hkv => by
            rw [List.mem_singleton.mp hkv]
            intro z
            cases z
            exact nQl rfl
          qk := fun q hq => by
            rw [List.mem_singleton.mp hq]
            exact ⟨ds, e4, ⟨rfl, hd.rg⟩, by simp⟩ }
end
end Rg

namespace Rg
open PySem PySem.Spec PyProof.Rows L2 GxR RgG RgE RgR
section
variable {n B : Nat} {ks ks' : List (List Key)} {kvs : List (List Key × V)} {H H' : Hp}
theorem StOk.mono2 {B' : Nat} (h : StOk n B ks kvs H) (e : Tups H H') (el : ∀ kv ∈ kvs, ∀ l xs, kv.2 = .ref l → H l = some (.lst xs) → H' l = some (.lst xs)) (k : ∀ x ∈ ks, x ∈ ks') (hB : B ≤ B') : StOk n B' ks' kvs H' :=
  ⟨h.nd, h.key, fun kv hk =>
    let ⟨l, items, h1, h2, h3, h4⟩ := h.lst kv hk
    ⟨l, items, h1, el kv hk _ _ h1 h2, Nat.le_trans h3 hB, fun t ht => (h4 t ht).mono e k⟩⟩
/-- the object at p, no list of the dict's and no tuple, is changed -/
theorem StOk.other {p : Addr} {o u : HO} (h : StOk n B ks kvs H) (hp : H p = some u) (nt : ∀ xs, u ≠ .tup xs) (nl : ∀ kv ∈ kvs, kv.2 ≠ .ref p) : StOk n B ks kvs (upd H p o) :=
  h.mono2 (tups_put hp nt) (fun kv hk l xs e q => by
    have : l ≠ p := fun z => nl kv hk (by rw [e, z])
    rw [upd_ne this]; exact q) (fun x hx => hx) (Nat.le_refl _)
end
theorem q1_small {T : List Addr} {ds : List Int} {H0 H : Hp} {SD QD : Addr} {kvs : List (List Key × V)} {qs : List Addr} {pops : Nat} (q : Q1 T ds H0 H SD QD kvs qs pops) (hd : Dist ds) : kvs.length ≤ 6561 := q.ok.few hd.l4
/-- the queue's last state is taken out -/
theorem q1_pop {T : List Addr} {ds : List Int} {H0 H : Hp} {SD QD q : Addr} {kvs : List (List Key × V)} {qs : List Addr} {pops : Nat} (h : Q1 T ds H0 H SD QD kvs (qs ++ [q]) pops) :
    ∃ sq, Q2 T ds H0 (upd H QD (.lst (qs.map V.ref))) SD QD q sq kvs qs pops 0 := by
  obtain ⟨sq, e1, e2, e3⟩ := h.qk q (by simp)
  have et : Tups H (upd H QD (.lst (qs.map V.ref))) := tups_put h.qd fun xs z => nomatch z
  refine ⟨sq, ⟨h.gr.put h.qd (fun ps z => nomatch z) (.inr h.qf), ?_, h.sf, h.ok.other h.qd (fun xs z => nomatch z) h.ql, h.lf, upd_same, h.qf, h.ql, fun q' hq' => ?_, ?_, h.st, et _ _ e1, e2, e3⟩⟩
  · rw [upd_ne (ne_of h.sd h.qd fun z => nomatch z)]; exact h.sd
  · obtain ⟨st, a, b, c⟩ := h.qk q' (List.mem_append_left _ hq')
    exact ⟨st, et _ _ a, b, c⟩
  · have := h.cnt
    rw [List.length_append] at this
    simp only [List.length_cons, List.length_nil] at this
    omega
theorem q2_same {T : List Addr} {ds : List Int} {H0 H H' : Hp} {SD QD q : Addr} {sq : List Int} {kvs : List (List Key × V)} {qs : List Addr} {pops j : Nat} (h : Q2 T ds H0 H SD QD q sq kvs qs pops j) (e : Same H H') : Q2 T ds H0 H' SD QD q sq kvs qs pops j :=
  ⟨h.gr.trans (Gr.same h.gr.tb e), e _ _ h.sd, h.sf, h.ok.mono (tups_same e) (lsts_same e) (fun x hx => hx) (Nat.le_refl _), h.lf, e _ _ h.qd, h.qf, h.ql, fun q' hq' => let ⟨st, a, b, c⟩ := h.qk q' hq'; ⟨st, e _ _ a, b, c⟩, h.cnt, h.st, e _ _ h.hq, h.sg, h.kq⟩
theorem q2_more {T : List Addr} {ds : List Int} {H0 H : Hp} {SD QD q : Addr} {sq : List Int} {kvs : List (List Key × V)} {qs : List Addr} {pops j j' : Nat} (h : Q2 T ds H0 H SD QD q sq kvs qs pops j) (e : j ≤ j') : Q2 T ds H0 H SD QD q sq kvs qs pops j' :=
  ⟨h.gr, h.sd, h.sf, h.ok.mono (fun _ _ e => e) (fun _ _ e => e) (fun x hx => hx) (by omega), h.lf, h.qd, h.qf, h.ql, h.qk, h.cnt, h.st, h.hq, h.sg, h.kq⟩
/-- the for is through -/
theorem q2_end {T : List Addr} {ds : List Int} {H0 H : Hp} {SD QD q : Addr} {sq : List Int} {kvs : List (List Key × V)} {qs : List Addr} {pops j : Nat} (h : Q2 T ds H0 H SD QD q sq kvs qs pops j) (hj : j ≤ 4) : Q1 T ds H0 H SD QD kvs qs (pops + 1) :=
  ⟨h.gr, h.sd, h.sf, h.ok.mono (fun _ _ e => e) (fun _ _ e => e) (fun x hx => hx) (by omega), h.lf, h.qd, h.qf, h.ql, h.qk, h.cnt, h.st⟩
section
variable {T : List Addr} {ds sq st : List Int} {H0 H : Hp} {SD QD q p l tp : Addr} {kvs : List (List Key × V)} {qs items : List Addr} {pops j i : Nat}
/-- the step (i, p) goes into the list of q's state -/
theorem q2_app (h : Q2 T ds H0 H SD QD q sq kvs qs pops j) (hv : valV kvs (kOf sq) = some (.ref l)) (hl : H l = some (.lst (items.map V.ref))) (hp : H p = some (.tup (st.map V.int))) (hst : Stt ds.length st) (hi : i < ds.length) (htp : H tp = none)
    (H' : Hp) (eH : H' = upd (upd H tp (.tup [.int (i : Int), .ref p])) l (.lst (items.map V.ref ++ [.ref tp]))) :
    (upd H tp (.tup [.int (i : Int), .ref p])) l = some (.lst (items.map V.ref)) ∧ Gr T [] H0 H' ∧ H' SD = some (.dT kvs) ∧ StOk ds.length (4 * pops + j + 1) (kvs.map (·.1) ++ [kOf st]) kvs H' ∧ H' QD = some (.lst (qs.map V.ref)) ∧ Tups H H' := by
  have hm := valV_mem hv
  have hl2 : (upd H tp (.tup [.int (i : Int), .ref p])) l = some (.lst (items.map V.ref)) := by rw [upd_ne (ne_of_none hl htp)]; exact hl
  have e1 : Tups H (upd H tp (.tup [.int (i : Int), .ref p])) := tups_new htp
  have e2 : Tups (upd H tp (.tup [.int (i : Int), .ref p])) H' := by rw [eH]; exact tups_put hl2 fun xs z => nomatch z
  have ok1 : StOk ds.length (4 * pops + j) (kvs.map (·.1) ++ [kOf st]) kvs (upd H tp (.tup [.int (i : Int), .ref p])) := h.ok.mono e1 (lsts_new htp) (fun x hx => List.mem_append_left _ hx) (Nat.le_refl _)
  have it : ItemOk ds.length (kvs.map (·.1) ++ [kOf st]) (upd H tp (.tup [.int (i : Int), .ref p])) tp := ⟨i, p, st, upd_same, e1 _ _ hp, hst, by simp, by omega, by omega⟩
  have nQ : l ≠ QD := fun z => h.ql _ hm (by rw [z])
  refine ⟨hl2, ?_, ?_, ?_, ?_, e1.trans e2⟩
  · rw [eH]
    exact (h.gr.new htp).put hl2 (fun ps z => nomatch z) (.inr (h.lf _ hm l rfl))
  · have sd1 : (upd H tp (.tup [.int (i : Int), .ref p])) SD = some (.dT kvs) := by rw [upd_ne (ne_of_none h.sd htp)]; exact h.sd
    rw [eH, upd_ne (ne_of sd1 hl2 fun z => nomatch z)]
    exact sd1
  · rw [eH]
    exact ok1.app hl2 it (ok1.lst _ hm)
  · rw [eH, upd_ne nQ.symm, upd_ne (ne_of_none h.qd htp)]
    exact h.qd
/-- .. and the state is there already -/
theorem q2_old (h : Q2 T ds H0 H SD QD q sq kvs qs pops j) (hv : valV kvs (kOf sq) = some (.ref l)) (hl : H l = some (.lst (items.map V.ref))) (hp : H p = some (.tup (st.map V.int))) (hst : Stt ds.length st) (hi : i < ds.length) (htp : H tp = none)
    (ho : kOf st ∈ kvs.map (·.1)) : Q2 T ds H0 (upd (upd H tp (.tup [.int (i : Int), .ref p])) l (.lst (items.map V.ref ++ [.ref tp]))) SD QD q sq kvs qs pops (j + 1) := by
  obtain ⟨_, g, sd, ok, qd, tu⟩ := q2_app h hv hl hp hst hi htp _ rfl
  refine ⟨g, sd, h.sf, ok.mono (fun _ _ e => e) (fun _ _ e => e) (fun x hx => ?_) (by omega), h.lf, qd, h.qf, h.ql, fun q' hq' => let ⟨st, a, b, c⟩ := h.qk q' hq'; ⟨st, tu _ _ a, b, c⟩, h.cnt, h.st, tu _ _ h.hq, h.sg, h.kq⟩
  rcases List.mem_append.mp hx with z | z
  · exact z
  · rw [List.mem_singleton.mp z]; exact ho
/-- .. and the state is new: it gets an empty list, and goes into the queue -/
theorem q2_new {l2 : Addr} (h : Q2 T ds H0 H SD QD q sq kvs qs pops j) (hv : valV kvs (kOf sq) = some (.ref l)) (hl : H l = some (.lst (items.map V.ref))) (hp : H p = some (.tup (st.map V.int))) (hst : Stt ds.length st) (hi : i < ds.length) (htp : H tp = none)
    (ho : valV kvs (kOf st) = none) (H1 : Hp) (e1 : H1 = upd (upd H tp (.tup [.int (i : Int), .ref p])) l (.lst (items.map V.ref ++ [.ref tp]))) (hl2 : H1 l2 = none) :
    Q2 T ds H0 (upd (upd (upd H1 l2 (.lst [])) SD (.dT (putK kvs (kOf st) (.ref l2)))) QD (.lst (qs.map V.ref ++ [.ref p]))) SD QD q sq (putK kvs (kOf st) (.ref l2)) (qs ++ [p]) pops (j + 1) := by
  obtain ⟨_, g, sd, ok, qd, tu⟩ := q2_app h hv hl hp hst hi htp H1 e1
  have sd2 : (upd H1 l2 (.lst [])) SD = some (.dT kvs) := by rw [upd_ne (ne_of_none sd hl2)]; exact sd
  have nSQ : SD ≠ QD := ne_of sd qd fun z => nomatch z
  have nlS : l2 ≠ SD := (ne_of_none sd hl2).symm
  have nlQ : l2 ≠ QD := (ne_of_none qd hl2).symm
  have qd2 : (upd (upd H1 l2 (.lst [])) SD (.dT (putK kvs (kOf st) (.ref l2)))) QD = some (.lst (qs.map V.ref)) := by rw [upd_ne nSQ.symm, upd_ne nlQ.symm]; exact qd
  have t1 : Tups H1 (upd H1 l2 (.lst [])) := tups_new hl2
  have t2 : Tups (upd H1 l2 (.lst [])) (upd (upd H1 l2 (.lst [])) SD (.dT (putK kvs (kOf st) (.ref l2)))) := tups_put sd2 fun xs z => nomatch z
  have t3 : Tups (upd (upd H1 l2 (.lst [])) SD (.dT (putK kvs (kOf st) (.ref l2)))) (upd (upd (upd H1 l2 (.lst [])) SD (.dT (putK kvs (kOf st) (.ref l2)))) QD (.lst (qs.map V.ref ++ [.ref p]))) := tups_put qd2 fun xs z => nomatch z
  have tt := ((tu.trans t1).trans t2).trans t3
  have h0l : H0 l2 = none := g.free hl2 (by simp)
  have ek : (putK kvs (kOf st) (.ref l2)).map (·.1) = kvs.map (·.1) ++ [kOf st] := by rw [putK_new _ ho, List.map_append]; rfl
  have memo : ∀ kv ∈ putK kvs (kOf st) (.ref l2), kv ∈ kvs ∨ kv = (kOf st, .ref l2) := fun kv hkv => by
    rw [putK_new _ ho] at hkv
    rcases List.mem_append.mp hkv with z | z
    · exact .inl z
    · exact .inr (List.mem_singleton.mp z)
  have ok2 := ok.mono (H' := upd H1 l2 (.lst [])) t1 (lsts_new hl2) (fun x hx => hx) (Nat.le_refl _)
  have ok3 := ok2.put ho ⟨st, rfl, hst⟩ (show (upd H1 l2 (.lst [])) l2 = some (.lst []) from upd_same)
  have ql' : ∀ kv ∈ putK kvs (kOf st) (.ref l2), kv.2 ≠ .ref QD := fun kv hkv => by
    rcases memo kv hkv with z | z
    · exact h.ql kv z
    · rw [z]; intro e; cases e; exact nlQ rfl
  have nS : ∀ kv ∈ putK kvs (kOf st) (.ref l2), kv.2 ≠ .ref SD := fun kv hkv e => by
    obtain ⟨l', it, e1, e2, _⟩ := ok3.lst kv hkv
    rw [e] at e1
    cases e1
    rw [sd2] at e2
    cases e2
  have ok4 := (ok3.other (o := .dT (putK kvs (kOf st) (.ref l2))) sd2 (fun xs z => nomatch z) nS).other (o := .lst (qs.map V.ref ++ [.ref p])) qd2 (fun xs z => nomatch z) ql'
  refine ⟨?_, ?_, h.sf, by rw [ek]; exact ok4.mono (fun _ _ e => e) (fun _ _ e => e) (fun x hx => hx) (by omega), fun kv hkv l' e => ?_, by rw [List.map_append]; exact upd_same, h.qf, ql', fun q' hq' => ?_, ?_, by rw [ek]; exact List.mem_append_left _ h.st, tt _ _ h.hq, h.sg, by rw [ek]; exact List.mem_append_left _ h.kq⟩
  · exact ((g.new hl2).put sd2 (fun ps z => nomatch z) (.inr h.sf)).put qd2 (fun ps z => nomatch z) (.inr h.qf)
  · rw [upd_ne nSQ]; exact upd_same
  · rcases memo kv hkv with z | z
    · exact h.lf kv z l' e
    · rw [z] at e; cases e; exact h0l
  · rcases List.mem_append.mp hq' with z | z
    · obtain ⟨st', a, b, c⟩ := h.qk q' z
      exact ⟨st', tt _ _ a, b, by rw [ek]; exact List.mem_append_left _ c⟩
    · rw [List.mem_singleton.mp z]
      exact ⟨st, tt _ _ hp, hst, by rw [ek]; simp⟩
  · have := h.cnt
    rw [putK_new _ ho, List.length_append, List.length_append]
    simp only [List.length_cons, List.length_nil]
    omega
end
end Rg

namespace Rg
open PySem PySem.Spec PyProof.Rows L2 GxR RgG RgE RgR
section
variable {P : Program} {w : World} {K : PySem.W.Frag} {mg : Str → Option Value} {base : Heap}
/-- behind the first while -/
def Post3 (T : List Addr) (a : Addr) (ds : List Int) (H0 : Hp) (σ : L2.St) (H : Hp) : Prop := ∃ SD QD kvs, SigA a SD QD σ ∧ Gr T [] H0 H ∧ H SD = some (.dT kvs) ∧ H0 SD = none ∧ StOk ds.length 26244 (kvs.map (·.1)) kvs H ∧ kOf ds ∈ kvs.map (·.1)
theorem al3 (t : Tx K mg) {A : Around} {outer : List Env} {s : Shared} {H0 : Hp} {E : XK} {a : Addr} {ds : List Int} (hr : Room 1 (XA P w base t A outer s H0 E).A) (ha : H0 a = some (.tup (ds.map V.int))) (hd : Dist ds) :
    ∃ t3, PS (XA P w base t A outer s H0 E) (stA 2) t3 ∧ ∀ (D : Ends) (σ : L2.St) (H : Hp), Pre3 t.T a ds H0 σ H → (∀ σ' H', Post3 t.T a ds H0 σ' H' → D.nx σ' H') → t3 D σ H := by
  have hu := hu_of hr
  refine ⟨_, ps_while PassesOwn.never (pt_truth (pv 3) (by intro _; rfl)) (pss_cons (ps_set (i := 4) scAlive.nd rfl (Or.inl rfl) (pe_bm0 PySem.F.plainAttrs_list PySem.F.slot_list_pop PySem.F.type_list_pop mt_pop (pv 3)))
    (pss_one (ps_for PassesOwn.never rfl (pi_range1 (by rfl) t.zrange (pa_cons (pe_callB call_len_seq (by rfl) t.zlen PySem.boot_len (pa_cons (pv 0) pa_nil)) pa_nil)) (pg_name (i := 5) scAlive.nd rfl (Or.inl rfl))
      (pss_cons (ps_set (i := 6) scAlive.nd rfl (Or.inl rfl) (pe_call (ok_served t) hr (by rfl) t.served.m t.served.F.kp t.served.b .nil pass0 (pa_cons (pv 0) (pa_cons (pv 4) (pa_cons (pv 5) pa_nil)))))
        (pss_one (ps_if (pt_cmp (pc_notN (pv 6)))
          (pss_cons (ps_expr (pe_bm PySem.F.plainAttrs_list PySem.F.slot_list_append PySem.F.type_list_append mt_append (pe_dget hu (pv 2) (pv 4) (fun _ _ => rfl)) (pa_cons (pe_tup (pa_cons (pv 5) (pa_cons (pv 6) pa_nil))) pa_nil)))
            (pss_one (ps_if (pt_cmp (pc_dnotin hu (pv 6) (pv 2)))
              (pss_cons (ps_dput hu (pv 2) (pv 6) (pe_lst pa_nil) rfl) (pss_one (ps_expr (pe_bm PySem.F.plainAttrs_list PySem.F.slot_list_append PySem.F.type_list_append mt_append (pv 3) (pa_cons (pv 6) pa_nil)))))
              pss_nil)))
          pss_nil)))))), fun D σ H hpre hD => ?_⟩
  have sz : sizeLine = 16777216 := sizeLine_eq
  refine ⟨fun m σ H => ∃ SD QD kvs qs pops, SigA a SD QD σ ∧ Q1 t.T ds H0 H SD QD kvs qs pops ∧ m = 6561 - pops, ?_, ?_⟩
  · obtain ⟨SD, QD, kvs, qs, pops, h1, h2⟩ := hpre
    exact ⟨_, SD, QD, kvs, qs, pops, h1, h2, rfl⟩
  · rintro m σ H ⟨SD, QD, kvs, qs, pops, ⟨u4, u5, u6, u7, u8, u9, u10, rfl⟩, h, rfl⟩
    refine ⟨_, rfl, _, .inl ⟨_, SqL.of h.qd, rfl⟩, ?_⟩
    have hfew := q1_small h hd
    rcases List.eq_nil_or_concat qs with rfl | ⟨qs, q, rfl⟩
    · -- the queue is empty
      refine iteF ?_
      have hc := h.cnt
      simp only [List.length_nil] at hc
      exact hD _ _ ⟨SD, QD, kvs, ⟨u4, u5, u6, u7, u8, u9, u10, rfl⟩, h.gr, h.sd, h.sf, h.ok.mono (fun _ _ e => e) (fun _ _ e => e) (fun x hx => hx) (by omega), h.st⟩
    · rw [List.concat_eq_append] at h ⊢
      have e1 : (!((qs ++ [q]).map V.ref).isEmpty) = true := by cases qs <;> rfl
      rw [e1]
      refine iteT ?_
      have hcn := h.cnt
      rw [List.length_append] at hcn
      simp only [List.length_cons, List.length_nil] at hcn
      obtain ⟨sq, h2⟩ := q1_pop h
      refine ⟨fun σ' H' => ∃ SD QD kvs qs, SigA a SD QD σ' ∧ Q1 t.T ds H0 H' SD QD kvs qs (pops + 1), fun σ' H' ⟨SD', QD', kvs', qs', z1, z2⟩ => ⟨6561 - (pops + 1), by omega, SD', QD', kvs', qs', pops + 1, z1, z2, rfl⟩, ?_⟩
      -- state = queue.pop()
      refine ⟨_, rfl, .inl ⟨rfl, _, SqL.of h.qd⟩, QD, _, V.ref q, rfl, rfl, h.qd, by simp, ?_⟩
      have e2 : ((qs ++ [q]).map V.ref).dropLast = qs.map V.ref := by simp
      rw [e2]
      -- for index in range(len(distances))
      have ha2 := h2.gr.tup ha (by simp)
      refine ⟨_, rfl, _, _, rfl, .inr (SqT.of ha2), _, rfl, by omega, ?_, ?_⟩
      · rw [List.length_map]
        have := hd.l4
        omega
      refine for_range (fun i σ' H' => ∃ kvs qs u5 u6, σ' = [some (.ref a), some (.ref a), some (.ref SD), some (.ref QD), some (.ref q), u5, u6, u7, u8, u9, u10] ∧ Q2 t.T ds H0 H' SD QD q sq kvs qs pops i) ?_ ?_ ?_
      · exact ⟨kvs, qs, u5, u6, rfl, h2⟩
      · rintro i σ1 H1 hi ⟨kvs1, qs1, v5, v6, rfl, g⟩
        have hi2 : i < ds.length := by rw [List.length_map] at hi; simpa using hi
        have ei : (0 : Int) + (i : Int) = (i : Int) := by omega
        rw [ei]
        -- later = served(distances, state, index)
        have ha1 := g.gr.tup ha (by simp)
        refine ⟨_, rfl, _, rfl, _, rfl, a, q, ds, sq, (i : Int), rfl, ha1, g.hq, hd, g.sg, fun H3 sm => ?_, fun H3 p st sm hp0 hp hst => ?_⟩
        · refine ⟨_, rfl, _, rfl, ?_⟩
          refine iteF ?_
          exact ⟨kvs1, qs1, _, _, rfl, q2_more (q2_same g sm) (Nat.le_succ _)⟩
        · refine ⟨_, rfl, _, rfl, ?_⟩
          refine iteT ?_
          have g3 := q2_same g sm
          -- steps[state].append((index, later))
          obtain ⟨l, hv⟩ : ∃ l, valV kvs1 (kOf sq) = some (.ref l) := by
            obtain ⟨v, hv⟩ := valV_of_key g3.kq
            obtain ⟨l, items, e1, _⟩ := g3.ok.lst _ (valV_mem hv)
            exact ⟨l, by rw [hv, show v = V.ref l from e1]⟩
          obtain ⟨l', items, el, hl, hB, hit⟩ := g3.ok.lst _ (valV_mem hv)
          cases el
          have dg : DGet H3 SD (.ref q) (some (.ref l)) := by
            have := DGet.t (k := kOf sq) g3.sd (by rw [kOf_kV]; exact g3.hq)
            rwa [hv] at this
          refine ⟨_, rfl, _, rfl, SD, _, rfl, dg, .inl ⟨rfl, _, SqL.of hl⟩, _, rfl, _, rfl, (by show 2 ≤ sizeLine; decide), fun tp htp => ?_⟩
          have key := q2_app g3 hv hl hp hst hi2 htp _ rfl
          have hkl : kvs1.length ≤ 6561 := g3.ok.few hd.l4
          have hpc : pops + 1 + qs1.length = kvs1.length := g3.cnt
          have hj := hd.l4
          refine ⟨l, _, _, rfl, rfl, key.1, by rw [List.length_map]; omega, ?_⟩
          -- later not in steps
          have sd2 := key.2.2.1
          have tp2 := key.2.2.2.2.2 _ _ hp
          refine ⟨_, rfl, _, rfl, SD, _, rfl, DGet.t (k := kOf st) sd2 (by rw [kOf_kV]; exact tp2), _, rfl, ?_⟩
          cases ho : valV kvs1 (kOf st) with
          | some v =>
            refine iteF ?_
            exact ⟨kvs1, qs1, _, _, rfl, q2_old g3 hv hl hp hst hi2 htp (List.mem_map.mpr ⟨_, valV_mem ho, rfl⟩)⟩
          | none =>
            refine iteT ?_
            refine ⟨(by show 0 ≤ sizeLine; decide), fun l2 hl2 => ?_⟩
            have sd3 := (show upd _ l2 (.lst []) SD = some (.dT kvs1) from (upd_ne (ne_of_none sd2 hl2)).trans sd2)
            have tp3 := (show upd _ l2 (.lst []) p = some (.tup (st.map V.int)) from (upd_ne (ne_of_none tp2 hl2)).trans tp2)
            refine ⟨_, rfl, _, rfl, SD, _, rfl, DPut.t (k := kOf st) sd3 (by rw [kOf_kV]; exact tp3) (by omega), ?_⟩
            have gn := q2_new (l2 := l2) g3 hv hl hp hst hi2 htp ho _ rfl hl2
            have nSQ : SD ≠ QD := ne_of g3.sd g3.qd fun z => nomatch z
            have qd3 : upd (upd (upd (upd H3 tp (.tup [.int (i : Int), .ref p])) l (.lst (items.map V.ref ++ [.ref tp]))) l2 (.lst [])) SD (.dT (putK kvs1 (kOf st) (.ref l2))) QD = some (.lst (qs1.map V.ref)) := by
              rw [upd_ne nSQ.symm, upd_ne (ne_of_none key.2.2.2.2.1 hl2)]
              exact key.2.2.2.2.1
            refine ⟨_, rfl, .inl ⟨rfl, _, SqL.of qd3⟩, _, rfl, QD, _, _, rfl, rfl, qd3, by rw [List.length_map]; omega, ?_⟩
            exact ⟨_, _, _, _, rfl, gn⟩
      · rintro σ1 H1 ⟨kvs1, qs1, v5, v6, rfl, g⟩
        exact ⟨SD, QD, kvs1, qs1, ⟨_, _, _, _, _, _, _, rfl⟩, q2_end g (by have := hd.l4; rw [List.length_map]; simpa using this)⟩
end
end Rg

namespace Rg
open PySem PySem.Spec PyProof.Rows L2 GxR RgG RgE RgR
/-- BlkOk by a look -/
def blkC (N : List Str) (sc scope : Scope) (own : List (Str × Nat)) : Bool :=
  decide (scope.kind = .function) && (scope.names.all fun y => decide (scope.names.lookup y.1 = some y.2)) && (own.all fun p => decide (N[p.2]? = some p.1)) &&
    (scope.names.all fun y => decide (y.2 ≠ .free) || decide (sc.names.lookup y.1 = some .cell) || decide (sc.names.lookup y.1 = some .free)) &&
    (scope.names.all fun y => !(decide (y.2 = .local) || decide (y.2 = .cell)) || decide (y.1 ∈ own.map (·.1)) || decide (y.1 ∉ N))
theorem blk_by (N : List Str) (sc : Scope) {scope : Scope} {own : List (Str × Nat)} (h : blkC N sc scope own = true) : BlkOk N sc scope own := by
  unfold blkC at h
  simp only [Bool.and_eq_true, Bool.or_eq_true, List.all_eq_true, decide_eq_true_eq, Bool.not_eq_true'] at h
  obtain ⟨⟨⟨⟨h1, h2⟩, h3⟩, h4⟩, h5⟩ := h
  refine ⟨h1, h2, h3, fun y hy f => ?_, fun y hy f => ?_⟩
  · rcases h4 y hy with (z | z) | z
    · exact absurd f z
    · exact .inl z
    · exact .inr z
  · rcases h5 y hy with (z | z) | z
    · rcases f with f | f <;> simp [f] at z
    · exact .inl z
    · exact .inr z
theorem same_unlock {H H' : Hp} {d : Addr} {od : Obj} {u : HO} (hd : H d = some u) (sm : Same (upd H d (.frz od u)) H') : Same H (upd H' d u) := fun b o e => by
  by_cases q : b = d
  · subst q
    rw [hd] at e
    rw [upd_same]; exact e
  · rw [upd_ne q]; exact sm b o (by rw [upd_ne q]; exact e)
theorem same_new {H H' : Hp} {p : Addr} {o : HO} (sm : Same H H') (h : H' p = none) : Same H (upd H' p o) := fun b u e => by rw [upd_ne (ne_of_none (sm b u e) h)]; exact sm b u e
section
variable {P : Program} {w : World} {K : PySem.W.Frag} {mg : Str → Option Value} {base : Heap}
def SigB (a SD AD : Addr) (v7 : Option V) (σ : L2.St) : Prop := ∃ u3 u4 u5 u6 u8 u10 : Option V, σ = [some (.ref a), some (.ref a), some (.ref SD), u3, u4, u5, u6, v7, u8, some (.ref AD), u10]
structure Q4 (T : List Addr) (ds : List Int) (H0 H : Hp) (SD AD : Addr) (kvs ak : List (List Key × V)) : Prop where
  gr : Gr T [] H0 H
  sd : H SD = some (.dT kvs)
  sf : H0 SD = none
  ok : StOk ds.length 26244 (kvs.map (·.1)) kvs H
  ad : H AD = some (.dT ak)
  af : H0 AD = none
  ne : SD ≠ AD
  nd : (ak.map (·.1)).Nodup
  sub : ∀ k ∈ ak.map (·.1), k ∈ kvs.map (·.1)
def Post4 (T : List Addr) (a : Addr) (ds : List Int) (H0 : Hp) (σ : L2.St) (H : Hp) : Prop := ∃ SD AD kvs ak u7, SigB a SD AD u7 σ ∧ Q4 T ds H0 H SD AD kvs ak
abbrev pairF (H : Hp) : Addr → List Key × V → Prop := fun t kv => ∃ b, H t = some (.tup [V.ref b, kv.2]) ∧ H b = some (.tup (kv.1.map kV))
theorem pairF_mono {H H' : Hp} (s : Tups H H') (t : Addr) (kv : List Key × V) (h : pairF H t kv) : pairF H' t kv := let ⟨b, h1, h2⟩ := h; ⟨b, s _ _ h1, s _ _ h2⟩
/-- alive = dict([(state, True) for state in steps]) -/
theorem al4 (t : Tx K mg) {A : Around} {outer : List Env} {s : Shared} {H0 : Hp} {E : XK} {a : Addr} {ds : List Int} (hr : Room 1 (XA P w base t A outer s H0 E).A) (hd : Dist ds) :
    ∃ t3, PS (XA P w base t A outer s H0 E) (stA 3) t3 ∧ ∀ (D : Ends) (σ : L2.St) (H : Hp), Post3 t.T a ds H0 σ H → (∀ σ' H', Post4 t.T a ds H0 σ' H' → D.nx σ' H') → t3 D σ H := by
  have hu := hu_of hr
  have hu2 : (XA P w base t A outer s H0 E).A.units + 2 < cLine := Nat.lt_of_le_of_lt (Nat.add_le_add_left (by decide : 2 ≤ 64) _) hr.units
  refine ⟨_, ps_set (i := 9) scAlive.nd rfl (Or.inr rfl) (pe_callTy (call_dictT rfl hu2) (by rfl) t.zdict boot_dict (pa_cons (pe_lock (pe_lc (own := [("state", 4)]) rfl scAlive.nd (pi_keys (pv 2))
    (blk_by NA (defScope sAlive) (by decide +kernel)) (fun s H C cl fp => pg_name (i := 4) scAlive.nd rfl (Or.inl rfl)) (fun s H C cl fp => pts_nil) (fun s H C cl fp => pe_tup (pa_cons (pv 4) (pa_cons pe_bl pa_nil))))) pa_nil)), fun D σ H hpre hD => ?_⟩
  have sz : sizeLine = 16777216 := sizeLine_eq
  obtain ⟨SD, QD, kvs, ⟨u4, u5, u6, u7, u8, u9, u10, rfl⟩, gr, hsd, sf, ok, hst⟩ := hpre
  have few := ok.few hd.l4
  refine ⟨SD, _, hsd, True.intro, fun od => ⟨_, rfl, SD, od, rfl, .inr ⟨kvs, upd_same, fun D0 hD0 => ?_⟩⟩⟩
  refine lc_it (walk_keysT (d := SD) (o := od) (kvs := kvs)) (fun i H' => ∃ ts : List Addr, H' D0 = some (.lst (ts.map V.ref)) ∧ Same (upd H SD (.frz od (.dT kvs))) H' ∧ Paired (pairF H') ts ((kvs.take i).map fun kv => (kv.1, V.bl true))) ?_ ?_ ?_ ?_
  · exact ⟨[], upd_same, fun b o e => by rw [upd_ne (ne_of_none e hD0)]; exact e, .nil⟩
  · rintro i H' hi ⟨ts, h1, h2, h3⟩
    exact h2 _ _ upd_same
  · rintro i x H1 H2 hi ⟨ts, h1, h2, h3⟩ ⟨rfl, k, v, q, hk, rfl, hq⟩
    refine ⟨rfl, ?_⟩
    refine ⟨_, rfl, (by show 2 ≤ sizeLine; decide), fun tp htp => ?_⟩
    have h1' : upd H2 tp (.tup [.ref q, .bl true]) D0 = some (.lst (ts.map V.ref)) := by rw [upd_ne (ne_of_none h1 htp)]; exact h1
    have ln := h3.length
    rw [List.length_map, List.length_take] at ln
    refine ⟨_, h1', by rw [List.length_map]; omega, ts ++ [tp], by rw [upd_same, List.map_append]; rfl, fun b o e => ?_, ?_⟩
    · by_cases z : b = D0
      · subst z; rw [hD0] at e; cases e
      · rw [upd_ne z]; exact same_new h2 htp b o e
    · have tu : Tups H2 (upd (upd H2 tp (.tup [.ref q, .bl true])) D0 (.lst (ts.map V.ref ++ [V.ref tp]))) := (tups_new htp).trans (tups_put h1' fun xs z => nomatch z)
      rw [List.take_succ, hk]
      show Paired _ _ (List.map _ (_ ++ [(k, v)]))
      rw [List.map_append]
      refine (h3.mono (pairF_mono tu)).snoc ⟨q, ?_, tu _ _ hq⟩
      exact tups_put h1' (fun xs z => nomatch z) _ _ upd_same
  · rintro H' ⟨ts, h1, h2, h3⟩
    refine ⟨h2 _ _ upd_same, ?_⟩
    rw [List.take_length] at h3
    have nD : D0 ≠ SD := fun z => by subst z; rw [upd_same] at hD0; cases hD0
    have hfrz := h2 _ _ upd_same
    have tu : Tups H' (upd H' SD (.dT kvs)) := tups_put hfrz fun xs z => nomatch z
    refine ⟨D0, ts, _, rfl, SqL.of (by rw [upd_ne nD]; exact h1), h3.mono (pairF_mono tu), fun p hp => ?_⟩
    have sm : Same H (upd (upd H' SD (.dT kvs)) p (.dT (mergeG [] (kvs.map fun kv => (kv.1, V.bl true))))) := same_new (same_unlock hsd h2) hp
    have ek : ∀ ak, ak = kvs.map (fun kv => (kv.1, V.bl true)) → ak.map (·.1) = kvs.map (·.1) := fun ak e => by rw [e, List.map_map]; rfl
    have em : mergeG [] (kvs.map fun kv => (kv.1, V.bl true)) = kvs.map fun kv => (kv.1, V.bl true) := by
      have := mergeG_nd (kvs.map fun kv => (kv.1, V.bl true)) [] (by rw [ek _ rfl]; exact ok.nd)
      rw [this]; rfl
    rw [em] at sm ⊢
    refine hD _ _ ⟨SD, p, kvs, kvs.map fun kv => (kv.1, V.bl true), u7, ⟨_, _, _, _, _, _, rfl⟩, ?_⟩
    have gr2 : Gr t.T [] H0 (upd (upd H' SD (.dT kvs)) p (.dT (kvs.map fun kv => (kv.1, V.bl true)))) := gr.trans (Gr.same gr.tb sm)
    have nSp : SD ≠ p := ne_of_none (o := .dT kvs) upd_same hp
    exact { gr := gr2, sd := sm _ _ hsd, sf := sf, ok := ok.mono (tups_same sm) (lsts_same sm) (fun x hx => hx) (Nat.le_refl _), ad := upd_same
            af := by
              have := same_unlock hsd h2
              cases q : H p with
              | some o => rw [this p o q] at hp; cases hp
              | none => exact gr.free q (by simp)
            ne := nSp
            nd := by rw [ek _ rfl]; exact ok.nd
            sub := fun k hk => by rw [ek _ rfl] at hk; exact hk }
end
end Rg

namespace Rg
open PySem PySem.Spec PyProof.Rows L2 GxR RgG RgE RgR
theorem gr_unlock {T : List Addr} {H H' : Hp} {d : Addr} {od : Obj} {u : HO} (hd : H d = some u) (nt : ∀ ps, u ≠ .tbl ps) (g : Gr T [] (upd H d (.frz od u)) H') : Gr T [] H (upd H' d u) := by
  have hf : H' d = some (.frz od u) := g.st d _ (by simp) upd_same (fun ps z => nomatch z)
  refine ⟨g.tb.put hf (fun ps z => nomatch z), fun b o _ e n => ?_, fun b ps _ e => ?_⟩
  · by_cases q : b = d
    · subst q
      rw [hd] at e
      rw [upd_same]; exact e
    · rw [upd_ne q]; exact g.st b o (by simp) (by rw [upd_ne q]; exact e) n
  · have q : b ≠ d := fun z => by
      subst z
      rw [hd] at e
      exact nt ps (Option.some.inj e)
    rw [upd_ne q]
    exact g.tt b ps (by simp) (by rw [upd_ne q]; exact e)
/-- the steps' data -/
structure Dat (H : Hp) (items : List Addr) (prs : List (V × V)) (sts : List (List Int)) : Prop where
  l1 : items.length = prs.length
  l2 : items.length = sts.length
  t : ∀ (i : Nat) (t : Addr) (p : V × V), items[i]? = some t → prs[i]? = some p → H t = some (.tup [p.1, p.2])
  k : ∀ (i : Nat) (p : V × V), prs[i]? = some p → ∃ b st, sts[i]? = some st ∧ p.2 = .ref b ∧ H b = some (.tup (st.map V.int))
theorem dat_of {n : Nat} {ks : List (List Key)} {H : Hp} : ∀ {items : List Addr}, (∀ t ∈ items, ItemOk n ks H t) → ∃ prs sts, Dat H items prs sts
  | [], _ => ⟨[], [], rfl, rfl, fun i t p e => by simp at e, fun i p e => by simp at e⟩
  | t :: r, h => by
    obtain ⟨prs, sts, d⟩ := dat_of (items := r) fun u hu => h u (List.mem_cons_of_mem _ hu)
    obtain ⟨j, b, st, h1, h2, _⟩ := h t (by simp)
    refine ⟨(.int j, .ref b) :: prs, st :: sts, by simp [d.l1], by simp [d.l2], fun i u p e1 e2 => ?_, fun i p e => ?_⟩
    · cases i with
      | zero =>
        have e1' : t = u := Option.some.inj e1
        have e2' : (V.int j, V.ref b) = p := Option.some.inj e2
        subst e1' e2'
        exact h1
      | succ i => exact d.t i u p (by simpa using e1) (by simpa using e2)
    · cases i with
      | zero =>
        have e' : (V.int j, V.ref b) = p := Option.some.inj e
        subst e'
        exact ⟨b, st, rfl, rfl, h2⟩
      | succ i =>
        obtain ⟨b', st', e1, e2, e3⟩ := d.k i p (by simpa using e)
        exact ⟨b', st', by simpa using e1, e2, e3⟩
def Live (ak : List (List Key × V)) (H : Hp) (items : List Addr) : Prop := ∃ t ∈ items, ∃ x b st, H t = some (.tup [x, .ref b]) ∧ H b = some (.tup (st.map V.int)) ∧ kOf st ∈ ak.map (·.1)
def AllLive (kvs ak : List (List Key × V)) (H : Hp) : Prop := ∀ k ∈ ak.map (·.1), ∃ l items, valV kvs k = some (.ref l) ∧ H l = some (.lst (items.map V.ref)) ∧ Live ak H items
theorem live_of {ak : List (List Key × V)} {H : Hp} {items : List Addr} {prs : List (V × V)} {sts : List (List Int)} (d : Dat H items prs sts) (h : anyF prs.length (fun i => (valV ak ((sts.map kOf).getD i [])).isSome) = true) : Live ak H items := by
  unfold anyF at h
  obtain ⟨i, hi, hv⟩ := List.any_eq_true.mp h
  have hi2 : i < prs.length := List.mem_range.mp hi
  obtain ⟨b, st, e1, e2, e3⟩ := d.k i _ (List.getElem?_eq_getElem hi2)
  have hi3 : i < items.length := by rw [d.l1]; exact hi2
  have ht := d.t i _ _ (List.getElem?_eq_getElem hi3) (List.getElem?_eq_getElem hi2)
  rw [List.getD_eq_getElem?_getD, List.getElem?_map, e1] at hv
  have hv' : (valV ak (kOf st)).isSome = true := hv
  rw [e2] at ht
  refine ⟨items[i], List.getElem_mem hi3, _, b, st, ht, e3, ?_⟩
  cases q : valV ak (kOf st) with
  | none => rw [q] at hv'; cases hv'
  | some v => exact List.mem_map.mpr ⟨_, valV_mem q, rfl⟩
theorem Live.mono {ak : List (List Key × V)} {H H' : Hp} {items : List Addr} (h : Live ak H items) (e : Tups H H') : Live ak H' items :=
  let ⟨t, a, x, b, st, h1, h2, h3⟩ := h; ⟨t, a, x, b, st, e _ _ h1, e _ _ h2, h3⟩
theorem Dat.mono {H H' : Hp} {items : List Addr} {prs : List (V × V)} {sts : List (List Int)} (d : Dat H items prs sts) (e : Tups H H') : Dat H' items prs sts :=
  ⟨d.l1, d.l2, fun i t p a b => e _ _ (d.t i t p a b), fun i p a => let ⟨b, st, h1, h2, h3⟩ := d.k i p a; ⟨b, st, h1, h2, e _ _ h3⟩⟩
def relab (sc scope : Scope) : Scope := { scope with names := scope.names.map fun p => if (p.2 == NameKind.free && sc.kind == .function && sc.names.lookup p.1 == some .cell) = true then (p.1, .cell) else p }
def tDead (P : Addr) : TT := fun σ H Q => ∃ (q SD AD l : Addr) (k : List Key) (kvs ak : List (List Key × V)) (items : List Addr) (prs : List (V × V)) (sts : List (List Int)), σ[2]? = some (some (.ref SD)) ∧ σ[4]? = some (some (.ref q)) ∧ σ[9]? = some (some (.ref AD)) ∧
  Rd H SD (.dT kvs) ∧ H q = some (.tup (k.map kV)) ∧ valV kvs k = some (.ref l) ∧ H l = some (.lst (items.map V.ref)) ∧ Rd H AD (.dT ak) ∧ TabG H P ∧ Dat H items prs sts ∧
  ∀ H2, Tabbed P H H2 → Q (!(anyF prs.length (fun i => (valV ak ((sts.map kOf).getD i [])).isSome))) H2
def scDead : Scope := match stA 5 with | .While _ ((.Assign _ (.ListComp _ _ sc _) _) :: _) _ _ => sc | _ => defScope sAlive
def ifDead : List Expr := match stA 5 with | .While _ ((.Assign _ (.ListComp _ [c] sc _) _) :: _) _ _ => c.ifs | _ => []
section
variable {P : Program} {w : World} {K : PySem.W.Frag} {mg : Str → Option Value} {base : Heap}
theorem pts_dead (t : Tx K mg) (B : TabsB t base) {A : Around} {outer : List Env} {s0 : Shared} {H0 : Hp} {E : XK} (hr : Room 1 (XA P w base t A outer s0 H0 E).A) (s : Shared) (H : Hp) (C : Addr) (cl : List (Str × Addr)) (fp : List Addr) :
    PTs ((XA P w base t A outer s0 H0 E).blk s H scDead (compEnvC scDead cl C (XA P w base t A outer s0 H0 E).env) fp) ifDead (tDead t.alive.P) := by
  have hrB : Room 1 ((XA P w base t A outer s0 H0 E).blk s H scDead (compEnvC scDead cl C (XA P w base t A outer s0 H0 E).env) fp).A := hr
  have hu := hu_of hrB
  refine pts_one ⟨fun pins s1 σ1 H1 Q I h => ?_⟩
  obtain ⟨q, SD, AD, l, k, kvs, ak, items, prs, sts, e2, e4, e9, hsd, hq, hv, hl, had, hT, dat, hQ⟩ := h
  refine (pt_not (pt_val (pe_any2 (X := (XA P w base t A outer s0 H0 E).blk s H scDead (compEnvC scDead cl C (XA P w base t A outer s0 H0 E).env) fp) hrB (by rfl) t.zany B.alive rfl (genK_by (sc := relab (defScope sAlive) scDead) rfl (by decide +kernel)) rfl (by decide) (pe_dget hu (pv 2) (pv 4) (fun _ _ => rfl)) (by intro _; rfl)))).run pins s1 σ1 H1 Q I ?_
  have dg : DGet H1 SD (.ref q) (some (.ref l)) := .inr ⟨kvs, k, q, hsd, rfl, hq, hv.symm⟩
  obtain ⟨ps, hPs, hPt⟩ := id hT
  refine ⟨_, e2, _, e4, SD, _, rfl, dg, prs.length, (fun i => (valV ak ((sts.map kOf).getD i [])).isSome), hT, fun pins s2 xv I2 r2 => ?_, fun H2 hd2 => ⟨_, rfl, hQ H2 hd2⟩⟩
  obtain rfl : xv = Value.ref l := r2
  refine ⟨_, fun i vals hp => itemP_two i vals hp, src_pairs I2 ⟨_, hPs⟩ (SqL.of hl) dat.l1 dat.t, elt_alive hrB I2 ⟨_, hPs⟩ (i0 := 9) rfl e9 had (.inl rfl) (fun i p hp => ?_) rfl rfl rfl⟩
  obtain ⟨b, st, h1, h2, h3⟩ := dat.k i p hp
  exact ⟨b, kOf st, by rw [List.getElem?_map, h1]; rfl, h2, by rw [kOf_kV]; exact h3⟩
end
end Rg

namespace Rg
open PySem PySem.Spec PyProof.Rows L2 GxR RgG RgE RgR
theorem gr_fresh {T : List Addr} {H H' : Hp} {p : Addr} (g : Gr T [p] H H') (h : H p = none) : Gr T [] H H' :=
  ⟨g.tb, fun b o _ e n => g.st b o (fun z => by
    have : b = p := by simpa using z
    rw [this, h] at e; cases e) e n, fun b ps _ e => g.tt b ps (fun z => by
    have : b = p := by simpa using z
    rw [this, h] at e; cases e) e⟩
theorem paired_at {α β : Type} {F : α → β → Prop} : ∀ {l1 : List α} {l2 : List β}, Paired F l1 l2 → ∀ {i : Nat} (h1 : i < l1.length) (h2 : i < l2.length), F l1[i] l2[i]
  | _, _, .nil, i, h1, _ => absurd h1 (Nat.not_lt_zero i)
  | _, _, .cons h r, 0, _, _ => h
  | _, _, .cons h r, i + 1, h1, h2 => paired_at r (Nat.lt_of_succ_lt_succ h1) (Nat.lt_of_succ_lt_succ h2)
theorem upd_back {H : Hp} {a : Addr} {o : HO} (h : H a = some o) : upd H a o = H := by
  funext b
  by_cases e : b = a
  · rw [e, upd_same, h]
  · rw [upd_ne e]
theorem mem_dropK {kvs : List (List Key × V)} {k x : List Key} (h : x ∈ kvs.map (·.1)) (n : x ≠ k) : x ∈ (dropK kvs k).map (·.1) := by
  obtain ⟨kv, h1, h2⟩ := List.mem_map.mp h
  exact List.mem_map.mpr ⟨kv, List.mem_filter.mpr ⟨h1, by rw [h2]; exact decide_eq_true n⟩, h2⟩
section
variable {P : Program} {w : World} {K : PySem.W.Frag} {mg : Str → Option Value} {base : Heap}
def Post5 (T : List Addr) (a : Addr) (ds : List Int) (H0 : Hp) (σ : L2.St) (H : Hp) : Prop := ∃ SD AD kvs ak u7, SigB a SD AD u7 σ ∧ Q4 T ds H0 H SD AD kvs ak ∧ AllLive kvs ak H
/-- within the pass: i keys seen, gs the dead among them -/
structure Q5 (T : List Addr) (kvs ak : List (List Key × V)) (H H1 H' : Hp) (D0 : Addr) (i : Nat) (gs : List Addr) (gk : List (List Key)) : Prop where
  d : H' D0 = some (.lst (gs.map V.ref))
  gr : Gr T [D0] H1 H'
  pr : Paired (fun g k => H' g = some (.tup (k.map kV))) gs gk
  sl : gk.Sublist ((ak.take i).map (·.1))
  lv : gk = [] → ∀ k ∈ (ak.take i).map (·.1), ∃ l items, valV kvs k = some (.ref l) ∧ H l = some (.lst (items.map V.ref)) ∧ Live ak H items
theorem al56 (t : Tx K mg) (B : TabsB t base) {A : Around} {outer : List Env} {s : Shared} {H0 : Hp} {E : XK} {a : Addr} {ds : List Int} (hr : Room 1 (XA P w base t A outer s H0 E).A) (hd : Dist ds) :
    ∃ t4 t5, PS (XA P w base t A outer s H0 E) (stA 4) t4 ∧ PS (XA P w base t A outer s H0 E) (stA 5) t5 ∧ ∀ (D : Ends) (u : TS) (σ : L2.St) (H : Hp), Post4 t.T a ds H0 σ H → (∀ σ' H', Post5 t.T a ds H0 σ' H' → u D σ' H') → tSeq t4 (tSeq t5 u) D σ H := by
  have hu := hu_of hr
  refine ⟨_, _, ps_set (i := 7) scAlive.nd rfl (Or.inl rfl) pe_bl,
    ps_while PassesOwn.never (pt_truth (pv 7) (by intro _; rfl))
      (pss_cons (ps_lock (ps_setLc (i := 8) (own := [("state", 4)]) rfl scAlive.nd rfl rfl (by rfl) (pi_keys (pv 9)) (blk_by NA (defScope sAlive) (by decide +kernel)) (fun s H C cl fp => pg_name (i := 4) scAlive.nd rfl (Or.inl rfl)) (fun s H C cl fp => pts_dead t B hr s H C cl fp) (fun s H C cl fp => pv 4)))
      (pss_cons (ps_set (i := 7) scAlive.nd rfl (Or.inl rfl) (pe_cmpR op_gt (pe_callB call_len_seq (by rfl) t.zlen PySem.boot_len (pa_cons (pv 8) pa_nil)) pe_int (nomark _)))
      (pss_one (ps_for PassesOwn.never rfl (pi_list (pv 8)) (pg_name (i := 4) scAlive.nd rfl (Or.inl rfl)) (pss_one (ps_ddelT hu (pv 9) (pv 4))))))), fun D u σ H hpre hD => ?_⟩
  obtain ⟨SD, AD, kvs, ak, u7, ⟨u3, u4, u5, u6, u8, u10, rfl⟩, q⟩ := hpre
  refine ⟨fun m σ H => ∃ SD AD kvs ak c, SigB a SD AD (some (.bl c)) σ ∧ Q4 t.T ds H0 H SD AD kvs ak ∧ (c = false → AllLive kvs ak H) ∧ m = ak.length + (if c = true then 1 else 0), ⟨_, SD, AD, kvs, ak, true, ⟨_, _, _, _, _, _, rfl⟩, q, (fun z => nomatch z), rfl⟩, ?_⟩
  clear q
  rintro m σ H ⟨SD, AD, kvs, ak, c, ⟨u3, u4, u5, u6, u8, u10, rfl⟩, q, hc, rfl⟩
  refine ⟨_, rfl, c, rfl, ?_⟩
  cases c with
  | false =>
    refine iteF ?_
    exact hD _ _ ⟨SD, AD, kvs, ak, _, ⟨_, _, _, _, _, _, rfl⟩, q, hc rfl⟩
  | true =>
    refine iteT ?_
    have sz : sizeLine = 16777216 := sizeLine_eq
    have few : ak.length ≤ 6561 := by
      have := few_keys hd.l4 q.nd fun k hk => by
        obtain ⟨kv, hkv, rfl⟩ := List.mem_map.mp (q.sub k hk)
        exact q.ok.key kv hkv
      rwa [List.length_map] at this
    have hPT : t.alive.P ∈ t.T := by unfold Tx.T; simp
    refine ⟨fun σ' H' => ∃ SD AD kvs ak' c, SigB a SD AD (some (.bl c)) σ' ∧ Q4 t.T ds H0 H' SD AD kvs ak' ∧ (c = false → AllLive kvs ak' H') ∧ ak'.length + (if c = true then 1 else 0) < ak.length + 1, fun σ' H' ⟨SD', AD', kvs', ak', c', z1, z2, z3, z4⟩ => ⟨_, z4, SD', AD', kvs', ak', c', z1, z2, z3, rfl⟩, ?_⟩
    -- the comprehension
    refine ⟨AD, _, q.ad, True.intro, fun od => ⟨_, rfl, AD, od, rfl, .inr ⟨ak, upd_same, fun D0 hD0 => ?_⟩⟩⟩
    have T1 : TbG t.T (upd H AD (.frz od (.dT ak))) := q.gr.tb.put q.ad fun ps z => nomatch z
    have nDA : D0 ≠ AD := fun z => by subst z; rw [upd_same] at hD0; cases hD0
    refine lc_it (walk_keysT (d := AD) (o := od) (kvs := ak)) (fun i H' => ∃ gs gk, Q5 t.T kvs ak H (upd H AD (.frz od (.dT ak))) H' D0 i gs gk) ?_ ?_ ?_ ?_
    · exact ⟨[], [], upd_same, (Gr.refl T1).new hD0, .nil, by simp, fun _ k hk => by simp at hk⟩
    · rintro i H' hi ⟨gs, gk, h⟩
      exact h.gr.st _ _ (by simpa using nDA.symm) upd_same (fun ps z => nomatch z)
    · rintro i x H1 H2 hi ⟨gs, gk, h⟩ ⟨rfl, k, v, qa, hk, rfl, hqa⟩
      refine ⟨rfl, ?_⟩
      have hkm : k ∈ ak.map (·.1) := List.mem_map.mpr ⟨_, List.mem_of_getElem? hk, rfl⟩
      obtain ⟨v', hv⟩ := valV_of_key (q.sub k hkm)
      obtain ⟨l, items, ev, hl, hB, hit⟩ := q.ok.lst _ (valV_mem hv)
      obtain rfl : v' = V.ref l := ev
      obtain ⟨prs, sts, dat⟩ := dat_of hit
      have tu1 : Tups H (upd H AD (.frz od (.dT ak))) := tups_put q.ad fun xs z => nomatch z
      have nD0 : ∀ b o, H b = some o → b ∉ [D0] := fun b o e z => by
        have : b = D0 := by simpa using z
        subst this
        rw [upd_ne nDA, e] at hD0
        cases hD0
      have tu2 : Tups H H2 := fun b xs e => h.gr.tup (tu1 b xs e) (nD0 b _ e)
      have hl2 : H2 l = some (.lst (items.map V.ref)) := h.gr.lst (by rw [upd_ne (ne_of hl q.ad fun z => nomatch z)]; exact hl) (nD0 _ _ hl)
      have hsd2 : H2 SD = some (.dT kvs) := h.gr.st _ _ (nD0 _ _ q.sd) (by rw [upd_ne q.ne]; exact q.sd) (fun ps z => nomatch z)
      have had2 : H2 AD = some (.frz od (.dT ak)) := h.gr.st _ _ (by simpa using nDA.symm) upd_same (fun ps z => nomatch z)
      have ln := h.pr.length
      have hsl := h.sl.length_le
      rw [List.length_map, List.length_take] at hsl
      refine ⟨qa, SD, AD, l, k, kvs, ak, items, prs, sts, rfl, rfl, rfl, .inl hsd2, hqa, hv, hl2, .inr ⟨od, had2⟩, h.gr.tb _ hPT, dat.mono tu2, fun H3 hd3 => ?_⟩
      obtain ⟨psP, hPs⟩ := h.gr.tb.tbl hPT
      have g3 : Gr t.T [] H2 H3 := Gr.tabbed h.gr.tb hd3 ⟨_, hPs⟩
      have d3 := g3.lst h.d (by simp)
      have gg : Gr t.T [D0] (upd H AD (.frz od (.dT ak))) H3 := h.gr.trans g3.wide
      have etk : (ak.take (i + 1)).map (·.1) = (ak.take i).map (·.1) ++ [k] := by
        rw [List.take_succ, hk, List.map_append]; rfl
      cases hany : anyF prs.length (fun i => (valV ak ((sts.map kOf).getD i [])).isSome) with
      | true =>
        refine iteF ?_
        refine ⟨gs, gk, d3, gg, h.pr.mono fun g k e => g3.tup e (by simp), by rw [etk]; exact h.sl.trans (List.sublist_append_left _ _), fun e k' hk' => ?_⟩
        rw [etk] at hk'
        rcases List.mem_append.mp hk' with z | z
        · exact h.lv e k' z
        · obtain rfl := List.mem_singleton.mp z
          exact ⟨l, items, hv, hl, live_of dat hany⟩
      | false =>
        refine iteT ?_
        refine ⟨_, rfl, _, d3, by rw [List.length_map]; omega, gs ++ [qa], gk ++ [k], by rw [upd_same, List.map_append]; rfl, gg.put d3 (fun ps z => nomatch z) (.inl (by simp)), ?_, by rw [etk]; exact h.sl.append (List.Sublist.refl _), fun e => by simp at e⟩
        have tu4 : Tups H2 (upd H3 D0 (.lst (gs.map V.ref ++ [V.ref qa]))) := (gr_tups g3).trans (tups_put d3 fun xs z => nomatch z)
        exact (h.pr.mono fun g k e => tu4 _ _ e).snoc (tu4 _ _ hqa)
    · rintro H1 ⟨gs, gk, h⟩
      have slA := h.sl
      have lvA := h.lv
      rw [List.take_length] at slA lvA
      have hfz : H1 AD = some (.frz od (.dT ak)) := h.gr.st _ _ (by simpa using nDA.symm) upd_same (fun ps z => nomatch z)
      refine ⟨hfz, ?_⟩
      have g3 : Gr t.T [] H (upd H1 AD (.dT ak)) := gr_unlock q.ad (fun ps z => nomatch z) (gr_fresh h.gr hD0)
      have d3 : upd H1 AD (.dT ak) D0 = some (.lst (gs.map V.ref)) := by rw [upd_ne nDA]; exact h.d
      have tuA : Tups H1 (upd H1 AD (.dT ak)) := tups_put hfz fun xs z => nomatch z
      have p3 : Paired (fun g k => upd H1 AD (.dT ak) g = some (.tup (k.map kV))) gs gk := h.pr.mono fun g k e => tuA _ _ e
      have ad3 : upd H1 AD (.dT ak) AD = some (.dT ak) := upd_same
      generalize upd H1 AD (.dT ak) = H3 at g3 d3 p3 ad3 ⊢
      have gkn : gk.Nodup := q.nd.sublist slA
      have ln := p3.length
      -- is_changed = len(gone) > 0
      refine ⟨_, rfl, _, _, rfl, .inl (SqL.of d3), _, _, rfl, rfl, ?_⟩
      -- for state in gone
      refine ⟨_, rfl, D0, rfl, ⟨_, SqL.of d3⟩, ?_⟩
      have lenG : (gs.map V.ref).length = gs.length := List.length_map ..
      have ec : decide ((0 : Int) < ((gs.map V.ref).length : Int)) = decide (gs ≠ []) := by
        rw [lenG]
        cases gs with
        | nil => rfl
        | cons x r =>
          rw [decide_eq_true (by simp), decide_eq_true (by simp)]
      refine for_it (walk_list (K := (XA P w base t A outer s H0 E).K) (a := D0) (xs := gs.map V.ref)) (fun i σ' H' => ∃ u4 aki cc, (σ' = [some (.ref a), some (.ref a), some (.ref SD), u3, u4, u5, u6, some (.bl cc), some (.ref D0), some (.ref AD), u10] ∧ cc = decide (gs ≠ [])) ∧ H' = upd H3 AD (.dT aki) ∧ (aki.map (·.1)).Nodup ∧ (∀ x ∈ aki, x ∈ ak) ∧ aki.length + i = ak.length ∧ (∀ k ∈ gk.drop i, k ∈ aki.map (·.1)) ∧ (i = 0 → aki = ak)) ?_ ?_ ?_ ?_
      · exact ⟨_, ak, _, ⟨rfl, ec⟩, (upd_back ad3).symm, q.nd, fun x hx => hx, rfl, fun k hk => slA.subset (by simpa using hk), fun _ => rfl⟩
      · rintro i σ' H' hi ⟨u4, aki, cc, ⟨rfl, hcc⟩, rfl, _⟩
        exact SqL.of (by rw [upd_ne nDA]; exact d3)
      · rintro i x σ' H4 H5 hi ⟨u4, aki, cc, ⟨rfl, hcc⟩, rfl, n1, n2, n3, n4, n5⟩ ⟨rfl, hx⟩
        rw [List.length_map] at hi
        have hi2 : i < gk.length := by omega
        rw [List.getElem?_map, List.getElem?_eq_getElem hi] at hx
        obtain rfl : V.ref gs[i] = x := Option.some.inj hx
        have hg : H3 gs[i] = some (.tup (gk[i].map kV)) := paired_at p3 hi hi2
        have hk : gk[i] ∈ aki.map (·.1) := n4 _ (by rw [List.drop_eq_getElem_cons hi2]; exact List.mem_cons_self ..)
        obtain ⟨v, hv⟩ := valV_of_key hk
        have nA : gs[i] ≠ AD := ne_of hg ad3 fun z => nomatch z
        refine ⟨_, rfl, _, rfl, AD, aki, gk[i], gs[i], rfl, upd_same, rfl, by rw [upd_ne nA]; exact hg, by rw [hv]; rfl, ?_⟩
        refine ⟨_, dropK aki gk[i], cc, ⟨rfl, hcc⟩, by rw [upd_upd], nd_dropK n1, fun x hx => n2 x (dropK_mem hx), ?_, fun k hk2 => ?_, fun z => nomatch z⟩
        · have := dropK_len n1 hk
          omega
        · refine mem_dropK (n4 k (by rw [List.drop_eq_getElem_cons hi2]; exact List.mem_cons_of_mem _ hk2)) fun e => ?_
          subst e
          have := gkn.sublist (List.drop_sublist i gk)
          rw [List.drop_eq_getElem_cons hi2] at this
          exact (List.nodup_cons.mp this).1 hk2
      · rintro σ' H4 ⟨u4, aki, cc, ⟨rfl, hcc⟩, rfl, n1, n2, n3, n4, n5⟩
        rw [lenG] at n3
        have nAD : ∀ xs, HO.dT ak ≠ .tup xs := fun xs z => nomatch z
        have g4 : Gr t.T [] H0 (upd H3 AD (.dT aki)) := (q.gr.trans g3).put ad3 (fun ps z => nomatch z) (.inr q.af)
        have tu4 : Tups H (upd H3 AD (.dT aki)) := (gr_tups g3).trans (tups_put ad3 fun xs z => nomatch z)
        have ls4 : Lsts H (upd H3 AD (.dT aki)) := (gr_lsts g3).trans (lsts_put ad3 fun xs z => nomatch z)
        subst hcc
        refine ⟨SD, AD, kvs, aki, decide (gs ≠ []), ⟨_, _, _, _, _, _, rfl⟩, ⟨g4, ?_, q.sf, q.ok.mono tu4 ls4 (fun x hx => hx) (Nat.le_refl _), upd_same, q.af, q.ne, n1, fun k hk => ?_⟩, fun hce => ?_, ?_⟩
        · rw [upd_ne q.ne]
          exact g3.st _ _ (by simp) q.sd (fun ps z => nomatch z)
        · obtain ⟨kv, h1, rfl⟩ := List.mem_map.mp hk
          exact q.sub _ (List.mem_map.mpr ⟨kv, n2 _ h1, rfl⟩)
        · have hg0 : gs = [] := by
            by_cases z : gs = []
            · exact z
            · rw [decide_eq_true z] at hce; cases hce
          subst hg0
          have hk0 : gk = [] := List.length_eq_zero_iff.mp (by rw [← ln]; rfl)
          obtain rfl : aki = ak := n5 rfl
          intro k hk
          obtain ⟨l, items, e1, e2, e3⟩ := lvA hk0 k hk
          exact ⟨l, items, e1, ls4 _ _ e2, e3.mono tu4⟩
        · by_cases z : gs = []
          · subst z
            rw [if_neg (by simp)]
            simp only [List.length_nil] at n3
            omega
          · rw [if_pos (decide_eq_true z)]
            have : 0 < gs.length := List.length_pos_iff.mpr z
            omega
end
end Rg

namespace Rg
open PySem PySem.Spec PyProof.Rows L2 GxR RgG RgE RgR
def scOut : Scope := match stA 6 with | .Return (some (.Call _ [.ListComp _ _ sc _] _ _)) _ => sc | _ => defScope sAlive
structure ResOk (n : Nat) (rk : List (List Key × V)) (H : Hp) : Prop where
  nd : (rk.map (·.1)).Nodup
  key : ∀ kv ∈ rk, IsSt n kv.1
  val : ∀ kv ∈ rk, ∃ l items, kv.2 = .ref l ∧ H l = some (.lst (items.map V.ref)) ∧ items ≠ [] ∧ ∀ t ∈ items, ItemOk n (rk.map (·.1)) H t
def Fine (n : Nat) (ks : List (List Key)) (H : Hp) (v : V) : Prop := ∃ l items, v = .ref l ∧ H l = some (.lst (items.map V.ref)) ∧ items ≠ [] ∧ ∀ t ∈ items, ItemOk n ks H t
theorem Fine.mono {n : Nat} {ks : List (List Key)} {H H' : Hp} {v : V} (h : Fine n ks H v) (a : Tups H H') (b : Lsts H H') : Fine n ks H' v :=
  let ⟨l, items, h1, h2, h3, h4⟩ := h; ⟨l, items, h1, b _ _ h2, h3, fun t ht => (h4 t ht).mono a fun x hx => hx⟩
section
variable {P : Program} {w : World} {K : PySem.W.Frag} {mg : Str → Option Value} {base : Heap}
def spAlive (T : List Addr) : Sp := fun vs H Q _ => ∃ (a : Addr) (ds : List Int), vs = [.ref a] ∧ H a = some (.tup (ds.map V.int)) ∧ Dist ds ∧ TbG T H ∧ ∀ H' p rk, Gr T [] H H' → H' p = some (.dT rk) → ResOk ds.length rk H' → Q (.ref p) H'
theorem al7 (t : Tx K mg) {A : Around} {outer : List Env} {s : Shared} {H0 : Hp} {E : XK} {a : Addr} {ds : List Int} (hr : Room 1 (XA P w base t A outer s H0 E).A) (hd : Dist ds) :
    ∃ t6, PS (XA P w base t A outer s H0 E) (stA 6) t6 ∧ ∀ (D : Ends) (σ : L2.St) (H : Hp), Post5 t.T a ds H0 σ H → (∀ H' p rk, Gr t.T [] H0 H' → H' p = some (.dT rk) → ResOk ds.length rk H' → D.rt (.ref p) H') → t6 D σ H := by
  have hu := hu_of hr
  have hu2 : (XA P w base t A outer s H0 E).A.units + 2 < cLine := Nat.lt_of_le_of_lt (Nat.add_le_add_left (by decide : 2 ≤ 64) _) hr.units
  refine ⟨_, ps_ret (pe_callTy (call_dictT rfl hu2) (by rfl) t.zdict boot_dict (pa_cons (pe_lock (pe_lc (own := [("state", 4)]) rfl scAlive.nd (pi_keys (pv 9))
    (blk_by NA (defScope sAlive) (by decide +kernel)) (fun s H C cl fp => pg_name (i := 4) scAlive.nd rfl (Or.inl rfl)) (fun s H C cl fp => pts_nil)
    (fun s H C cl fp => pe_tup (pa_cons (pv 4) (pa_cons (pe_lc (own := [("one", 10)]) rfl scAlive.nd (show PI _ _ _ (iList K (tDGet (tVar 2) (tVar 4))) from pi_list (pe_dget (by exact hu) (pv 2) (pv 4) (fun _ _ => rfl))) (blk_by NA (relab (defScope sAlive) scOut) (by decide +kernel))
      (fun s H C cl fp => pg_name (i := 10) scAlive.nd rfl (Or.inl rfl)) (fun s H C cl fp => pts_one (pt_cmp (pc_din (by exact hu) (pe_ix (show IxR _ (rIxT K) from ix_tup) (pv 10) pe_int (fun _ _ => rfl)) (pv 9)))) (fun s H C cl fp => pv 10)) pa_nil))))) pa_nil)), fun D σ H hpre hD => ?_⟩
  have sz : sizeLine = 16777216 := sizeLine_eq
  obtain ⟨SD, AD, kvs, ak, u7, ⟨u3, u4, u5, u6, u8, u10, rfl⟩, q, hal⟩ := hpre
  have few : ak.length ≤ 6561 := by
    have := few_keys hd.l4 q.nd fun k hk => by
      obtain ⟨kv, hkv, rfl⟩ := List.mem_map.mp (q.sub k hk)
      exact q.ok.key kv hkv
    rwa [List.length_map] at this
  refine ⟨AD, _, q.ad, True.intro, fun od => ⟨_, rfl, AD, od, rfl, .inr ⟨ak, upd_same, fun D0 hD0 => ?_⟩⟩⟩
  have tuH : Tups H (upd H AD (.frz od (.dT ak))) := tups_put q.ad fun xs z => nomatch z
  have lsH : Lsts H (upd H AD (.frz od (.dT ak))) := lsts_put q.ad fun xs z => nomatch z
  refine lc_it (walk_keysT (d := AD) (o := od) (kvs := ak)) (fun i H' => ∃ (ts : List Addr) (kvl : List (List Key × V)), H' D0 = some (.lst (ts.map V.ref)) ∧ Same (upd H AD (.frz od (.dT ak))) H' ∧ Paired (pairF H') ts kvl ∧ kvl.map (·.1) = (ak.take i).map (·.1) ∧ ∀ kv ∈ kvl, Fine ds.length (ak.map (·.1)) H' kv.2 ∧ kv.2 ≠ .ref D0) ?_ ?_ ?_ ?_
  · exact ⟨[], [], upd_same, same_new (Same.refl _) hD0, .nil, rfl, fun kv hkv => nomatch hkv⟩
  · rintro i H' hi ⟨ts, kvl, h1, h2, _⟩
    exact h2 _ _ upd_same
  · rintro i x H1 H2 hi ⟨ts, kvl, h1, h2, h3, h4, h5⟩ ⟨rfl, k, v, qa, hk, rfl, hqa⟩
    refine ⟨rfl, ?_⟩
    have hkm : k ∈ ak.map (·.1) := List.mem_map.mpr ⟨_, List.mem_of_getElem? hk, rfl⟩
    obtain ⟨l, items, hv, hl, hlive⟩ := hal k hkm
    obtain ⟨l', items', el, hl', hB, hit⟩ := q.ok.lst _ (valV_mem hv)
    cases el
    rw [hl] at hl'
    have ei : items.map V.ref = items'.map V.ref := by
      have := Option.some.inj hl'
      injection this
    have hl2 : H2 l = some (.lst (items.map V.ref)) := h2 _ _ (lsH _ _ hl)
    have sd2 : H2 SD = some (.dT kvs) := h2 _ _ (by rw [upd_ne q.ne]; exact q.sd)
    have ad2 : H2 AD = some (.frz od (.dT ak)) := h2 _ _ upd_same
    have tu2 : Tups H H2 := tuH.trans (tups_same h2)
    have it2 : ∀ t ∈ items, ItemOk ds.length (kvs.map (·.1)) H2 t := fun t ht => by
      have : V.ref t ∈ items'.map V.ref := by rw [← ei]; exact List.mem_map.mpr ⟨t, ht, rfl⟩
      obtain ⟨t', ht', e⟩ := List.mem_map.mp this
      cases e
      exact (hit t ht').mono tu2 fun x hx => hx
    have hB' : items.length ≤ 26244 := by
      have := congrArg List.length ei
      rw [List.length_map, List.length_map] at this
      omega
    have dg : DGet H2 SD (.ref qa) (some (.ref l)) := .inr ⟨kvs, k, qa, .inl sd2, rfl, hqa, hv.symm⟩
    refine ⟨_, rfl, _, rfl, _, rfl, SD, _, rfl, dg, l, rfl, ⟨_, SqL.of hl2⟩, fun D1 hD1 => ?_⟩
    -- the inner list
    refine lc_it (walk_list (K := (XA P w base t A outer s H0 E).K) (a := l) (xs := items.map V.ref)) (fun j H' => ∃ js : List Addr, H' D1 = some (.lst (js.map V.ref)) ∧ Same H2 H' ∧ js.length ≤ j ∧ (∀ t ∈ js, ItemOk ds.length (ak.map (·.1)) H2 t) ∧ ∀ t ∈ items.take j, ∀ x b st, H2 t = some (.tup [x, .ref b]) → H2 b = some (.tup (st.map V.int)) → kOf st ∈ ak.map (·.1) → t ∈ js) ?_ ?_ ?_ ?_
    · exact ⟨[], upd_same, same_new (Same.refl _) hD1, Nat.le_refl _, (fun t ht => nomatch ht), fun t ht => by simp at ht⟩
    · rintro j H' hj ⟨js, g1, g2, _⟩
      exact SqL.of (g2 _ _ hl2)
    · rintro j x H3 H4 hj ⟨js, g1, g2, g3, g4, g5⟩ ⟨rfl, hx⟩
      rw [List.length_map] at hj
      rw [List.getElem?_map, List.getElem?_eq_getElem hj] at hx
      obtain rfl : V.ref items[j] = x := Option.some.inj hx
      obtain ⟨z, b, st, e1, e2, e3, e4, e5, e6⟩ := it2 _ (List.getElem_mem hj)
      refine ⟨rfl, ?_⟩
      have etk : items.take (j + 1) = items.take j ++ [items[j]] := by rw [List.take_succ, List.getElem?_eq_getElem hj]; rfl
      refine ⟨_, rfl, items[j], [V.int z, V.ref b], (1 : Int), V.ref b, rfl, rfl, SqT.of (g2 _ _ e1), rfl, _, rfl, AD, _, rfl, .inr ⟨ak, kOf st, b, .inr ⟨od, g2 _ _ ad2⟩, rfl, by rw [kOf_kV]; exact g2 _ _ e2, rfl⟩, _, rfl, ?_⟩
      cases hvv : valV ak (kOf st) with
      | none =>
        refine iteF ?_
        refine ⟨js, g1, g2, Nat.le_succ_of_le g3, g4, fun t ht x' b' st' f1 f2 f3 => ?_⟩
        rw [etk] at ht
        rcases List.mem_append.mp ht with y | y
        · exact g5 t y x' b' st' f1 f2 f3
        · obtain rfl := List.mem_singleton.mp y
          rw [e1] at f1
          cases f1
          rw [e2] at f2
          have es : st.map V.int = st'.map V.int := by
            have := Option.some.inj f2
            injection this
          have es' : kOf st = kOf st' := by
            have := congrArg (fun l : List V => l.map fun v => match v with | .int i => i | _ => 0) es
            simp only [List.map_map] at this
            have e : ((fun v => match v with | V.int i => i | _ => 0) ∘ V.int) = (id : Int → Int) := rfl
            rw [e, List.map_id, List.map_id] at this
            rw [this]
          rw [← es'] at f3
          obtain ⟨v, hv'⟩ := valV_of_key f3
          rw [hvv] at hv'
          cases hv'
      | some v =>
        refine iteT ?_
        refine ⟨_, rfl, _, g1, by rw [List.length_map]; omega, js ++ [items[j]], by rw [upd_same, List.map_append]; rfl, fun c o e => ?_, by rw [List.length_append]; exact Nat.add_le_add_right g3 1, fun t ht => ?_, fun t ht x' b' st' f1 f2 f3 => ?_⟩
        · by_cases y : c = D1
          · subst y; rw [hD1] at e; cases e
          · rw [upd_ne y]; exact g2 c o e
        · rcases List.mem_append.mp ht with y | y
          · exact g4 t y
          · obtain rfl := List.mem_singleton.mp y
            exact ⟨z, b, st, e1, e2, e3, List.mem_map.mpr ⟨_, valV_mem hvv, rfl⟩, e5, e6⟩
        · rw [etk] at ht
          rcases List.mem_append.mp ht with y | y
          · exact List.mem_append_left _ (g5 t y x' b' st' f1 f2 f3)
          · exact List.mem_append_right _ y
    · rintro H3 ⟨js, g1, g2, g3, g4, g5⟩
      rw [List.length_map, List.take_length] at g5
      obtain ⟨t0, ht0, x0, b0, st0, f1, f2, f3⟩ := hlive
      have hne : js ≠ [] := fun z => by
        have := g5 t0 ht0 x0 b0 st0 (tu2 _ _ f1) (tu2 _ _ f2) f3
        rw [z] at this
        exact nomatch this
      refine ⟨(by show 2 ≤ sizeLine; decide), fun tp htp => ?_⟩
      have h1' : upd H3 tp (.tup [.ref qa, .ref D1]) D0 = some (.lst (ts.map V.ref)) := by rw [upd_ne (ne_of_none (g2 _ _ h1) htp)]; exact g2 _ _ h1
      have ln := h3.length
      have ln2 := congrArg List.length h4
      rw [List.length_map, List.length_map, List.length_take] at ln2
      have s4 : Same H2 (upd H3 tp (.tup [.ref qa, .ref D1])) := same_new g2 htp
      have tu4 : Tups H2 (upd (upd H3 tp (.tup [.ref qa, .ref D1])) D0 (.lst (ts.map V.ref ++ [V.ref tp]))) := (tups_same s4).trans (tups_put h1' fun xs z => nomatch z)
      have g1' : upd H3 tp (.tup [.ref qa, .ref D1]) D1 = some (.lst (js.map V.ref)) := by rw [upd_ne (ne_of_none g1 htp)]; exact g1
      have nDD : D1 ≠ D0 := fun z => by subst z; rw [h1] at hD1; cases hD1
      refine ⟨_, h1', by rw [List.length_map]; omega, ts ++ [tp], kvl ++ [(k, .ref D1)], by rw [upd_same, List.map_append]; rfl, fun b o e => ?_, ?_, ?_, fun kv hkv => ?_⟩
      · by_cases z : b = D0
        · subst z; rw [hD0] at e; cases e
        · rw [upd_ne z]; exact s4 _ _ (h2 b o e)
      · refine (h3.mono (pairF_mono tu4)).snoc ⟨qa, ?_, tu4 _ _ hqa⟩
        exact tups_put h1' (fun xs z => nomatch z) _ _ upd_same
      · rw [List.take_succ, hk, List.map_append, List.map_append, h4]; rfl
      · rcases List.mem_append.mp hkv with y | y
        · obtain ⟨⟨l2, it, e1, e2, e3, e4⟩, e5⟩ := h5 kv y
          have : l2 ≠ D0 := fun z => e5 (by rw [e1, z])
          exact ⟨⟨l2, it, e1, by rw [upd_ne this]; exact s4 _ _ e2, e3, fun t ht => (e4 t ht).mono tu4 fun x hx => hx⟩, e5⟩
        · rw [List.mem_singleton.mp y]
          exact ⟨⟨D1, js, rfl, by rw [upd_ne nDD]; exact g1', hne, fun t ht => (g4 t ht).mono tu4 fun x hx => hx⟩, fun z => by cases z; exact nDD rfl⟩
  · rintro H1 ⟨ts, kvl, h1, h2, h3, h4, h5⟩
    rw [List.take_length] at h4
    have hfrz := h2 _ _ upd_same
    refine ⟨hfrz, ?_⟩
    have nD : D0 ≠ AD := fun z => by subst z; rw [upd_same] at hD0; cases hD0
    have tu : Tups H1 (upd H1 AD (.dT ak)) := tups_put hfrz fun xs z => nomatch z
    have ls : Lsts H1 (upd H1 AD (.dT ak)) := lsts_put hfrz fun xs z => nomatch z
    refine ⟨D0, ts, kvl, rfl, SqL.of (by rw [upd_ne nD]; exact h1), h3.mono (pairF_mono tu), fun p hp => ?_⟩
    have em : mergeG [] kvl = kvl := by
      have := mergeG_nd kvl [] (by rw [h4]; exact q.nd)
      rw [this]; rfl
    rw [em]
    have sm : Same H (upd (upd H1 AD (.dT ak)) p (.dT kvl)) := same_new (same_unlock q.ad h2) hp
    refine hD _ p kvl (q.gr.trans (Gr.same q.gr.tb sm)) upd_same ⟨by rw [h4]; exact q.nd, fun kv hkv => ?_, fun kv hkv => ?_⟩
    · have : kv.1 ∈ ak.map (·.1) := by rw [← h4]; exact List.mem_map.mpr ⟨kv, hkv, rfl⟩
      obtain ⟨kv', h1', e⟩ := List.mem_map.mp (q.sub _ this)
      rw [← e]
      exact q.ok.key kv' h1'
    · rw [h4]
      exact ((h5 kv hkv).1.mono tu ls).mono (tups_new hp) (lsts_new hp)
theorem ok_alive (t : Tx K mg) (B : TabsB t base) : FnOk P w K mg base CX0 2 t.alive.f t.alive.fd ["distances"] (spAlive t.T) := by
  refine okC t.alive.F t.alive.code scAlive (fun vs H Q E h => ?_) (fun A outer s H vs Q E hr h => ?_)
  · obtain ⟨a, ds, rfl, _⟩ := h
    rfl
  · obtain ⟨a, ds, rfl, ha, hd, hT, k⟩ := h
    have hr1 : Room 1 (XA P w base t A outer s H E).A := hr
    obtain ⟨t1, t2, p1, p2, f12⟩ := al12 (P := P) (w := w) (base := base) t (A := A) (outer := outer) (s := s) (H0 := H) (E := E) (a := a) (ds := ds) (hu_of hr1) ha hd hT
    obtain ⟨t3, p3, f3⟩ := al3 (P := P) (w := w) (base := base) t (A := A) (outer := outer) (s := s) (H0 := H) (E := E) (a := a) (ds := ds) hr1 ha hd
    obtain ⟨t4, p4, f4⟩ := al4 (P := P) (w := w) (base := base) t (A := A) (outer := outer) (s := s) (H0 := H) (E := E) (a := a) (ds := ds) hr1 hd
    obtain ⟨t5, t6, p5, p6, f56⟩ := al56 (P := P) (w := w) (base := base) t B (A := A) (outer := outer) (s := s) (H0 := H) (E := E) (a := a) (ds := ds) hr1 hd
    obtain ⟨t7, p7, f7⟩ := al7 (P := P) (w := w) (base := base) t (A := A) (outer := outer) (s := s) (H0 := H) (E := E) (a := a) (ds := ds) hr1 hd
    refine ⟨_, pss_cons p1 (pss_cons p2 (pss_cons p3 (pss_cons p4 (pss_cons p5 (pss_cons p6 (pss_one p7)))))), ?_⟩
    refine f12 _ _ fun σ1 H1 h1 => ?_
    refine f3 _ _ _ h1 fun σ2 H2 h2 => ?_
    refine f4 _ _ _ h2 fun σ3 H3 h3 => ?_
    refine f56 _ _ _ _ h3 fun σ4 H4 h4 => ?_
    exact f7 _ _ _ h4 fun H' p rk g e r => k H' p rk g e r
end
end Rg

namespace Rg
open PySem PySem.Spec PyProof.Rows L2 GxR RgG RgE RgR
section
variable {P : Program} {w : World} {K : PySem.W.Frag} {mg : Str → Option Value} {base : Heap}
def spRing (T : List Addr) : Sp := fun vs H Q _ => ∃ (a : Addr) (ds : List Int), vs = [.ref a] ∧ H a = some (.tup (ds.map V.int)) ∧ Dist ds ∧ TbG T H ∧ (∀ H', Gr T [] H H' → Q .non H') ∧
  ∀ H' p (rs : List Int), Gr T [] H H' → H' p = some (.tup (rs.map V.int)) → rs ≠ [] → rs.length ≤ 6561 → Q (.ref p) H'
abbrev NR : List Str := ["distances", "steps", "state", "seen", "found", "index"]
theorem scRing : FnScope NR ["distances"] (defScope sRing) := ⟨rfl, rfl, rfl, by decide +kernel, rfl, by decide +kernel, by decide +kernel⟩
structure QR (T : List Addr) (n : Nat) (H0 H : Hp) (RD SN FD q : Addr) (rk sk : List (List Key × V)) (fs : List Int) (st : List Int) : Prop where
  gr : Gr T [] H0 H
  rd : H RD = some (.dT rk)
  ok : ResOk n rk H
  sd : H SN = some (.dT sk)
  sf : H0 SN = none
  snd : (sk.map (·.1)).Nodup
  ks : ∀ kv ∈ sk, IsSt n kv.1
  vs : ∀ kv ∈ sk, ∃ z : Nat, kv.2 = .int (z : Int) ∧ z < fs.length
  fd : H FD = some (.lst (fs.map V.int))
  ff : H0 FD = none
  fl : fs.length = sk.length
  hq : H q = some (.tup (st.map V.int))
  hs : Stt n st
  hk : kOf st ∈ rk.map (·.1)
  nRS : RD ≠ SN
  nF : ∀ kv ∈ rk, kv.2 ≠ .ref FD
theorem ResOk.mono {n : Nat} {rk : List (List Key × V)} {H H' : Hp} (h : ResOk n rk H) (a : Tups H H') (b : ∀ kv ∈ rk, ∀ l xs, kv.2 = .ref l → H l = some (.lst xs) → H' l = some (.lst xs)) : ResOk n rk H' :=
  ⟨h.nd, h.key, fun kv hkv => let ⟨l, items, h1, h2, h3, h4⟩ := h.val kv hkv; ⟨l, items, h1, b kv hkv l _ h1 h2, h3, fun t ht => (h4 t ht).mono a fun x hx => hx⟩⟩
theorem ok_ring (t : Tx K mg) (B : TabsB t base) : FnOk P w K mg base CX0 3 t.ring.f t.ring.fd ["distances"] (spRing t.T) := by
  refine t.ring.F.ok scRing (fun vs H Q E h => ?_) (fun cdv A outer s H vs Q E hr h => ?_)
  · obtain ⟨a, ds, rfl, _⟩ := h
    rfl
  · obtain ⟨a, ds, rfl, ha, hd, hT, k1, k2⟩ := h
    have hu := hu_of hr
    refine ⟨_, pss_cons (ps_expr (pe_call (ok_need t B) (hr.mono (by decide)) (by rfl) t.need.m t.need.F.kp t.need.b .nil pass0 (pa_cons (pv 0) pa_nil)))
      (pss_cons (ps_set (i := 1) scRing.nd rfl (Or.inl rfl) (pe_call (ok_alive t B) hr (by rfl) t.alive.m t.alive.F.kp t.alive.b .nil pass0 (pa_cons (pv 0) pa_nil)))
      (pss_cons (ps_par3 (i := 2) (j := 3) (l := 4) rfl scRing.nd rfl rfl rfl (by decide) (by decide) (by decide) rfl rfl rfl (pa_cons (pe_tupleOf (by rfl) t.ztuple (pv 0)) (pa_cons pe_dnewT (pa_cons (pe_lst pa_nil) pa_nil))) rfl)
      (pss_cons (ps_if (pt_cmp (pc_dnotin hu (pv 2) (pv 1))) (pss_one (ps_ret pe_non)) pss_nil)
      (pss_cons (ps_while PassesOwn.never (pt_cmp (pc_dnotin hu (pv 2) (pv 3)))
        (pss_cons (ps_dput hu (pv 3) (pv 2) (pe_callB call_len_seq (by rfl) t.zlen PySem.boot_len (pa_cons (pv 4) pa_nil)) rfl)
        (pss_cons (ps_asg (pe_ix ix_list (pe_dget hu (pv 1) (pv 2) (fun _ _ => rfl)) pe_int (fun _ _ => rfl)) (pg_tup rfl (pgs_cons (pg_name (i := 5) scRing.nd rfl (Or.inl rfl)) (pgs_cons (pg_name (i := 2) scRing.nd rfl (Or.inl rfl)) pgs_nil))))
        (pss_one (ps_expr (pe_bm PySem.F.plainAttrs_list PySem.F.slot_list_append PySem.F.type_list_append mt_append (pv 4) (pa_cons (pv 5) pa_nil)))))))
      (pss_one (ps_ret (pe_tupleOf (by rfl) t.ztuple (pe_slice sl_list (pv 4) (po_some (pe_dget hu (pv 3) (pv 2) (fun _ _ => rfl))) po_none)))))))), ?_⟩
    have sz : sizeLine = 16777216 := sizeLine_eq
    -- need_distances(distances)
    refine ⟨_, rfl, a, ds, rfl, ha, hd, hT, fun H1 g1 => ?_⟩
    have ha1 := g1.tup ha (by simp)
    -- steps = alive_states(distances)
    refine ⟨_, rfl, a, ds, rfl, ha1, hd, g1.tb, fun H2 RD rk g2 hrd ok => ?_⟩
    have g12 := g1.trans g2
    have ha2 := g12.tup ha (by simp)
    -- state, seen, found = tuple(distances), {}, []
    refine ⟨_, rfl, .inr ⟨a, ds.map V.int, rfl, SqT.of ha2, ?_⟩⟩
    intro SN hSN
    have nRS : RD ≠ SN := ne_of_none hrd hSN
    refine ⟨(by show 0 ≤ sizeLine; decide), fun FD hFD => ?_⟩
    have sSN : Same H2 (upd H2 SN (.dT [])) := same_new (Same.refl _) hSN
    have s3 : Same H2 (upd (upd H2 SN (.dT [])) FD (.lst [])) := same_new sSN hFD
    have sd0 : upd (upd H2 SN (.dT [])) FD (.lst []) SN = some (.dT []) := by rw [upd_ne (ne_of_none (o := .dT []) upd_same hFD)]; exact upd_same
    have fd0 : upd (upd H2 SN (.dT [])) FD (.lst []) FD = some (.lst []) := upd_same
    have g3 : Gr t.T [] H (upd (upd H2 SN (.dT [])) FD (.lst [])) := g12.trans (Gr.same g2.tb s3)
    have sf0 : H SN = none := g12.free hSN (by simp)
    have ff0 : H FD = none := (g12.new (o := .dT []) hSN).free hFD (by simp)
    have ok3 : ResOk ds.length rk (upd (upd H2 SN (.dT [])) FD (.lst [])) := ok.mono (tups_same s3) fun kv hkv l xs _ e => s3 _ _ e
    have rd3 := s3 _ _ hrd
    have nF0 : ∀ kv ∈ rk, kv.2 ≠ .ref FD := fun kv hkv e => by
      obtain ⟨l, items, h1, h2, _⟩ := ok.val kv hkv
      rw [e] at h1
      cases h1
      have := sSN _ _ h2
      rw [hFD] at this
      cases this
    have ha3 := s3 _ _ ha2
    generalize upd (upd H2 SN (.dT [])) FD (.lst []) = H3 at sd0 fd0 g3 ok3 rd3 ha3
    refine ⟨_, _, _, rfl, ?_⟩
    -- if state not in steps
    refine ⟨_, rfl, _, rfl, RD, _, rfl, DGet.t (k := kOf ds) rd3 (by rw [kOf_kV]; exact ha3), _, rfl, ?_⟩
    cases hv : valV rk (kOf ds) with
    | none =>
      refine iteT ?_
      exact k1 _ g3
    | some v0 =>
      refine iteF ?_
      -- while state not in seen
      refine ⟨fun m σ H' => ∃ q sk fs st u5, σ = [some (.ref a), some (.ref RD), some (.ref q), some (.ref SN), some (.ref FD), u5] ∧ QR t.T ds.length H H' RD SN FD q rk sk fs st ∧ m = 6561 - sk.length, ⟨_, a, [], [], ds, none, rfl, ?_, rfl⟩, ?_⟩
      · exact ⟨g3, rd3, ok3, sd0, sf0, by simp, (fun kv h => nomatch h), (fun kv h => nomatch h), fd0, ff0, rfl, ha3, ⟨rfl, hd.rg⟩, List.mem_map.mpr ⟨_, valV_mem hv, rfl⟩, nRS, nF0⟩
      · rintro m σ H4 ⟨q, sk, fs, st, u5, rfl, h, rfl⟩
        refine ⟨_, rfl, _, rfl, SN, _, rfl, DGet.t (k := kOf st) h.sd (by rw [kOf_kV]; exact h.hq), _, rfl, ?_⟩
        cases hs : valV sk (kOf st) with
        | some vz =>
          refine iteF ?_
          -- return tuple(found[seen[state]:])
          obtain ⟨z, ez, hz⟩ := h.vs _ (valV_mem hs)
          obtain rfl : vz = V.int (z : Int) := ez
          have dg : DGet H4 SN (.ref q) (some (.int (z : Int))) := by
            have := DGet.t (k := kOf st) h.sd (by rw [kOf_kV]; exact h.hq)
            rwa [hs] at this
          refine ⟨_, rfl, _, rfl, _, rfl, SN, _, rfl, dg, _, rfl, FD, _, rfl, SqL.of h.fd, fun L hL => ?_⟩
          have ec : cutV (fs.map V.int) (some (z : Int)) none = (fs.drop z).map V.int := by
            unfold cutV
            rw [HT.sIx_nat, HT.sIx_none, List.length_map, Nat.min_eq_left (Nat.le_of_lt hz), List.map_drop, List.take_of_length_le (by rw [List.length_drop, List.length_map]; exact Nat.le_refl _)]
          rw [ec]
          have few : sk.length ≤ 6561 := by
            have := few_keys hd.l4 h.snd fun k hk => by
              obtain ⟨kv, hkv, rfl⟩ := List.mem_map.mp hk
              exact h.ks kv hkv
            rwa [List.length_map] at this
          have hfl := h.fl
          refine .inl ⟨L, _, rfl, SqL.of upd_same, fun p hp => ?_⟩
          refine k2 _ p (fs.drop z) ((h.gr.new hL).new hp) upd_same (fun e => ?_) (by rw [List.length_drop]; omega)
          have := congrArg List.length e
          rw [List.length_drop] at this
          simp only [List.length_nil] at this
          omega
        | none =>
          refine iteT ?_
          have few : sk.length + 1 ≤ 6561 := by
            have := few_keys (ks := sk.map (·.1) ++ [kOf st]) hd.l4 (nd_snoc h.snd (valV_not hs)) fun k hk => by
              rcases List.mem_append.mp hk with y | y
              · obtain ⟨kv, hkv, rfl⟩ := List.mem_map.mp y
                exact h.ks kv hkv
              · rw [List.mem_singleton.mp y]; exact ⟨st, rfl, h.hs⟩
            rw [List.length_append, List.length_map] at this
            simpa using this
          have hfl := h.fl
          -- seen[state] = len(found)
          refine ⟨fun σ' H' => ∃ q sk' fs st u5, σ' = [some (.ref a), some (.ref RD), some (.ref q), some (.ref SN), some (.ref FD), u5] ∧ QR t.T ds.length H H' RD SN FD q rk sk' fs st ∧ sk'.length = sk.length + 1, fun σ' H' ⟨q, sk', fs, st, u5, z1, z2, z3⟩ => ⟨6561 - (sk.length + 1), by omega, q, sk', fs, st, u5, z1, z2, by rw [z3]⟩, ?_⟩
          refine ⟨_, rfl, _, _, rfl, .inl (SqL.of h.fd), _, rfl, _, rfl, SN, _, rfl, DPut.t (k := kOf st) h.sd (by rw [kOf_kV]; exact h.hq) (by omega), ?_⟩
          rw [putK_new _ hs, List.length_map]
          have tuS : Tups H4 (upd H4 SN (.dT (sk ++ [(kOf st, .int (fs.length : Int))]))) := tups_put h.sd fun xs z => nomatch z
          have lsS : Lsts H4 (upd H4 SN (.dT (sk ++ [(kOf st, .int (fs.length : Int))]))) := lsts_put h.sd fun xs z => nomatch z
          have gS : Gr t.T [] H (upd H4 SN (.dT (sk ++ [(kOf st, .int (fs.length : Int))]))) := h.gr.put h.sd (fun ps z => nomatch z) (.inr h.sf)
          have rdS : upd H4 SN (.dT (sk ++ [(kOf st, .int (fs.length : Int))])) RD = some (.dT rk) := by rw [upd_ne h.nRS]; exact h.rd
          have fdS := lsS _ _ h.fd
          have sdS : upd H4 SN (.dT (sk ++ [(kOf st, .int (fs.length : Int))])) SN = some (.dT (sk ++ [(kOf st, .int (fs.length : Int))])) := upd_same
          have okS := h.ok.mono tuS fun kv hkv l xs _ e => lsS _ _ e
          have hqS := tuS _ _ h.hq
          generalize upd H4 SN (.dT (sk ++ [(kOf st, .int (fs.length : Int))])) = H5 at gS rdS fdS sdS okS hqS ⊢
          -- index, state = steps[state][0]
          obtain ⟨v, hv⟩ := valV_of_key h.hk
          obtain ⟨l, items, ev, hl, hne, hit⟩ := okS.val _ (valV_mem hv)
          obtain rfl : v = V.ref l := ev
          cases items with
          | nil => exact absurd rfl hne
          | cons t0 r =>
            obtain ⟨j, b, st2, e1, e2, e3, e4, e5, e6⟩ := hit t0 (by simp)
            have dg : DGet H5 RD (.ref q) (some (.ref l)) := by
              have := DGet.t (k := kOf st) rdS (by rw [kOf_kV]; exact hqS)
              rwa [hv] at this
            refine ⟨_, rfl, _, rfl, RD, _, rfl, dg, l, _, (0 : Int), V.ref t0, rfl, rfl, SqL.of hl, (show atI _ ((0 : Nat) : Int) = _ from atI_nat rfl), ?_⟩
            refine ⟨t0, _, rfl, SqT.of e1, rfl, _, _, rfl, _, _, rfl, rfl, ?_⟩
            -- found.append(index)
            refine ⟨_, rfl, .inl ⟨rfl, _, SqL.of fdS⟩, _, rfl, FD, _, _, rfl, rfl, fdS, by rw [List.length_map]; omega, ?_⟩
            have tuF : Tups H5 (upd H5 FD (.lst (fs.map V.int ++ [.int j]))) := tups_put fdS fun xs z => nomatch z
            have sdF : upd H5 FD (.lst (fs.map V.int ++ [.int j])) SN = some (.dT (sk ++ [(kOf st, .int (fs.length : Int))])) := by rw [upd_ne (ne_of sdS fdS fun z => nomatch z)]; exact sdS
            have rdF : upd H5 FD (.lst (fs.map V.int ++ [.int j])) RD = some (.dT rk) := by rw [upd_ne (ne_of rdS fdS fun z => nomatch z)]; exact rdS
            have ekk : (sk ++ [(kOf st, V.int (fs.length : Int))]).map (·.1) = sk.map (·.1) ++ [kOf st] := by rw [List.map_append]; rfl
            refine ⟨b, sk ++ [(kOf st, .int (fs.length : Int))], fs ++ [j], st2, _, rfl, ⟨gS.put fdS (fun ps z => nomatch z) (.inr h.ff), rdF, okS.mono tuF fun kv hkv l xs e el => ?_, sdF, h.sf, by rw [ekk]; exact nd_snoc h.snd (valV_not hs), fun kv hkv => ?_, fun kv hkv => ?_, by rw [List.map_append]; exact upd_same, h.ff, by simp [hfl], tuF _ _ e2, e3, e4, h.nRS, h.nF⟩, by simp⟩
            · rw [upd_ne (fun z => h.nF kv hkv (by rw [e, z]))]; exact el
            · rcases List.mem_append.mp hkv with y | y
              · exact h.ks kv y
              · rw [List.mem_singleton.mp y]; exact ⟨st, rfl, h.hs⟩
            · rw [List.length_append]
              rcases List.mem_append.mp hkv with y | y
              · obtain ⟨z, y1, y2⟩ := h.vs kv y
                exact ⟨z, y1, Nat.lt_of_lt_of_le y2 (Nat.le_add_right _ _)⟩
              · rw [List.mem_singleton.mp y]; exact ⟨fs.length, rfl, Nat.lt_succ_self _⟩
end
end Rg

namespace Rg
open PySem PySem.Spec PyProof.Rows L2 GxR RgG RgE RgR
/-- a value that is no tuple -/
inductive NotT (H : Hp) : V → Prop where
  | non : NotT H .non
  | int (i : Int) : NotT H (.int i)
  | lst {a : Addr} {xs : List V} (e : H a = some (.lst xs)) : NotT H (.ref a)
  | dT {a : Addr} {kvs : List (List Key × V)} (e : H a = some (.dT kvs)) : NotT H (.ref a)
theorem NotT.gr {T : List Addr} {H H' : Hp} {v : V} (h : NotT H v) (g : Gr T [] H H') : NotT H' v := by
  cases h with
  | non => exact .non
  | int i => exact .int i
  | lst e => exact .lst (g.lst e (by simp))
  | dT e => exact .dT (g.st _ _ (by simp) e fun ps z => nomatch z)
theorem NotT.ty {K : PySem.W.Frag} {H : Hp} {v : V} (h : NotT H v) : ∃ n, TyOf K H v (.type n) ∧ kitB n "tuple" = some false := by
  cases h with
  | non => exact ⟨_, .non, by decide +kernel⟩
  | int i => exact ⟨_, .int i, by decide +kernel⟩
  | lst e => exact ⟨_, .lst e, by decide +kernel⟩
  | dT e => exact ⟨_, .dT e, by decide +kernel⟩
theorem Ty0.gr {T : List Addr} {H H' : Hp} {v : V} (h : Ty0 H v) (g : Gr T [] H H') : Ty0 H' v := by
  cases v with
  | ref a =>
    rcases h with ⟨xs, e⟩ | ⟨xs, e⟩
    · exact .inl ⟨xs, g.lst e (by simp)⟩
    · exact .inr ⟨xs, g.tup e (by simp)⟩
  | _ => exact h
/-- where the index k stands -/
def bits (k : Nat) (xs : List V) : List Bool := xs.map fun x => decide (x = V.int (k : Int))
/-- what shows_ring answers of a tuple -/
def progRing (ds : List Int) (xs : List V) : Bool := !xs.isEmpty && (xs.all fun x => okItem x ds.length) && (List.range ds.length).all fun k => RgM.progK (ds.getD k 0) (bits k xs)
theorem places_snoc : ∀ (bs : List Bool) (o : Int) (b : Bool), RgM.places o (bs ++ [b]) = RgM.places o bs ++ (if b = true then [o + bs.length] else [])
  | [], o, b => by
    cases b with
    | true => show [o] = [o + ((0 : Nat) : Int)]; rw [show o + ((0 : Nat) : Int) = o by omega]
    | false => rfl
  | c :: r, o, b => by
    have e : o + 1 + (r.length : Int) = o + ((c :: r).length : Int) := by rw [List.length_cons]; omega
    cases c with
    | true =>
      show o :: RgM.places (o + 1) (r ++ [b]) = o :: (RgM.places (o + 1) r ++ _)
      rw [places_snoc r (o + 1) b, e]
    | false =>
      show RgM.places (o + 1) (r ++ [b]) = RgM.places (o + 1) r ++ _
      rw [places_snoc r (o + 1) b, e]
theorem places_len : ∀ (bs : List Bool) (o : Int), (RgM.places o bs).length ≤ bs.length
  | [], _ => Nat.le_refl _
  | true :: r, o => Nat.succ_le_succ (places_len r (o + 1))
  | false :: r, o => Nat.le_succ_of_le (places_len r (o + 1))
/-- the gaps, as the program looks at them -/
def gaps (d e : Int) (ps : List Int) : Bool := anyF ps.length (fun i => decide ((ps.drop 1 ++ [e]).getD i 0 - ps.getD i 0 > d))
theorem gaps_chk (d e : Int) : ∀ (r : List Int) (p : Int), gaps d e (p :: r) = !RgM.chk d e p r
  | [], p => by
    show ((decide ((([] : List Int) ++ [e]).getD 0 0 - [p].getD 0 0 > d)) || false) = !decide (e - p ≤ d)
    show ((decide (e - p > d)) || false) = !decide (e - p ≤ d)
    rw [Bool.or_false, ← decide_not]
    exact decide_eq_decide.mpr (by omega)
  | q :: r, p => by
    have ih := gaps_chk d e r q
    unfold gaps anyF at ih ⊢
    show (List.range (r.length + 1 + 1)).any _ = _
    rw [List.range_succ_eq_map, List.any_cons, List.any_map]
    have e1 : ((fun i => decide (((p :: q :: r).drop 1 ++ [e]).getD i 0 - (p :: q :: r).getD i 0 > d)) ∘ Nat.succ) = (fun i => decide (((q :: r).drop 1 ++ [e]).getD i 0 - (q :: r).getD i 0 > d)) := by
      funext i
      show decide (((q :: r) ++ [e]).getD (i + 1) 0 - (p :: q :: r).getD (i + 1) 0 > d) = decide ((r ++ [e]).getD i 0 - (q :: r).getD i 0 > d)
      rfl
    rw [e1]
    have ih' : (List.range (r.length + 1)).any (fun i => decide (((q :: r).drop 1 ++ [e]).getD i 0 - (q :: r).getD i 0 > d)) = !RgM.chk d e q r := ih
    rw [ih']
    show (decide (q - p > d) || !RgM.chk d e q r) = !(decide (q - p ≤ d) && RgM.chk d e q r)
    rw [Bool.not_and, ← decide_not]
    congr 1
    exact decide_eq_decide.mpr (by omega)
theorem progK_gaps (d : Int) (bs : List Bool) (p : Int) (r : List Int) (h : RgM.places 0 bs = p :: r) : RgM.progK d bs = !gaps d (p + bs.length) (p :: r) := by
  unfold RgM.progK
  rw [h]
  show RgM.chk d (p + bs.length) p r = _
  rw [gaps_chk, Bool.not_not]
theorem progK_none (d : Int) (bs : List Bool) (h : RgM.places 0 bs = []) : RgM.progK d bs = false := by
  unfold RgM.progK
  rw [h]
theorem progRing_false {ds : List Int} {xs : List V} {k : Nat} (hk : k < ds.length) (h : RgM.progK (ds.getD k 0) (bits k xs) = false) : progRing ds xs = false := by
  unfold progRing
  have : ((List.range ds.length).all fun k => RgM.progK (ds.getD k 0) (bits k xs)) = false := by
    rw [List.all_eq_false]
    exact ⟨k, List.mem_range.mpr hk, by rw [h]; exact Bool.false_ne_true⟩
  rw [this, Bool.and_false]
theorem progRing_true {ds : List Int} {xs : List V} (h1 : xs ≠ []) (h2 : (xs.all fun x => okItem x ds.length) = true) (h3 : ∀ k, k < ds.length → RgM.progK (ds.getD k 0) (bits k xs) = true) : progRing ds xs = true := by
  unfold progRing
  have : ((List.range ds.length).all fun k => RgM.progK (ds.getD k 0) (bits k xs)) = true := by
    rw [List.all_eq_true]
    exact fun k hk => h3 k (List.mem_range.mp hk)
  rw [this, h2]
  cases xs with
  | nil => exact absurd rfl h1
  | cons x r => rfl
theorem allF_list {xs : List V} (f : V → Bool) : allF xs.length (fun i => f (xs.getD i .non)) = xs.all f := by
  unfold allF
  induction xs with
  | nil => rfl
  | cons x r ih =>
    show (List.range (r.length + 1)).all _ = _
    rw [List.range_succ_eq_map, List.all_cons, List.all_map, List.all_cons, ← ih]
    rfl
theorem okItem_cases {x : V} {n : Int} (h : okItem x n = true) : x = .non ∨ ∃ i, x = .int i := by
  unfold okItem at h
  cases x with
  | non => exact .inl rfl
  | int i => exact .inr ⟨i, rfl⟩
  | _ => simp [isIn] at h
end Rg

namespace Rg
open PySem PySem.Spec PyProof.Rows L2 GxR RgG RgE RgR
abbrev NS : List Str := ["distances", "value", "k", "distance", "places", "later", "at", "one"]
theorem scShows : FnScope NS ["distances", "value"] (defScope sShows) := ⟨rfl, rfl, rfl, by decide +kernel, rfl, by decide +kernel, by decide +kernel⟩
section
variable {P : Program} {w : World} {K : PySem.W.Frag} {mg : Str → Option Value} {base : Heap}
def spShows (T : List Addr) : Sp := fun vs H Q _ => ∃ (a : Addr) (ds : List Int) (v : V), vs = [.ref a, v] ∧ H a = some (.tup (ds.map V.int)) ∧ Dist ds ∧ TbG T H ∧
  ((NotT H v ∧ ∀ H', Gr T [] H H' → Q (.bl false) H') ∨ ∃ b xs, v = .ref b ∧ H b = some (.tup xs) ∧ xs.length ≤ 100000 ∧ (∀ x ∈ xs, Ty0 H x) ∧ ∀ H', Gr T [] H H' → Q (.bl (progRing ds xs)) H')
theorem ok_shows (t : Tx K mg) (B : TabsB t base) : FnOk P w K mg base CX0 2 t.shows.f t.shows.fd ["distances", "value"] (spShows t.T) := by
  refine okC t.shows.F t.shows.code scShows (fun vs H Q E h => ?_) (fun A outer s H vs Q E hr h => ?_)
  · obtain ⟨a, ds, v, rfl, _⟩ := h
    rfl
  · obtain ⟨a, ds, v, rfl, ha, hd, hT, h⟩ := h
    have hu := hu_of hr
    have sz : sizeLine = 16777216 := sizeLine_eq
    have hPT : t.shows.P ∈ t.T := by unfold Tx.T; simp
    refine ⟨_, pss_cons (ps_expr (pe_call (ok_need t B) hr (by rfl) t.need.m t.need.F.kp t.need.b .nil pass0 (pa_cons (pv 0) pa_nil)))
      (pss_cons (ps_if (PW.pt (pw_or (pt_not (pt_val (pe_callB call_isi (by rfl) t.zisi boot_isinstance (pa_cons (pv 1) (pa_cons (pe_bltn (v := .ty "tuple") (by rfl) t.ztuple boot_tuple rfl) pa_nil))))) (pw_or1 (pt_not (pt_truth (pv 1) (by intro _; rfl)))))) (pss_one (ps_ret pe_bl)) pss_nil)
      (pss_cons (ps_if (pt_not (pt_val (pe_all1 hr (by rfl) t.zall B.shows rfl (genK_by (sc := defScope sShows) rfl (by decide +kernel)) (pv 1) (by intro _; rfl)))) (pss_one (ps_ret pe_bl)) pss_nil)
      (pss_cons (ps_for PassesOwn.never rfl (pi_enumT (by rfl) t.zenum (pa_cons (pv 0) pa_nil)) (pg_tup rfl (pgs_cons (pg_name (i := 2) scShows.nd rfl (Or.inr rfl)) (pgs_cons (pg_name (i := 3) scShows.nd rfl (Or.inr rfl)) pgs_nil)))
        (pss_cons (ps_set (i := 4) scShows.nd rfl (Or.inr rfl) (pe_lc (own := [("at", 6), ("one", 7)]) rfl scShows.nd (pi_enumT (by rfl) t.zenum (pa_cons (pv 1) pa_nil)) (blk_by NS (defScope sShows) (by decide +kernel))
          (fun s H C cl fp => show PG _ _ (gTup K 2 (gCons (gName 6) (gCons (gName 7) gNil))) from pg_tup rfl (pgs_cons (pg_name (i := 6) scShows.nd rfl (Or.inl rfl) (Or.inr rfl)) (pgs_cons (pg_name (i := 7) scShows.nd rfl (Or.inl rfl) (Or.inr rfl)) pgs_nil)))
          (fun s H C cl fp => pts_one (PW.pt (pw_and (pt_cmpR op_eq (pv 7) (pv 2) (nomark _)) (pw_and1 (pt_cmp (pc_notN (pv 7))))))) (fun s H C cl fp => pv 6)))
        (pss_cons (ps_if (pt_not (pt_truth (pv 4) (by intro _; rfl))) (pss_one (ps_ret pe_bl)) pss_nil)
        (pss_cons (ps_set (i := 5) scShows.nd rfl (Or.inr rfl) (pe_lst (StX.pa_star (pe_slice sl_list (pv 4) (po_some pe_int) po_none) (pa_cons (pe_op op_add (pe_ix ix_list (pv 4) pe_int (fun _ _ => rfl)) (pe_callB call_len_seq (by rfl) t.zlen PySem.boot_len (pa_cons (pv 1) pa_nil))) pa_nil))))
        (pss_one (ps_if (pt_val (pe_any1 hr (by rfl) t.zany B.shows rfl (genK_by (sc := defScope sShows) rfl (by decide +kernel)) (pe_callTy cr_range1 (by rfl) t.zrange boot_range (pa_cons (pe_callB call_len_seq (by rfl) t.zlen PySem.boot_len (pa_cons (pv 4) pa_nil)) pa_nil)) (by intro _; rfl))) (pss_one (ps_ret pe_bl)) pss_nil))))))
      (pss_one (ps_ret pe_bl))))), ?_⟩
    -- need_distances(distances)
    refine ⟨_, rfl, a, ds, rfl, ha, hd, hT, fun H1 g1 => ?_⟩
    have ha1 := g1.tup ha (by simp)
    rcases h with ⟨hn, k1⟩ | ⟨b, xs, rfl, hb, hlen, hty, k2⟩
    · -- no tuple
      obtain ⟨n, ty, kb⟩ := (hn.gr g1).ty (K := K)
      refine ⟨_, rfl, _, _, _, _, false, rfl, .ty _, .base ty, kit_ty kb, _, rfl, ?_⟩
      refine iteT ?_
      exact k1 _ g1
    · have hb1 := g1.tup hb (by simp)
      refine ⟨_, rfl, _, _, _, _, true, rfl, .ty _, .base (.tup hb1), kit_ty (by decide +kernel), _, rfl, ?_⟩
      refine iteF ?_
      refine ⟨_, rfl, _, .inr (.inl ⟨xs, SqT.of hb1, rfl⟩), ?_⟩
      by_cases hne : xs = []
      · subst hne
        refine iteT ?_
        exact k2 _ g1
      have hemp : xs.isEmpty = false := by
        cases xs with
        | nil => exact absurd rfl hne
        | cons x r => rfl
      rw [hemp]
      refine iteF ?_
      -- all(one is None or is_in(one, 0, len(distances) - 1) for one in value)
      obtain ⟨ps1, hPs1⟩ := g1.tb.tbl hPT
      refine ⟨_, rfl, xs.length, (fun i => okItem (xs.getD i .non) ((ds.map V.int).length : Nat)), g1.tb _ hPT, fun pins s1 xv I1 r1 => ?_, fun H2 hd2 => ?_⟩
      · obtain rfl : xv = Value.ref b := r1
        refine ⟨ItemV xs, src_tup I1 ⟨_, hPs1⟩ (SqT.of hb1), ?_⟩
        refine elt_shows (ds := ds.map V.int) (ad := a) (xs := xs) (i0 := 0) t.isi.F t.isi.b t.zisi t.zint t.zbool t.isi.m t.zlen hr I1 ⟨_, hPs1⟩ (fun x hx => Ty0.gr (hty x hx) g1) ?_ ?_ ?_ ?_ ?_ ?_ ?_ ?_ ?_
        · rfl
        · rfl
        · exact SqT.of ha1
        · rfl
        · rfl
        · rfl
        · rfl
        · rfl
        · rfl
      · refine ⟨_, rfl, ?_⟩
        have g2 : Gr t.T [] H H2 := g1.trans (Gr.tabbed g1.tb hd2 ⟨_, hPs1⟩)
        rw [allF_list (fun x => okItem x ((ds.map V.int).length : Nat)), List.length_map]
        cases hall : xs.all fun x => okItem x (ds.length : Nat) with
        | false =>
          refine iteT ?_
          have : progRing ds xs = false := by unfold progRing; rw [hall, Bool.and_false, Bool.false_and]
          rw [this] at k2
          exact k2 _ g2
        | true =>
          refine iteF ?_
          have hok : ∀ x ∈ xs, x = .non ∨ ∃ i, x = .int i := fun x hx => okItem_cases (List.all_eq_true.mp hall x hx)
          -- for k, distance in enumerate(distances)
          have ha2 := g2.tup ha (by simp)
          refine ⟨_, rfl, a, ds.map V.int, rfl, SqT.of ha2, ?_⟩
          refine for_it (walk_enumT (K := K) (a := a) (xs := ds.map V.int)) (fun i σ H' => ∃ u2 u3 u4 u5 u6 u7 : Option V, σ = [some (.ref a), some (.ref b), u2, u3, u4, u5, u6, u7] ∧ Gr t.T [] H H' ∧ ∀ k, k < i → RgM.progK (ds.getD k 0) (bits k xs) = true) ?_ ?_ ?_ ?_
          · exact ⟨none, none, none, none, none, none, rfl, g2, fun k hk => absurd hk (Nat.not_lt_zero k)⟩
          · rintro i σ H' hi ⟨u2, u3, u4, u5, u6, u7, rfl, g, _⟩
            exact SqT.of (g.tup ha (by simp))
          · rintro i x σ H3 H4 hi ⟨u2, u3, u4, u5, u6, u7, rfl, g, hp⟩ ⟨Tp, x1, x2, rfl, hTp, rfl, e1, e2⟩
            cases e1
            have hi2 : i < ds.length := by rw [List.length_map] at hi; exact hi
            have ex : x2 = V.int (ds.getD i 0) := by
              have e2' : (ds.map V.int)[i]? = some x2 := e2
              rw [List.getElem?_map, List.getElem?_eq_getElem hi2] at e2'
              rw [List.getD_eq_getElem?_getD, List.getElem?_eq_getElem hi2]
              exact (Option.some.inj e2').symm
            subst ex
            refine ⟨Tp, _, rfl, SqT.of upd_same, rfl, _, _, rfl, _, _, rfl, rfl, ?_⟩
            have g4 : Gr t.T [] H (upd H3 Tp (.tup [.int (i : Nat), .int (ds.getD i 0)])) := g.new hTp
            generalize upd H3 Tp (.tup [.int (i : Nat), .int (ds.getD i 0)]) = H5 at g4 ⊢
            -- places = [..]
            have hb5 := g4.tup hb (by simp)
            refine ⟨_, rfl, b, xs, rfl, SqT.of hb5, fun D0 hD0 => ?_⟩
            refine lc_it (walk_enumT (K := K) (a := b) (xs := xs)) (fun j H' => H' D0 = some (.lst ((RgM.places 0 ((bits i xs).take j)).map V.int)) ∧ Same H5 H') ?_ ?_ ?_ ?_
            · exact ⟨upd_same, same_new (Same.refl _) hD0⟩
            · rintro j H' hj ⟨h1, h2⟩
              exact SqT.of (h2 _ _ hb5)
            · rintro j x H6 H7 hj ⟨h1, h2⟩ ⟨Tq, y1, y2, rfl, hTq, rfl, f1, f2⟩
              cases f1
              have ey : y2 = xs[j] := by
                have f2' : xs[j]? = some y2 := f2
                rw [List.getElem?_eq_getElem hj] at f2'
                exact (Option.some.inj f2').symm
              subst ey
              refine ⟨Tq, _, rfl, SqT.of upd_same, rfl, _, _, rfl, _, _, rfl, rfl, ?_⟩
              have h1' : upd H6 Tq (.tup [.int (j : Nat), xs[j]]) D0 = some (.lst ((RgM.places 0 ((bits i xs).take j)).map V.int)) := by rw [upd_ne (ne_of_none h1 hTq)]; exact h1
              have h2' : Same H5 (upd H6 Tq (.tup [.int (j : Nat), xs[j]])) := same_new h2 hTq
              have hj2 : j < (bits i xs).length := by unfold bits; rw [List.length_map]; exact hj
              have eb : (bits i xs)[j] = decide (xs[j] = V.int (i : Int)) := by
                have q : (bits i xs)[j]? = some (decide (xs[j] = V.int (i : Int))) := by unfold bits; rw [List.getElem?_map, List.getElem?_eq_getElem hj]; rfl
                rw [List.getElem?_eq_getElem hj2] at q
                exact Option.some.inj q
              have lt : ((bits i xs).take j).length = j := by rw [List.length_take]; omega
              have etk : RgM.places 0 ((bits i xs).take (j + 1)) = RgM.places 0 ((bits i xs).take j) ++ (if decide (xs[j] = V.int (i : Int)) = true then [(j : Int)] else []) := by
                rw [List.take_succ, List.getElem?_eq_getElem hj2]
                show RgM.places 0 (_ ++ [(bits i xs)[j]]) = _
                rw [places_snoc, lt, eb, Int.zero_add]
              refine ⟨rfl, _, rfl, _, rfl, (by rcases hok _ (List.getElem_mem hj) with e | ⟨z, e⟩ <;> rw [e] <;> rfl), _, rfl, ?_⟩
              refine ite2 (fun hc => ?_) (fun hc => ?_)
              · refine ⟨_, rfl, _, rfl, ?_⟩
                have hx : xs[j] = V.int (i : Int) := of_decide_eq_true hc
                have hnn : (!decide (xs[j] = V.non)) = true := by rw [hx]; rfl
                rw [hnn]
                refine iteT ?_
                rw [if_pos hc] at etk
                have pl := places_len ((bits i xs).take j) 0
                refine ⟨_, rfl, _, h1', by rw [List.length_map]; omega, ?_, fun c o e => ?_⟩
                · rw [upd_same, etk, List.map_append]; rfl
                · by_cases z : c = D0
                  · subst z; rw [hD0] at e; cases e
                  · rw [upd_ne z]; exact h2' c o e
              · refine iteF ?_
                rw [if_neg hc, List.append_nil] at etk
                rw [etk]
                exact ⟨h1', h2'⟩
            · rintro H6 ⟨h1, h2⟩
              have lb : (bits i xs).length = xs.length := by unfold bits; rw [List.length_map]
              rw [← lb, List.take_length] at h1
              have g6 : Gr t.T [] H H6 := g4.trans (Gr.same g4.tb h2)
              -- if not places
              refine ⟨_, rfl, _, .inl ⟨_, SqL.of h1, rfl⟩, ?_⟩
              cases hpl : RgM.places 0 (bits i xs) with
              | nil =>
                refine iteT ?_
                rw [progRing_false hi2 (progK_none _ _ hpl)] at k2
                exact k2 _ g6
              | cons p r =>
                refine iteF ?_
                rw [hpl] at h1
                have pl := places_len (bits i xs) 0
                rw [hpl, lb] at pl
                have hb6 := g6.tup hb (by simp)
                -- later = [*places[1:], places[0] + len(value)]
                refine ⟨_, rfl, _, rfl, D0, _, rfl, SqL.of h1, fun L1 hL1 => ?_⟩
                have ecut : cutV ((p :: r).map V.int) (some (1 : Int)) none = r.map V.int := by
                  unfold cutV
                  rw [show (some (1 : Int)) = some ((1 : Nat) : Int) from rfl, HT.sIx_nat, HT.sIx_none]
                  have e : min 1 ((p :: r).map V.int).length = 1 := by rw [List.length_map, List.length_cons]; omega
                  rw [e]
                  show (r.map V.int).take _ = r.map V.int
                  exact List.take_of_length_le (by rw [List.length_map, List.length_map, List.length_cons]; omega)
                rw [ecut]
                have d1 : upd H6 L1 (.lst (r.map V.int)) D0 = some (.lst ((p :: r).map V.int)) := by rw [upd_ne (ne_of_none h1 hL1)]; exact h1
                have b1 : upd H6 L1 (.lst (r.map V.int)) b = some (.tup xs) := by rw [upd_ne (ne_of_none hb6 hL1)]; exact hb6
                have lpr : (p :: r).length = r.length + 1 := rfl
                refine ⟨L1, _, rfl, .inr (SqL.of upd_same), _, rfl, D0, _, (0 : Int), V.int p, rfl, rfl, SqL.of d1, (show atI _ ((0 : Nat) : Int) = _ from atI_nat rfl), _, rfl, _, _, rfl, .inr (SqT.of b1), _, _, rfl, rfl, by (rw [List.length_append, List.length_map]; simp only [List.length_cons, List.length_nil]; omega), fun L hL => ?_⟩
                have eL : (r.map V.int ++ [V.int (p + (xs.length : Int))]) = (r ++ [p + (xs.length : Int)]).map V.int := by rw [List.map_append]; rfl
                have g7 : Gr t.T [] H (upd (upd H6 L1 (.lst (r.map V.int))) L (.lst (r.map V.int ++ [V.int (p + (xs.length : Int))]))) := (g6.new hL1).new hL
                have d2 : upd (upd H6 L1 (.lst (r.map V.int))) L (.lst (r.map V.int ++ [V.int (p + (xs.length : Int))])) D0 = some (.lst ((p :: r).map V.int)) := by rw [upd_ne (ne_of_none d1 hL)]; exact d1
                have l2 : upd (upd H6 L1 (.lst (r.map V.int))) L (.lst (r.map V.int ++ [V.int (p + (xs.length : Int))])) L = some (.lst ((r ++ [p + (xs.length : Int)]).map V.int)) := by rw [upd_same, eL]
                generalize upd (upd H6 L1 (.lst (r.map V.int))) L (.lst (r.map V.int ++ [V.int (p + (xs.length : Int))])) = H7 at g7 d2 l2 ⊢
                -- any(later[j] - places[j] > distance for j in range(len(places)))
                refine ⟨_, rfl, _, _, rfl, .inl (SqL.of d2), _, rfl, fun pr hpr => ?_⟩
                rw [List.length_map]
                have g8 : Gr t.T [] H (upd H7 pr (.rng 0 ((p :: r).length : Nat))) := g7.new hpr
                have d3 : upd H7 pr (.rng 0 ((p :: r).length : Nat)) D0 = some (.lst ((p :: r).map V.int)) := by rw [upd_ne (ne_of_none d2 hpr)]; exact d2
                have l3 : upd H7 pr (.rng 0 ((p :: r).length : Nat)) L = some (.lst ((r ++ [p + (xs.length : Int)]).map V.int)) := by rw [upd_ne (ne_of_none l2 hpr)]; exact l2
                have r3 : upd H7 pr (.rng 0 ((p :: r).length : Nat)) pr = some (.rng 0 ((p :: r).length : Nat)) := upd_same
                generalize upd H7 pr (.rng 0 ((p :: r).length : Nat)) = H8 at g8 d3 l3 r3 ⊢
                obtain ⟨ps8, hPs8⟩ := g8.tb.tbl hPT
                refine ⟨(p :: r).length, (fun i' => decide ((r ++ [p + (xs.length : Int)]).getD i' 0 - (p :: r).getD i' 0 > ds.getD i 0)), g8.tb _ hPT, fun pins s1 xv I1 r1 => ?_, fun H9 hd9 => ?_⟩
                · obtain rfl : xv = Value.ref pr := r1
                  refine ⟨ItemI (p :: r).length, src_rng I1 ⟨_, hPs8⟩ r3 (by rw [lpr]; omega), ?_⟩
                  refine elt_gap (ls := r ++ [p + (xs.length : Int)]) (ps := p :: r) (d := ds.getD i 0) (al := L) (ap := D0) (il := 5) (ip := 4) (id0 := 3) I1 ⟨_, hPs8⟩ rfl rfl (SqL.of l3) rfl rfl rfl (SqL.of d3) rfl rfl rfl rfl (by rw [List.length_append]; exact Nat.le_refl _) (Nat.le_refl _) rfl rfl rfl rfl rfl
                · refine ⟨_, rfl, ?_⟩
                  have g9 : Gr t.T [] H H9 := g8.trans (Gr.tabbed g8.tb hd9 ⟨_, hPs8⟩)
                  have eg : anyF (p :: r).length (fun i' => decide ((r ++ [p + (xs.length : Int)]).getD i' 0 - (p :: r).getD i' 0 > ds.getD i 0)) = !RgM.progK (ds.getD i 0) (bits i xs) := by
                    rw [progK_gaps _ _ _ _ hpl, lb, Bool.not_not]
                    rfl
                  rw [eg]
                  cases hpk : RgM.progK (ds.getD i 0) (bits i xs) with
                  | false =>
                    refine iteT ?_
                    rw [progRing_false hi2 hpk] at k2
                    exact k2 _ g9
                  | true =>
                    refine iteF ?_
                    refine ⟨_, _, _, _, _, _, rfl, g9, fun k hk => ?_⟩
                    by_cases z : k = i
                    · rw [z]; exact hpk
                    · exact hp k (by omega)
          · rintro σ H3 ⟨u2, u3, u4, u5, u6, u7, rfl, g, hp⟩
            rw [List.length_map] at hp
            rw [progRing_true hne hall hp] at k2
            exact k2 _ g
end
end Rg

namespace Rg
open PySem PySem.Spec PyProof.Rows L2 GxR RgG RgE RgR
/-- a list that stands in the written part -/
def KL (K : PySem.W.Frag) (a : Addr) (xs : List V) : Prop := ∃ (o : Obj) (its : Array Value) (n : Nat), K.lookup a = some o ∧ o.cls = .type "list" ∧ o.dict = none ∧ o.data = .seq its n ∧ its.size ≤ sizeLine ∧ Vals xs its.toList
/-- the law's row -/
structure Row (K : PySem.W.Frag) (H : Hp) (row scr : Addr) (ns : List Int) : Prop where
  at_ : ∃ i1 i2 i3 : Int, H row = some (.lst [.ref scr, .int i1, .int i2, .int i3]) ∧ 0 ≤ i1
  sq : SqL K H scr (ns.map V.int)
  ne : scr ≠ row ∨ KL K scr (ns.map V.int)
theorem sql_put {K : PySem.W.Frag} {H : Hp} {a p : Addr} {xs : List V} {o : HO} (h : SqL K H a xs) (n : a ≠ p) : SqL K (upd H p o) a xs := by
  rcases h with h | h
  · exact .inl (by
      rcases h with h | ⟨u, h⟩
      · exact .inl (by rw [upd_ne n]; exact h)
      · exact .inr ⟨u, by rw [upd_ne n]; exact h⟩)
  · exact .inr h
theorem sql_same {K : PySem.W.Frag} {H H' : Hp} {a : Addr} {xs : List V} (h : SqL K H a xs) (e : ∀ o, H a = some o → (∀ ps, o ≠ .tbl ps) → H' a = some o) : SqL K H' a xs := by
  rcases h with h | h
  · exact .inl (by
      rcases h with h | ⟨u, h⟩
      · exact .inl (e _ h fun ps z => nomatch z)
      · exact .inr ⟨u, e _ h fun ps z => nomatch z⟩)
  · exact .inr h
theorem sql_putK {K : PySem.W.Frag} {H : Hp} {a p : Addr} {xs : List V} {o : HO} (h : SqL K H a xs) (n : a ≠ p ∨ KL K a xs) : SqL K (upd H p o) a xs := by
  rcases n with n | n
  · exact sql_put h n
  · exact .inr n
section
variable {P : Program} {w : World} {K : PySem.W.Frag} {mg : Str → Option Value} {base : Heap}
def spTaken (K : PySem.W.Frag) : Sp := fun vs H Q _ => ∃ (row scr : Addr) (ns : List Int) (m : Int), vs = [.ref row, .int m] ∧ Row K H row scr ns ∧ 0 < m ∧ m < 1073741824 ∧
  ∀ i1 i2 i3 r : Int, 0 ≤ i1 → 0 ≤ r → r < m → Q (.int r) (upd H row (.lst [.ref scr, .int i1, .int i2, .int i3]))
theorem scTaken : FnScope ["_law_row", "_law_many", "_law_found", "_law_cell"] ["_law_row", "_law_many"] (defScope sTaken) := ⟨rfl, rfl, rfl, by decide +kernel, rfl, by decide +kernel, by decide +kernel⟩
theorem ok_taken (t : Tx K mg) : FnOk P w K mg base CX0 1 t.taken.f t.taken.fd ["_law_row", "_law_many"] (spTaken K) := by
  refine t.taken.F.ok scTaken (fun vs H Q E h => ?_) (fun cdv A outer s H vs Q E hr h => ?_)
  · obtain ⟨row, scr, ns, m, rfl, _⟩ := h
    rfl
  · obtain ⟨row, scr, ns, m, rfl, ⟨⟨i1, i2, i3, hrow, h1⟩, hscr, hne⟩, hm0, hm1, k⟩ := h
    refine ⟨_, pss_cons (ps_if (pt_cmpR op_gt (pe_ix ix_list (pv 0) pe_int (fun _ _ => rfl)) pe_int (nomark _))
        (pss_cons (ps_set (i := 2) scTaken.nd rfl (Or.inl rfl) (pe_op op_modN (pe_callTy call_int1 (by rfl) t.zint boot_int (pa_cons (pe_ix ix_list (pv 0) pe_int (fun _ _ => rfl)) pa_nil)) (pv 1)))
        (pss_cons (ps_asg (pe_op op_fdivN (pe_ix ix_list (pv 0) pe_int (fun _ _ => rfl)) (pv 1)) (pg_sub (pv 0) pe_int set_list))
        (pss_one (ps_ret (pv 2))))) pss_nil)
      (pss_cons (ps_asg (pe_op op_add (pe_ix ix_list (pv 0) pe_int (fun _ _ => rfl)) pe_int) (pg_sub (pv 0) pe_int set_list))
      (pss_cons (ps_if (pt_cmpR op_gt (pe_ix ix_list (pv 0) pe_int (fun _ _ => rfl)) (pe_callB call_len_seq (by rfl) t.zlen PySem.boot_len (pa_cons (pe_ix ix_list (pv 0) pe_int (fun _ _ => rfl)) pa_nil)) (nomark _))
        (pss_cons (ps_asg (pe_op op_modN (pe_callTy call_int1 (by rfl) t.zint boot_int (pa_cons (pe_op op_add (pe_op op_mul (pe_ix ix_list (pv 0) pe_int (fun _ _ => rfl)) pe_int) pe_int) pa_nil)) pe_int) (pg_sub (pv 0) pe_int set_list))
        (pss_one (ps_ret (pe_op op_modN (pe_callTy call_int1 (by rfl) t.zint boot_int (pa_cons (pe_op op_fdivN (pe_ix ix_list (pv 0) pe_int (fun _ _ => rfl)) pe_int) pa_nil)) (pv 1))))) pss_nil)
      (pss_cons (ps_set (i := 3) scTaken.nd rfl (Or.inl rfl) (pe_ix ix_list (pe_ix ix_list (pv 0) pe_int (fun _ _ => rfl)) (pe_op op_sub (pe_ix ix_list (pv 0) pe_int (fun _ _ => rfl)) pe_int) (fun _ _ => rfl)))
      (pss_cons (ps_asg (pe_op op_modN (pe_callTy call_int1 (by rfl) t.zint boot_int (pa_cons (pe_op op_add (pe_op op_add (pe_op op_mul (pe_ix ix_list (pv 0) pe_int (fun _ _ => rfl)) pe_int) (pv 3)) pe_int) pa_nil)) pe_int) (pg_sub (pv 0) pe_int set_list))
      (pss_cons (ps_if (pt_cmpR op_ge (pv 3) (pe_op op_pow pe_int pe_int) (nomark _)) (pss_one (ps_asg (pe_op op_fdivN (pv 3) (pv 1)) (pg_sub (pv 0) pe_int set_list))) pss_nil)
      (pss_one (ps_ret (pe_op op_modN (pe_callTy call_int1 (by rfl) t.zint boot_int (pa_cons (pv 3) pa_nil)) (pv 1))))))))), ?_⟩
    have a0 : ∀ (j1 j2 j3 : Int), atI [V.ref scr, .int j1, .int j2, .int j3] 0 = some (.ref scr) := fun _ _ _ => rfl
    have a1 : ∀ (j1 j2 j3 : Int), atI [V.ref scr, .int j1, .int j2, .int j3] 1 = some (.int j1) := fun _ _ _ => rfl
    have a2 : ∀ (j1 j2 j3 : Int), atI [V.ref scr, .int j1, .int j2, .int j3] 2 = some (.int j2) := fun _ _ _ => rfl
    have a3 : ∀ (j1 j2 j3 : Int), atI [V.ref scr, .int j1, .int j2, .int j3] 3 = some (.int j3) := fun _ _ _ => rfl
    refine ⟨_, rfl, row, _, (3 : Int), _, rfl, rfl, SqL.of hrow, a3 _ _ _, _, _, rfl, rfl, _, rfl, ?_⟩
    have hmn : m ≠ 0 := by omega
    have hab : m.natAbs < 1073741824 := by omega
    have mn : ∀ z : Int, 0 ≤ z.fmod m := fun z => Int.fmod_nonneg_of_pos z hm0
    have ml : ∀ z : Int, z.fmod m < m := fun z => Int.fmod_lt_of_pos z hm0
    refine ite2 (fun _ => ?_) (fun _ => ?_)
    · -- the rest of the last number
      refine ⟨_, rfl, row, _, (3 : Int), _, rfl, rfl, SqL.of hrow, a3 _ _ _, .inl ⟨_, rfl, _, rfl, _, _, rfl, rfl, hmn, ?_⟩⟩
      refine ⟨_, rfl, row, _, (3 : Int), _, rfl, rfl, SqL.of hrow, a3 _ _ _, _, rfl, _, _, rfl, rfl, ⟨hmn, hab⟩, _, rfl, row, _, (3 : Int), 3, rfl, rfl, hrow, rfl, ?_⟩
      refine ⟨_, rfl, ?_⟩
      exact k i1 i2 _ _ h1 (mn _) (ml _)
    · -- row[1] = row[1] + 1
      refine ⟨_, rfl, row, _, (1 : Int), _, rfl, rfl, SqL.of hrow, a1 _ _ _, _, _, rfl, rfl, _, rfl, row, _, (1 : Int), 1, rfl, rfl, hrow, rfl, ?_⟩
      have r1 : upd H row (.lst ([V.ref scr, .int i1, .int i2, .int i3].set 1 (.int (i1 + 1)))) row = some (.lst [.ref scr, .int (i1 + 1), .int i2, .int i3]) := upd_same
      have s1 : SqL K (upd H row (.lst ([V.ref scr, .int i1, .int i2, .int i3].set 1 (.int (i1 + 1))))) scr (ns.map V.int) := sql_putK hscr hne
      have k1 : ∀ j1 j2 j3 r : Int, 0 ≤ j1 → 0 ≤ r → r < m → Q (.int r) (upd (upd H row (.lst ([V.ref scr, .int i1, .int i2, .int i3].set 1 (.int (i1 + 1))))) row (.lst [.ref scr, .int j1, .int j2, .int j3])) := fun j1 j2 j3 r a b c => by
        rw [upd_upd]; exact k j1 j2 j3 r a b c
      generalize upd H row (.lst ([V.ref scr, .int i1, .int i2, .int i3].set 1 (.int (i1 + 1)))) = H1 at r1 s1 k1 ⊢
      refine ⟨_, rfl, row, _, (1 : Int), _, rfl, rfl, SqL.of r1, a1 _ _ _, _, rfl, row, _, (0 : Int), _, rfl, rfl, SqL.of r1, a0 _ _ _, scr, _, rfl, .inl s1, _, _, rfl, rfl, _, rfl, ?_⟩
      rw [List.length_map]
      refine ite2 (fun _ => ?_) (fun hlt => ?_)
      · refine ⟨_, rfl, row, _, (2 : Int), _, rfl, rfl, SqL.of r1, a2 _ _ _, _, _, rfl, rfl, .inr (by constructor <;> decide), _, _, rfl, rfl, .inl ⟨_, rfl, _, _, rfl, rfl, (show (2147483647 : Int) ≠ 0 by decide), _, rfl, row, _, (2 : Int), 2, rfl, rfl, r1, rfl, ?_⟩⟩
        refine ⟨_, rfl, row, _, (2 : Int), _, rfl, rfl, SqL.of upd_same, rfl, _, _, rfl, rfl, (by constructor <;> decide), .inl ⟨_, rfl, _, rfl, _, _, rfl, rfl, hmn, ?_⟩⟩
        exact k1 (i1 + 1) _ i3 _ (by omega) (mn _) (ml _)
      · have hlt' : ¬ ((ns.length : Int) < i1 + 1) := fun z => hlt (decide_eq_true z)
        have hi : i1.toNat < ns.length := by omega
        have ei : i1 + 1 - 1 = ((i1.toNat : Nat) : Int) := by omega
        refine ⟨_, rfl, row, _, (0 : Int), _, rfl, rfl, SqL.of r1, a0 _ _ _, _, rfl, row, _, (1 : Int), _, rfl, rfl, SqL.of r1, a1 _ _ _, _, _, rfl, rfl, scr, _, _, V.int ns[i1.toNat], rfl, rfl, s1, (by rw [ei]; exact atI_nat (by rw [List.getElem?_map, List.getElem?_eq_getElem hi]; rfl)), ?_⟩
        refine ⟨_, rfl, row, _, (2 : Int), _, rfl, rfl, SqL.of r1, a2 _ _ _, _, _, rfl, rfl, .inr (by constructor <;> decide), _, rfl, _, _, rfl, rfl, _, _, rfl, rfl, .inl ⟨_, rfl, _, _, rfl, rfl, (show (2147483647 : Int) ≠ 0 by decide), _, rfl, row, _, (2 : Int), 2, rfl, rfl, r1, rfl, ?_⟩⟩
        refine ⟨_, rfl, _, _, rfl, rfl, (by constructor <;> decide), _, _, rfl, rfl, _, rfl, ?_⟩
        refine ite2 (fun _ => ?_) (fun _ => ?_)
        · refine ⟨_, rfl, _, rfl, _, _, rfl, rfl, ⟨hmn, hab⟩, _, rfl, row, _, (3 : Int), 3, rfl, rfl, upd_same, rfl, ?_⟩
          refine ⟨_, rfl, .inl ⟨_, rfl, _, rfl, _, _, rfl, rfl, hmn, ?_⟩⟩
          rw [upd_upd]
          exact k1 (i1 + 1) _ _ _ (by omega) (mn _) (ml _)
        · refine ⟨_, rfl, .inl ⟨_, rfl, _, rfl, _, _, rfl, rfl, hmn, ?_⟩⟩
          exact k1 (i1 + 1) _ _ _ (by omega) (mn _) (ml _)
end
end Rg

namespace Rg
open PySem PySem.Spec PyProof.Rows L2 GxR RgG RgE RgR
section
variable {P : Program} {w : World} {K : PySem.W.Frag} {mg : Str → Option Value} {base : Heap}
def spPick (K : PySem.W.Frag) : Sp := fun vs H Q _ => ∃ (row scr l : Addr) (ns : List Int) (xs : List V), vs = [.ref row, .ref l] ∧ Row K H row scr ns ∧ H l = some (.lst xs) ∧ l ≠ row ∧ 0 < xs.length ∧ xs.length < 1073741824 ∧
  ∀ (i1 i2 i3 : Int) (x : V), 0 ≤ i1 → x ∈ xs → Q x (upd H row (.lst [.ref scr, .int i1, .int i2, .int i3]))
theorem scPick : FnScope ["_law_row", "_law_things"] ["_law_row", "_law_things"] (defScope sPick) := ⟨rfl, rfl, rfl, by decide +kernel, rfl, by decide +kernel, by decide +kernel⟩
theorem ok_pick (t : Tx K mg) : FnOk P w K mg base CX0 2 t.pick.f t.pick.fd ["_law_row", "_law_things"] (spPick K) := by
  refine t.pick.F.ok scPick (fun vs H Q E h => ?_) (fun cdv A outer s H vs Q E hr h => ?_)
  · obtain ⟨row, scr, l, ns, xs, rfl, _⟩ := h
    rfl
  · obtain ⟨row, scr, l, ns, xs, rfl, hrow, hl, hne, h0, h1, k⟩ := h
    refine ⟨_, pss_one (ps_ret (pe_ix ix_list (pv 1) (pe_call (ok_taken t) hr (by rfl) t.taken.m t.taken.F.kp t.taken.b .nil pass0 (pa_cons (pv 0) (pa_cons (pe_callB call_len_seq (by rfl) t.zlen PySem.boot_len (pa_cons (pv 1) pa_nil)) pa_nil))) (fun _ _ => rfl))), ?_⟩
    refine ⟨_, rfl, _, rfl, _, rfl, _, _, rfl, .inl (SqL.of hl), row, scr, ns, _, rfl, hrow, by omega, by omega, fun i1 i2 i3 r a b c => ?_⟩
    have hr : r.toNat < xs.length := by omega
    have er : r = ((r.toNat : Nat) : Int) := by omega
    refine ⟨l, xs, r, xs[r.toNat], rfl, rfl, SqL.of (by rw [upd_ne hne]; exact hl), (by
      have q := atI_nat (xs := xs) (j := r.toNat) (List.getElem?_eq_getElem hr)
      rw [← er] at q
      exact q), ?_⟩
    exact k i1 i2 i3 _ a (List.getElem_mem hr)
/-- _law_alike of two truth values -/
def spAlike : Sp := fun vs H Q _ => ∃ x y : Bool, vs = [.bl x, .bl y] ∧ ∀ H', Same H H' → Q (.bl (decide (x = y))) H'
theorem scAlike : FnScope ["_law_found", "_law_due"] ["_law_found", "_law_due"] (defScope sAlike) := ⟨rfl, rfl, rfl, by decide +kernel, rfl, by decide +kernel, by decide +kernel⟩
theorem ok_alike (t : Tx K mg) : FnOk P w K mg base CX0 1 t.alike.f t.alike.fd ["_law_found", "_law_due"] spAlike := by
  refine t.alike.F.ok scAlike (fun vs H Q E h => ?_) (fun cdv A outer s H vs Q E hr h => ?_)
  · obtain ⟨x, y, rfl, _⟩ := h
    rfl
  · obtain ⟨x, y, rfl, k⟩ := h
    refine ⟨_, pss_cons (ps_if (pt_val (pe_callB call_isiT (by rfl) t.zisi boot_isinstance (pa_cons (pv 1) (pa_cons (pe_tup (pa_cons (pe_bltn (v := .ty "tuple") (by rfl) t.ztuple boot_tuple rfl) (pa_cons (pe_bltn (v := .ty "list") (by rfl) t.zlist boot_list rfl) pa_nil))) pa_nil)))) (pss_cons ps_never (pss_cons ps_never (pss_one ps_never))) pss_nil)
      (pss_cons (ps_if (PW.pt (pw_or (pt_cmp (pc_isN (pv 1))) (pw_or1 (pt_val (pe_callB call_isi (by rfl) t.zisi boot_isinstance (pa_cons (pv 1) (pa_cons (pe_bltn (v := .ty "str") (by rfl) t.zstr boot_str rfl) pa_nil))))))) (pss_one ps_never) pss_nil)
      (pss_one (ps_ret (pe_and (pe_callB call_isi (by rfl) t.zisi boot_isinstance (pa_cons (pv 0) (pa_cons (pe_bltn (v := .ty "int") (by rfl) t.zint boot_int rfl) pa_nil)))
        (pe_and (pe_cmpR op_eq (pe_callB call_isi (by rfl) t.zisi boot_isinstance (pa_cons (pv 0) (pa_cons (pe_bltn (v := .ty "bool") (by rfl) t.zbool boot_bool rfl) pa_nil))) (pe_callB call_isi (by rfl) t.zisi boot_isinstance (pa_cons (pv 1) (pa_cons (pe_bltn (v := .ty "bool") (by rfl) t.zbool boot_bool rfl) pa_nil))) (nomark _))
          (pe_one (pe_cmpR op_eq (pv 0) (pv 1) (nomark _)))))))), ?_⟩
    refine ⟨_, rfl, (by show 2 ≤ sizeLine; decide), fun tp htp => ?_⟩
    refine ⟨_, tp, _, _, [.type "tuple", .type "list"], false, rfl, upd_same, .cons (.ty _) (.cons (.ty _) .nil), .base (.bl y), kitAny_cons (b := false) (r := false) (kit_ty (by decide +kernel)) (fun _ => kitAny_cons (b := false) (r := false) (kit_ty (by decide +kernel)) (fun _ => kitAny_nil) (fun z => nomatch z)) (fun z => nomatch z), _, rfl, ?_⟩
    refine iteF ?_
    refine ⟨_, rfl, _, rfl, ?_⟩
    refine iteF ?_
    refine ⟨_, rfl, _, _, _, _, false, rfl, .ty _, .base (.bl y), kit_ty (by decide +kernel), _, rfl, ?_⟩
    refine iteF ?_
    refine ⟨_, rfl, _, _, _, _, true, rfl, .ty _, .base (.bl x), kit_ty (by decide +kernel), _, rfl, ?_⟩
    refine iteT ?_
    refine ⟨_, rfl, _, _, _, _, true, rfl, .ty _, .base (.bl x), kit_ty (by decide +kernel), _, rfl, _, _, _, _, true, rfl, .ty _, .base (.bl y), kit_ty (by decide +kernel), rfl, _, rfl, ?_⟩
    refine iteT ?_
    refine ⟨_, rfl, _, rfl, rfl, ?_⟩
    have e : decide (V.bl x = V.bl y) = decide (x = y) := decide_eq_decide.mpr ⟨fun z => by cases z; rfl, fun z => by rw [z]⟩
    rw [e]
    exact k _ fun c o q => by rw [upd_ne (ne_of_none q htp)]; exact q
end
end Rg

namespace Rg
open PySem PySem.Spec PyProof.Rows L2 GxR RgG RgE RgR
/-- the row may change, the rest grows -/
structure Go (T : List Addr) (row scr : Addr) (H H' : Hp) : Prop where
  gr : Gr T [row] H H'
  at_ : ∃ i1 i2 i3 : Int, H' row = some (.lst [.ref scr, .int i1, .int i2, .int i3]) ∧ 0 ≤ i1
section
variable {T : List Addr} {row scr : Addr} {K : PySem.W.Frag} {H H1 H2 : Hp} {ns : List Int}
theorem Row.go (r : Row K H row scr ns) (g : Go T row scr H H1) : Row K H1 row scr ns :=
  ⟨g.at_, by
    rcases r.ne with n | n
    · exact sql_same r.sq fun o e m => g.gr.st _ _ (by simpa using n) e m
    · exact .inr n, r.ne⟩
theorem Go.refl (r : Row K H row scr ns) (t : TbG T H) : Go T row scr H H := ⟨Gr.refl t, r.at_⟩
theorem Go.trans (a : Go T row scr H H1) (b : Go T row scr H1 H2) : Go T row scr H H2 := ⟨a.gr.trans b.gr, b.at_⟩
theorem Go.grow (a : Go T row scr H H1) (g : Gr T [] H1 H2) : Go T row scr H H2 :=
  ⟨a.gr.trans g.wide, let ⟨i1, i2, i3, e, h⟩ := a.at_; ⟨i1, i2, i3, g.lst e (by simp), h⟩⟩
theorem Go.new {p : Addr} {o : HO} (a : Go T row scr H H1) (h : H1 p = none) : Go T row scr H (upd H1 p o) :=
  ⟨a.gr.new h, let ⟨i1, i2, i3, e, z⟩ := a.at_; ⟨i1, i2, i3, by rw [upd_ne (ne_of_none e h)]; exact e, z⟩⟩
theorem Go.upRow {i1 i2 i3 : Int} (a : Go T row scr H H1) (h : 0 ≤ i1) : Go T row scr H (upd H1 row (.lst [.ref scr, .int i1, .int i2, .int i3])) :=
  let ⟨_, _, _, e, _⟩ := a.at_
  ⟨a.gr.put e (fun ps z => nomatch z) (.inl (by simp)), i1, i2, i3, upd_same, h⟩
theorem Go.put {p : Addr} {o u : HO} (a : Go T row scr H H1) (h : H1 p = some u) (n : ∀ ps, u ≠ .tbl ps) (hp : H p = none) (hr : p ≠ row) : Go T row scr H (upd H1 p o) :=
  ⟨a.gr.put h n (.inr hp), let ⟨i1, i2, i3, e, z⟩ := a.at_; ⟨i1, i2, i3, by rw [upd_ne hr.symm]; exact e, z⟩⟩
theorem Go.tup {b : Addr} {xs : List V} (a : Go T row scr H H1) (r : Row K H row scr ns) (h : H b = some (.tup xs)) : H1 b = some (.tup xs) := by
  obtain ⟨i1, i2, i3, e, _⟩ := r.at_
  exact a.gr.tup h (by simpa using ne_of h e fun z => nomatch z)
theorem Go.lst {b : Addr} {xs : List V} (a : Go T row scr H H1) (h : H b = some (.lst xs)) (n : b ≠ row) : H1 b = some (.lst xs) := a.gr.lst h (by simpa using n)
end
end Rg

namespace Rg
open PySem PySem.Spec PyProof.Rows L2 GxR RgG RgE RgR
def Good (H : Hp) (v : V) : Prop := ∃ b ds, v = .ref b ∧ H b = some (.tup (ds.map V.int)) ∧ Dist ds
theorem Good.same {H H' : Hp} {v : V} (h : Good H v) (s : Same H H') : Good H' v := let ⟨b, ds, h1, h2, h3⟩ := h; ⟨b, ds, h1, s _ _ h2, h3⟩
/-- new good tuples, nothing else -/
def AllNew (t : TA) (n : Nat) : Prop := ∀ σ H Q, (∀ vs H', Same H H' → vs.length = n → (∀ v ∈ vs, Good H' v) → Q vs H') → t σ H Q
theorem anew_nil : AllNew tNil 0 := fun σ H Q k => k [] H (Same.refl H) rfl fun v h => nomatch h
theorem anew_cons {ti t : TA} {n : Nat} {zs : List Int} (h : ∀ σ H Q, Q (zs.map V.int) H → ti σ H Q) (d : Dist zs) (r : AllNew t n) : AllNew (tCons (tTup ti) t) (n + 1) := by
  intro σ H Q k
  refine h σ H _ ?_
  have sz : sizeLine = 16777216 := sizeLine_eq
  have l4 := d.l4
  refine ⟨by rw [List.length_map]; omega, fun p hp => ?_⟩
  refine r σ _ _ fun vs H' s hl hg => ?_
  have s0 : Same H (upd H p (.tup (zs.map V.int))) := same_new (Same.refl H) hp
  refine k _ H' (s0.trans s) (by rw [List.length_cons, hl]) fun v hv => ?_
  rcases List.mem_cons.mp hv with e | e
  · exact ⟨p, zs, e, s _ _ upd_same, d⟩
  · exact hg v e
theorem ixN_at {n j : Nat} (hj : j < n) : ixN n (j : Int) = some j := by
  unfold ixN
  rw [if_pos (Int.natCast_nonneg j), if_pos (Int.ofNat_lt.mpr hj), Int.toNat_natCast]
theorem seq_lst {t : TA} {n i : Nat} {u : TS} {D : Ends} {σ : L2.St} {H : Hp} (A : AllNew t n) (hn : n ≤ 1000) (k : ∀ p vs H', Same H H' → H p = none → H' p = some (.lst vs) → vs.length = n → (∀ v ∈ vs, Good H' v) → u D (σ.set i (some (.ref p))) H') :
    tSeq (tAsg (tLst t) (gName i)) u D σ H := by
  have sz : sizeLine = 16777216 := sizeLine_eq
  show t σ H fun xs H1 => xs.length ≤ sizeLine ∧ ∀ p, H1 p = none → u D (σ.set i (some (.ref p))) (upd H1 p (.lst xs))
  refine A _ _ _ fun vs H1 s l g => ⟨by omega, fun p hp => ?_⟩
  refine k p vs _ (same_new s hp) ?_ upd_same l fun v hv => (g v hv).same (same_new (Same.refl _) hp)
  cases q : H p with
  | none => rfl
  | some o => rw [s _ _ q] at hp; cases hp
theorem seq_cat {t : TA} {n i : Nat} {u : TS} {D : Ends} {σ : L2.St} {H : Hp} {L : Addr} {vs0 : List V} (A : AllNew t n) (e : σ[i]? = some (some (.ref L))) (eL : H L = some (.lst vs0)) (g0 : ∀ v ∈ vs0, Good H v) (hn : vs0.length + n ≤ 1000)
    (k : ∀ p vs H', Same H H' → H p = none → H' p = some (.lst vs) → vs.length = vs0.length + n → (∀ v ∈ vs, Good H' v) → u D (σ.set i (some (.ref p))) H') :
    tSeq (tAsg (tOp rCat (tVar i) (tLst t)) (gName i)) u D σ H := by
  have sz : sizeLine = 16777216 := sizeLine_eq
  refine ⟨_, e, ?_⟩
  show t σ H fun xs H1 => xs.length ≤ sizeLine ∧ ∀ p, H1 p = none → rCat (.ref L) (.ref p) (upd H1 p (.lst xs)) fun v H2 => u D (σ.set i (some v)) H2
  refine A _ _ _ fun vs H1 s l g => ⟨by omega, fun p hp => ?_⟩
  have s2 : Same H (upd H1 p (.lst vs)) := same_new s hp
  refine ⟨L, p, vs0, vs, rfl, rfl, s2 _ _ eL, upd_same, by omega, fun p2 hp2 => ?_⟩
  have s3 : Same (upd H1 p (.lst vs)) (upd (upd H1 p (.lst vs)) p2 (.lst (vs0 ++ vs))) := same_new (Same.refl _) hp2
  refine k p2 _ _ (s2.trans s3) ?_ upd_same (by rw [List.length_append, l]) fun v hv => ?_
  · cases q : H p2 with
    | none => rfl
    | some o => rw [s2 _ _ q] at hp2; cases hp2
  · rcases List.mem_append.mp hv with z | z
    · exact ((g0 v z).same s2).same s3
    · exact ((g v z).same (same_new (Same.refl _) hp)).same s3
abbrev ND : List Str := ["_law_row", "_law_most", "_law_full", "_law_found", "_law_at", "_law_one", "_law_k"]
theorem scDists : FnScope ND ["_law_row", "_law_most"] (defScope sDists) := ⟨rfl, rfl, rfl, by decide +kernel, rfl, by decide +kernel, by decide +kernel⟩
section
variable {P : Program} {w : World} {K : PySem.W.Frag} {mg : Str → Option Value} {base : Heap}
def spDists (T : List Addr) (K : PySem.W.Frag) : Sp := fun vs H Q _ => ∃ (row scr : Addr) (ns : List Int), vs = [.ref row, .int 8] ∧ Row K H row scr ns ∧ TbG T H ∧
  ∀ H' p ds, Go T row scr H H' → H' p = some (.tup (ds.map V.int)) → Dist ds → Q (.ref p) H'
theorem ok_dists (t : Tx K mg) : FnOk P w K mg base CX0 3 t.dists.f t.dists.fd ["_law_row", "_law_most"] (spDists t.T K) := by
  refine t.dists.F.ok scDists (fun vs H Q E h => ?_) (fun cdv A outer s H vs Q E hr h => ?_)
  · obtain ⟨row, scr, ns, rfl, _⟩ := h
    rfl
  · obtain ⟨row, scr, ns, rfl, hrow, hT, k⟩ := h
    have sz : sizeLine = 16777216 := sizeLine_eq
    refine ⟨_, pss_cons (ps_set (i := 2) scDists.nd rfl (Or.inl rfl) (pe_lst (pa_cons (pe_tup (pa_cons pe_int pa_nil)) (pa_cons (pe_tup (pa_cons pe_int (pa_cons pe_int pa_nil))) (pa_cons (pe_tup (pa_cons pe_int (pa_cons pe_int (pa_cons pe_int pa_nil)))) (pa_cons (pe_tup (pa_cons pe_int (pa_cons pe_int (pa_cons pe_int pa_nil)))) (pa_cons (pe_tup (pa_cons pe_int (pa_cons pe_int (pa_cons pe_int pa_nil)))) (pa_cons (pe_tup (pa_cons pe_int (pa_cons pe_int (pa_cons pe_int pa_nil)))) (pa_cons (pe_tup (pa_cons pe_int (pa_cons pe_int pa_nil))) (pa_cons (pe_tup (pa_cons pe_int (pa_cons pe_int (pa_cons pe_int pa_nil)))) (pa_cons (pe_tup (pa_cons pe_int (pa_cons pe_int (pa_cons pe_int (pa_cons pe_int pa_nil))))) (pa_cons (pe_tup (pa_cons pe_int (pa_cons pe_int (pa_cons pe_int (pa_cons pe_int pa_nil))))) pa_nil))))))))))))
      (pss_cons (ps_set (i := 2) scDists.nd rfl (Or.inl rfl) (pe_op op_cat (pv 2) (pe_lst (pa_cons (pe_tup (pa_cons pe_int (pa_cons pe_int (pa_cons pe_int pa_nil)))) (pa_cons (pe_tup (pa_cons pe_int (pa_cons pe_int (pa_cons pe_int (pa_cons pe_int pa_nil))))) (pa_cons (pe_tup (pa_cons pe_int (pa_cons pe_int (pa_cons pe_int (pa_cons pe_int pa_nil))))) (pa_cons (pe_tup (pa_cons pe_int (pa_cons pe_int (pa_cons pe_int pa_nil)))) (pa_cons (pe_tup (pa_cons pe_int (pa_cons pe_int (pa_cons pe_int pa_nil)))) (pa_cons (pe_tup (pa_cons pe_int (pa_cons pe_int (pa_cons pe_int (pa_cons pe_int pa_nil))))) (pa_cons (pe_tup (pa_cons pe_int (pa_cons pe_int (pa_cons pe_int (pa_cons pe_int pa_nil))))) (pa_cons (pe_tup (pa_cons pe_int (pa_cons pe_int (pa_cons pe_int (pa_cons pe_int pa_nil))))) pa_nil)))))))))))
      (pss_cons (ps_if (pt_cmpR op_eq (pe_call (ok_taken t) (hr.mono (by decide)) (by rfl) t.taken.m t.taken.F.kp t.taken.b .nil pass0 (pa_cons (pv 0) (pa_cons pe_int pa_nil))) pe_int (nomark _))
        (pss_cons (ps_set (i := 3) scDists.nd rfl (Or.inl rfl) (pe_callTy call_list_of (by rfl) t.zlist boot_list (pa_cons (pe_call (ok_pick t) hr (by rfl) t.pick.m t.pick.F.kp t.pick.b .nil pass0 (pa_cons (pv 0) (pa_cons (pv 2) pa_nil))) pa_nil)))
        (pss_cons (ps_set (i := 4) scDists.nd rfl (Or.inl rfl) (pe_call (ok_taken t) (hr.mono (by decide)) (by rfl) t.taken.m t.taken.F.kp t.taken.b .nil pass0 (pa_cons (pv 0) (pa_cons (pe_callB call_len_seq (by rfl) t.zlen PySem.boot_len (pa_cons (pv 3) pa_nil)) pa_nil))))
        (pss_cons (ps_asg (pe_callB (call_max2 rfl) (by rfl) t.zmax boot_max (pa_cons pe_int (pa_cons (pe_callB (call_min2 rfl) (by rfl) t.zmin boot_min (pa_cons (pv 1) (pa_cons (pe_op op_add (pe_ix ix_list (pv 3) (pv 4) (fun _ _ => rfl))
            (pe_call (ok_pick t) hr (by rfl) t.pick.m t.pick.F.kp t.pick.b .nil pass0 (pa_cons (pv 0) (pa_cons (pe_lst (pa_cons pe_int (pa_cons pe_int (pa_cons pe_int (pa_cons (pe_un un_neg pe_int) pa_nil))))) pa_nil)))) pa_nil))) pa_nil))) (pg_sub (pv 3) (pv 4) set_list))
        (pss_one (ps_ret (pe_tupleOf (by rfl) t.ztuple (pe_lc (own := [("_law_one", 5)]) rfl scDists.nd (pi_list (pv 3)) (blk_by ND (defScope sDists) (by decide +kernel)) (fun s H C cl fp => pg_name (i := 5) scDists.nd rfl (Or.inl rfl)) (fun s H C cl fp => pts_nil)
          (fun s H C cl fp => pe_callB (call_min2 rfl) (by rfl) t.zmin boot_min (pa_cons (pv 1) (pa_cons (pv 5) pa_nil)))))))))) pss_nil)
      (pss_one (ps_ret (pe_tupleOf (by rfl) t.ztuple (pe_lc (own := [("_law_k", 6)]) rfl scDists.nd (pi_range1 (by rfl) t.zrange (pa_cons (pe_op op_add pe_int (pe_call (ok_taken t) (hr.mono (by decide)) (by rfl) t.taken.m t.taken.F.kp t.taken.b .nil pass0 (pa_cons (pv 0) (pa_cons pe_int pa_nil)))) pa_nil))
          (blk_by ND (defScope sDists) (by decide +kernel)) (fun s H C cl fp => pg_name (i := 6) scDists.nd rfl (Or.inl rfl)) (fun s H C cl fp => pts_nil)
          (fun s H C cl fp => pe_op op_add pe_int (pe_call (ok_taken t) (by exact hr.mono (by decide)) (by rfl) t.taken.m t.taken.F.kp t.taken.b .nil pass0 (pa_cons (pv 0) (pa_cons (pv 1) pa_nil)))))))))), ?_⟩
    -- _law_full = [..]; _law_full = _law_full + [..]
    refine seq_lst (n := 10) (anew_cons (zs := [1]) (fun _ _ _ q => q) ⟨by decide, by decide, by decide⟩ (anew_cons (zs := [2, 2]) (fun _ _ _ q => q) ⟨by decide, by decide, by decide⟩ (anew_cons (zs := [2, 4, 4]) (fun _ _ _ q => q) ⟨by decide, by decide, by decide⟩ (anew_cons (zs := [3, 3, 3]) (fun _ _ _ q => q) ⟨by decide, by decide, by decide⟩ (anew_cons (zs := [2, 3, 6]) (fun _ _ _ q => q) ⟨by decide, by decide, by decide⟩ (anew_cons (zs := [2, 3, 5]) (fun _ _ _ q => q) ⟨by decide, by decide, by decide⟩ (anew_cons (zs := [2, 3]) (fun _ _ _ q => q) ⟨by decide, by decide, by decide⟩ (anew_cons (zs := [3, 3, 4]) (fun _ _ _ q => q) ⟨by decide, by decide, by decide⟩ (anew_cons (zs := [2, 4, 8, 8]) (fun _ _ _ q => q) ⟨by decide, by decide, by decide⟩ (anew_cons (zs := [3, 4, 5, 6]) (fun _ _ _ q => q) ⟨by decide, by decide, by decide⟩ anew_nil)))))))))) (by omega) fun L1 vs1 H1 s1 f1 e1 l1 g1 => ?_
    refine seq_cat (n := 8) (anew_cons (zs := [2, 3, 7]) (fun _ _ _ q => q) ⟨by decide, by decide, by decide⟩ (anew_cons (zs := [4, 4, 4, 4]) (fun _ _ _ q => q) ⟨by decide, by decide, by decide⟩ (anew_cons (zs := [3, 5, 5, 5]) (fun _ _ _ q => q) ⟨by decide, by decide, by decide⟩ (anew_cons (zs := [2, 5, 5]) (fun _ _ _ q => q) ⟨by decide, by decide, by decide⟩ (anew_cons (zs := [3, 4, 5]) (fun _ _ _ q => q) ⟨by decide, by decide, by decide⟩ (anew_cons (zs := [2, 6, 6, 6]) (fun _ _ _ q => q) ⟨by decide, by decide, by decide⟩ (anew_cons (zs := [4, 5, 5, 6]) (fun _ _ _ q => q) ⟨by decide, by decide, by decide⟩ (anew_cons (zs := [5, 5, 5, 5]) (fun _ _ _ q => q) ⟨by decide, by decide, by decide⟩ anew_nil)))))))) rfl e1 g1 (by omega) fun L3 vs H5 s2 f3 eA lA gA => ?_
    rw [l1] at lA
    have sA := s1.trans s2
    have nA : L3 ≠ row := by
      obtain ⟨i1, i2, i3, e, _⟩ := hrow.at_
      exact (ne_of_none (s1 _ _ e) f3).symm
    have fA : H L3 = none := by
      cases q : H L3 with
      | none => rfl
      | some o => rw [s1 _ _ q] at f3; cases f3
    have go1 : Go t.T row scr H H5 := (Go.refl hrow hT).grow (Gr.same hT sA)
    clear s1 s2 sA e1 g1 l1 f1 f3
    -- if _law_taken(_law_row, 2) == 0
    have r5 := hrow.go go1
    refine ⟨_, rfl, row, scr, ns, (2 : Int), rfl, r5, by omega, by omega, fun i1 i2 i3 c ha hb hc => ⟨rfl, _, rfl, ?_⟩⟩
    have go6 := go1.upRow (i1 := i1) (i2 := i2) (i3 := i3) ha
    have eB : upd H5 row (.lst [.ref scr, .int i1, .int i2, .int i3]) L3 = some (.lst vs) := by rw [upd_ne nA]; exact eA
    have gB : ∀ v ∈ vs, Good (upd H5 row (.lst [.ref scr, .int i1, .int i2, .int i3])) v := fun v hv => by
      obtain ⟨b, ds, h1, h2, h3⟩ := gA v hv
      obtain ⟨j1, j2, j3, e, _⟩ := r5.at_
      exact ⟨b, ds, h1, by rw [upd_ne (ne_of h2 e fun z => nomatch z)]; exact h2, h3⟩
    generalize upd H5 row (.lst [.ref scr, .int i1, .int i2, .int i3]) = H6 at go6 eB gB ⊢
    clear go1 r5 gA eA
    have r6 := hrow.go go6
    refine ite2 (fun _ => ?_) (fun _ => ?_)
    · -- _law_found = list(_law_pick(_law_row, _law_full))
      refine ⟨_, rfl, _, rfl, row, scr, L3, ns, vs, rfl, r6, eB, nA, by omega, by omega, fun i1 i2 i3 x ha hx => ?_⟩
      obtain ⟨b, ds, rfl, hb, hd⟩ := gB x hx
      have go7 := go6.upRow (i1 := i1) (i2 := i2) (i3 := i3) ha
      have hb7 : upd H6 row (.lst [.ref scr, .int i1, .int i2, .int i3]) b = some (.tup (ds.map V.int)) := by
        obtain ⟨j1, j2, j3, e, _⟩ := r6.at_
        rw [upd_ne (ne_of hb e fun z => nomatch z)]; exact hb
      generalize upd H6 row (.lst [.ref scr, .int i1, .int i2, .int i3]) = H7 at go7 hb7 ⊢
      refine ⟨b, _, rfl, .inr (SqT.of hb7), fun F hF => ?_⟩
      have nF : F ≠ row := by
        obtain ⟨j1, j2, j3, e, _⟩ := (hrow.go go7).at_
        exact (ne_of_none e hF).symm
      have fF : H F = none := by
        refine go7.gr.free hF ?_
        simpa using nF
      have go8 := go7.new (o := .lst (ds.map V.int)) hF
      have e8 : upd H7 F (.lst (ds.map V.int)) F = some (.lst (ds.map V.int)) := upd_same
      generalize upd H7 F (.lst (ds.map V.int)) = H8 at go8 e8 ⊢
      -- _law_at = _law_taken(_law_row, len(_law_found))
      have l1 := hd.l1
      have l4 := hd.l4
      refine ⟨_, rfl, _, rfl, _, _, rfl, .inl (SqL.of e8), row, scr, ns, _, rfl, hrow.go go8, by rw [List.length_map]; omega, by rw [List.length_map]; omega, fun i1 i2 i3 c ha hb hc => ?_⟩
      rw [List.length_map] at hc
      have go9 := go8.upRow (i1 := i1) (i2 := i2) (i3 := i3) ha
      have e9 : upd H8 row (.lst [.ref scr, .int i1, .int i2, .int i3]) F = some (.lst (ds.map V.int)) := by rw [upd_ne nF]; exact e8
      generalize upd H8 row (.lst [.ref scr, .int i1, .int i2, .int i3]) = H9 at go9 e9 ⊢
      have hi : c.toNat < ds.length := by omega
      have ec : c = ((c.toNat : Nat) : Int) := by omega
      have hat : atI (ds.map V.int) c = some (V.int ds[c.toNat]) := by
        have q := atI_nat (xs := ds.map V.int) (j := c.toNat) (v := V.int ds[c.toNat]) (by rw [List.getElem?_map, List.getElem?_eq_getElem hi]; rfl)
        rw [← ec] at q
        exact q
      have hix : ixN (ds.map V.int).length c = some c.toNat := by
        have q := ixN_at (n := (ds.map V.int).length) (j := c.toNat) (by rw [List.length_map]; exact hi)
        rw [← ec] at q
        exact q
      -- _law_found[_law_at] = max(1, min(_law_most, _law_found[_law_at] + _law_pick(_law_row, [0, 0, 1, -1])))
      refine ⟨_, rfl, _, rfl, _, rfl, F, _, c, _, rfl, rfl, SqL.of e9, hat, _, rfl, _, rfl, (by show 4 ≤ sizeLine; omega), fun L hL => ?_⟩
      have go10 := go9.new (o := .lst [V.int 0, .int 0, .int 1, .int (-1)]) hL
      have nL : L ≠ row := by
        obtain ⟨j1, j2, j3, e, _⟩ := (hrow.go go9).at_
        exact (ne_of_none e hL).symm
      have e10 : upd H9 L (.lst [V.int 0, .int 0, .int 1, .int (-1)]) F = some (.lst (ds.map V.int)) := by rw [upd_ne (ne_of_none e9 hL)]; exact e9
      refine ⟨row, scr, L, ns, _, rfl, hrow.go go10, upd_same, nL, by show 0 < 4; omega, by show 4 < _; omega, fun i1 i2 i3 x ha hx => ?_⟩
      obtain ⟨z, rfl⟩ : ∃ z, x = V.int z := by
        have : x = .int 0 ∨ x = .int 1 ∨ x = .int (-1) := by simpa using hx
        rcases this with e | e | e <;> exact ⟨_, e⟩
      have go11 := go10.upRow (i1 := i1) (i2 := i2) (i3 := i3) ha
      have e11 : upd (upd H9 L (.lst [V.int 0, .int 0, .int 1, .int (-1)])) row (.lst [.ref scr, .int i1, .int i2, .int i3]) F = some (.lst (ds.map V.int)) := by rw [upd_ne nF]; exact e10
      generalize upd (upd H9 L (.lst [V.int 0, .int 0, .int 1, .int (-1)])) row (.lst [.ref scr, .int i1, .int i2, .int i3]) = H11 at go11 e11 ⊢
      refine ⟨_, _, rfl, rfl, _, _, rfl, _, _, rfl, _, rfl, _, rfl, F, _, c, c.toNat, rfl, rfl, e11, hix, ?_⟩
      -- return tuple([min(_law_most, _law_one) for _law_one in _law_found])
      have hset : ∃ fs : List Int, (ds.map V.int).set c.toNat (V.int (if (if ds[c.toNat] + z < 8 then ds[c.toNat] + z else 8) > 1 then (if ds[c.toNat] + z < 8 then ds[c.toNat] + z else 8) else 1)) = fs.map V.int ∧ fs.length = ds.length ∧ ∀ y ∈ fs, 1 ≤ y ∧ y ≤ 8 := by
        refine ⟨ds.set c.toNat (if (if ds[c.toNat] + z < 8 then ds[c.toNat] + z else 8) > 1 then (if ds[c.toNat] + z < 8 then ds[c.toNat] + z else 8) else 1), by rw [List.map_set], List.length_set, fun y hy => ?_⟩
        rcases List.mem_or_eq_of_mem_set hy with q | q
        · exact hd.rg y q
        · rw [q]
          split
          · split
            · omega
            · omega
          · omega
      obtain ⟨fs, efs, lfs, gfs⟩ := hset
      rw [efs]
      have go12 := go11.put (o := .lst (fs.map V.int)) e11 (fun ps z => nomatch z) fF nF
      have e12 : upd H11 F (.lst (fs.map V.int)) F = some (.lst (fs.map V.int)) := upd_same
      generalize upd H11 F (.lst (fs.map V.int)) = H12 at go12 e12 ⊢
      refine ⟨_, rfl, F, rfl, ⟨_, SqL.of e12⟩, fun D0 hD0 => ?_⟩
      refine lc_it (walk_list (K := K) (a := F) (xs := fs.map V.int)) (fun i H' => ∃ acc : List Int, H' D0 = some (.lst (acc.map V.int)) ∧ Same H12 H' ∧ acc.length = i ∧ ∀ y ∈ acc, 1 ≤ y ∧ y ≤ 8) ?_ ?_ ?_ ?_
      · exact ⟨[], upd_same, same_new (Same.refl _) hD0, rfl, fun y hy => nomatch hy⟩
      · rintro i H' hi ⟨acc, h1, h2, _⟩
        exact SqL.of (h2 _ _ e12)
      · rintro i x H' H'' hi ⟨acc, h1, h2, h3, h4⟩ ⟨rfl, hx⟩
        rw [List.length_map] at hi
        rw [List.getElem?_map, List.getElem?_eq_getElem hi] at hx
        obtain rfl : V.int fs[i] = x := Option.some.inj hx
        have hy := gfs _ (List.getElem_mem hi)
        refine ⟨rfl, ?_⟩
        refine ⟨_, rfl, _, rfl, _, _, rfl, _, h1, by rw [List.length_map]; omega, acc ++ [if fs[i] < 8 then fs[i] else 8], by rw [upd_same, List.map_append]; rfl, fun a o e => ?_, by rw [List.length_append, h3]; rfl, fun y hy' => ?_⟩
        · by_cases q : a = D0
          · subst q; rw [hD0] at e; cases e
          · rw [upd_ne q]; exact h2 a o e
        · rcases List.mem_append.mp hy' with q | q
          · exact h4 y q
          · rw [List.mem_singleton.mp q]
            split <;> omega
      · rintro H' ⟨acc, h1, h2, h3, h4⟩
        rw [List.length_map] at h3
        refine .inl ⟨D0, _, rfl, SqL.of h1, fun p hp => ?_⟩
        exact k _ p acc ((go12.grow (Gr.same go12.gr.tb h2)).new hp) upd_same ⟨by omega, by omega, h4⟩
    · -- return tuple([1 + _law_taken(_law_row, _law_most) for _law_k in range(1 + _law_taken(_law_row, 4))])
      refine ⟨_, rfl, row, scr, ns, (4 : Int), rfl, r6, by omega, by omega, fun i1 i2 i3 c ha hb hc => ⟨_, _, rfl, rfl, _, rfl, by omega, by omega, fun D0 hD0 => ?_⟩⟩
      have go7 := go6.upRow (i1 := i1) (i2 := i2) (i3 := i3) ha
      generalize upd H6 row (.lst [.ref scr, .int i1, .int i2, .int i3]) = H7 at go7 hD0 ⊢
      have nD : D0 ≠ row := by
        obtain ⟨j1, j2, j3, e, _⟩ := (hrow.go go7).at_
        exact (ne_of_none e hD0).symm
      have fD : H D0 = none := go7.gr.free hD0 (by simpa using nD)
      refine lc_range (fun i H' => ∃ acc : List Int, H' D0 = some (.lst (acc.map V.int)) ∧ Go t.T row scr H H' ∧ acc.length = i ∧ ∀ y ∈ acc, 1 ≤ y ∧ y ≤ 8) ?_ ?_ ?_
      · exact ⟨[], upd_same, go7.new hD0, rfl, fun y hy => nomatch hy⟩
      · rintro i H' hi ⟨acc, h1, h2, h3, h4⟩
        refine ⟨rfl, ?_⟩
        refine ⟨_, rfl, _, rfl, row, scr, ns, (8 : Int), rfl, hrow.go h2, by omega, by omega, fun j1 j2 j3 d ha hb hc => ⟨_, _, rfl, rfl, ?_⟩⟩
        have g3 := h2.upRow (i1 := j1) (i2 := j2) (i3 := j3) ha
        have e3 : upd H' row (.lst [.ref scr, .int j1, .int j2, .int j3]) D0 = some (.lst (acc.map V.int)) := by rw [upd_ne nD]; exact h1
        refine ⟨_, e3, by rw [List.length_map]; omega, acc ++ [1 + d], by rw [upd_same, List.map_append]; rfl, g3.put e3 (fun ps z => nomatch z) fD nD, by rw [List.length_append, h3]; rfl, fun y hy' => ?_⟩
        rcases List.mem_append.mp hy' with q | q
        · exact h4 y q
        · rw [List.mem_singleton.mp q]
          omega
      · rintro H' ⟨acc, h1, h2, h3, h4⟩
        refine .inl ⟨D0, _, rfl, SqL.of h1, fun p hp => ?_⟩
        exact k _ p acc (h2.new hp) upd_same ⟨by omega, by omega, h4⟩
end
end Rg

namespace Rg
open PySem PySem.Spec PyProof.Rows L2 GxR RgG RgE RgR
/-- an item of a tuple that the law tries -/
inductive It0 (H : Hp) : V → Prop where
  | non : It0 H .non
  | bl (b : Bool) : It0 H (.bl b)
  | int (i : Int) : It0 H (.int i)
  | str (x : Str) (h : PyData.canLay0 (.str x) = true) : It0 H (.str x)
  | lst {a : Addr} {zs : List Int} (e : H a = some (.lst (zs.map V.int))) : It0 H (.ref a)
  | tup {a : Addr} {zs : List Int} (e : H a = some (.tup (zs.map V.int))) : It0 H (.ref a)
theorem It0.gr {T : List Addr} {H H' : Hp} {v : V} (h : It0 H v) (g : Gr T [] H H') : It0 H' v := by
  cases h with
  | non => exact .non
  | bl b => exact .bl b
  | int i => exact .int i
  | str x h => exact .str x h
  | lst e => exact .lst (g.lst e (by simp))
  | tup e => exact .tup (g.tup e (by simp))
theorem It0.same {H H' : Hp} {v : V} (h : It0 H v) (g : Same H H') : It0 H' v := by
  cases h with
  | non => exact .non
  | bl b => exact .bl b
  | int i => exact .int i
  | str x h => exact .str x h
  | lst e => exact .lst (g _ _ e)
  | tup e => exact .tup (g _ _ e)
theorem It0.ty {H : Hp} {v : V} (h : It0 H v) : Ty0 H v := by
  cases h with
  | non => exact True.intro
  | bl b => exact True.intro
  | int i => exact True.intro
  | str x h => exact True.intro
  | lst e => exact .inl ⟨_, e⟩
  | tup e => exact .inr ⟨_, e⟩
/-- flat data: no deeper than d -/
structure Fl (d : PyData) (n : Nat) : Prop where
  c : d.canLay0 = true
  d : d.depth ≤ n
theorem dp_ints {K : PySem.W.Frag} {H : Hp} : ∀ zs : List Int, ∃ ds, DpAll K H (zs.map V.int) ds ∧ PyData.canLayAll0 ds = true ∧ PyData.depthAll ds ≤ 0
  | [] => ⟨[], .nil, rfl, Nat.le_refl _⟩
  | z :: r => by
    obtain ⟨ds, h1, h2, h3⟩ := dp_ints (K := K) (H := H) r
    refine ⟨.int z :: ds, .cons (.int z) h1, ?_, ?_⟩
    · show (PyData.canLay0 (.int z) && PyData.canLayAll0 ds) = true
      rw [h2]; rfl
    · show max (PyData.depth (.int z)) (PyData.depthAll ds) ≤ 0
      exact Nat.max_le.mpr ⟨Nat.le_refl _, h3⟩
theorem It0.dp {K : PySem.W.Frag} {H : Hp} {v : V} (h : It0 H v) : ∃ d, Dp K H v d ∧ Fl d 1 := by
  cases h with
  | non => exact ⟨_, .non, rfl, Nat.zero_le _⟩
  | bl b => exact ⟨_, .bl b, rfl, Nat.zero_le _⟩
  | int i => exact ⟨_, .int i, rfl, Nat.zero_le _⟩
  | str x h => exact ⟨_, .str x, h, Nat.zero_le _⟩
  | @lst a zs e =>
    obtain ⟨ds, h1, h2, h3⟩ := dp_ints (K := K) (H := H) zs
    exact ⟨.list ds, .lst (SqL.of e) h1, h2, Nat.succ_le_succ h3⟩
  | @tup a zs e =>
    obtain ⟨ds, h1, h2, h3⟩ := dp_ints (K := K) (H := H) zs
    exact ⟨.tuple ds, .tup (SqT.of e) h1, h2, Nat.succ_le_succ h3⟩
theorem dp_items {K : PySem.W.Frag} {H : Hp} : ∀ {xs : List V}, (∀ x ∈ xs, It0 H x) → ∃ ds, DpAll K H xs ds ∧ PyData.canLayAll0 ds = true ∧ PyData.depthAll ds ≤ 1 ∧ ds.length = xs.length
  | [], _ => ⟨[], .nil, rfl, Nat.zero_le _, rfl⟩
  | x :: r, h => by
    obtain ⟨d, h1, h2⟩ := (h x (by simp)).dp (K := K)
    obtain ⟨ds, h3, h4, h5, h6⟩ := dp_items (K := K) (xs := r) fun y hy => h y (List.mem_cons_of_mem _ hy)
    refine ⟨d :: ds, .cons h1 h3, ?_, ?_, by rw [List.length_cons, h6]; rfl⟩
    · show (PyData.canLay0 d && PyData.canLayAll0 ds) = true
      rw [h2.c, h4]; rfl
    · show max (PyData.depth d) (PyData.depthAll ds) ≤ 1
      exact Nat.max_le.mpr ⟨h2.d, h5⟩
theorem eqv_nil (ds : List PyData) : PyData.eqvAll ds [] = ds.isEmpty := by
  cases ds <;> rfl
theorem shaped_of {d : PyData} (h1 : d.canLay0 = true) (h2 : d.depth ≤ 64) : SeqAt.shaped d = true := by
  unfold SeqAt.shaped
  rw [h1, decide_eq_true h2]
  rfl
/-- what the law answers of a tuple -/
def lawRing (ds : List Int) (xs : List V) : Bool := !xs.isEmpty && (xs.all fun x => okItem x ds.length) && (List.range ds.length).all fun k => RgM.lawK (ds.getD k 0) (bits k xs)
theorem prog_is_law {ds : List Int} (hd : Dist ds) (xs : List V) : progRing ds xs = lawRing ds xs := by
  unfold progRing lawRing
  congr 1
  have : ∀ k ∈ List.range ds.length, RgM.progK (ds.getD k 0) (bits k xs) = RgM.lawK (ds.getD k 0) (bits k xs) := fun k hk => by
    have hk' := List.mem_range.mp hk
    refine RgM.prog_law _ _ ?_
    rw [List.getD_eq_getElem?_getD, List.getElem?_eq_getElem hk']
    have := hd.rg _ (List.getElem_mem hk')
    show 0 < ds[k]
    omega
  exact all_congr' this
where
  all_congr' {α : Type} {l : List α} {f g : α → Bool} (h : ∀ x ∈ l, f x = g x) : l.all f = l.all g := by
    induction l with
    | nil => rfl
    | cons x r ih => rw [List.all_cons, List.all_cons, h x (by simp), ih fun y hy => h y (List.mem_cons_of_mem _ hy)]
theorem lawRing_false {ds : List Int} {xs : List V} {k : Nat} (hk : k < ds.length) (h : RgM.lawK (ds.getD k 0) (bits k xs) = false) : lawRing ds xs = false := by
  unfold lawRing
  have : ((List.range ds.length).all fun k => RgM.lawK (ds.getD k 0) (bits k xs)) = false := by
    rw [List.all_eq_false]
    exact ⟨k, List.mem_range.mpr hk, by rw [h]; exact Bool.false_ne_true⟩
  rw [this, Bool.and_false]
theorem lawRing_true {ds : List Int} {xs : List V} (h1 : xs ≠ []) (h2 : (xs.all fun x => okItem x ds.length) = true) (h3 : ∀ k, k < ds.length → RgM.lawK (ds.getD k 0) (bits k xs) = true) : lawRing ds xs = true := by
  unfold lawRing
  have : ((List.range ds.length).all fun k => RgM.lawK (ds.getD k 0) (bits k xs)) = true := by
    rw [List.all_eq_true]
    exact fun k hk => h3 k (List.mem_range.mp hk)
  rw [this, h2]
  cases xs with
  | nil => exact absurd rfl h1
  | cons x r => rfl
theorem bits_append (k : Nat) (xs ys : List V) : bits k (xs ++ ys) = bits k xs ++ bits k ys := by unfold bits; rw [List.map_append]
/-- some items that are no good -/
def someF (xs : List V) : List V := xs.filter fun x => decide (x ≠ .non)
def badF (n : Nat) (xs : List V) : List V := xs.filter fun x => !okItem x n
theorem bad_nil {n : Nat} {xs : List V} : (badF n (someF xs)).isEmpty = xs.all fun x => okItem x n := by
  unfold badF someF
  induction xs with
  | nil => rfl
  | cons x r ih =>
    rw [List.all_cons, List.filter_cons]
    by_cases h : x = .non
    · rw [if_neg (by simp [h]), ih]
      have : okItem x n = true := by rw [h]; rfl
      rw [this, Bool.true_and]
    · rw [if_pos (by simp [h]), List.filter_cons]
      cases e : okItem x n with
      | true => rw [if_neg (by simp), ih, Bool.true_and]
      | false => rw [if_pos (by simp), Bool.false_and]; rfl
theorem lawLoop_nil (d w : Int) : RgM.lawLoop d w [] = true := rfl
theorem lawLoop_cons (d w : Int) (b : Bool) (r : List Bool) : RgM.lawLoop d w (b :: r) = if (if b = true then 0 else w + 1) = d then false else RgM.lawLoop d (if b = true then 0 else w + 1) r := rfl
theorem in_some {k : Nat} {n : Int} {xs : List V} (h : (xs.all fun x => okItem x n) = true) : inV (.int (k : Int)) (someF xs) = (bits k xs).any id ∧ (someF xs).all flatV = true := by
  unfold inV someF bits
  induction xs with
  | nil => exact ⟨rfl, rfl⟩
  | cons x r ih =>
    rw [List.all_cons, Bool.and_eq_true] at h
    obtain ⟨h1, h2⟩ := h
    obtain ⟨i1, i2⟩ := ih h2
    rw [List.filter_cons, List.map_cons, List.any_cons]
    rcases okItem_cases h1 with rfl | ⟨i, rfl⟩
    · rw [if_neg (by simp)]
      refine ⟨?_, i2⟩
      rw [i1]
      rfl
    · rw [if_pos (by simp), List.any_cons, List.all_cons, i1, i2]
      refine ⟨?_, rfl⟩
      congr 1
      show (i == (k : Int)) = decide (V.int i = V.int (k : Int))
      have e : (V.int i = V.int (k : Int)) ↔ i = (k : Int) := ⟨fun z => by cases z; rfl, fun z => by rw [z]⟩
      by_cases z : i = (k : Int)
      · rw [decide_eq_true (e.mpr z), z]; exact beq_self_eq_true _
      · rw [decide_eq_false (fun y => z (e.mp y))]; exact beq_eq_false_iff_ne.mpr z
end Rg

namespace Rg
open PySem PySem.Spec PyProof.Rows L2 GxR RgG RgE RgR
abbrev NI : List Str := ["_law_distances_here", "_law_value", "_law_one", "_law_some", "_law_k", "_law_wait"]
theorem scIs : FnScope NI ["_law_distances_here", "_law_value"] (defScope sIsRing) := ⟨rfl, rfl, rfl, by decide +kernel, rfl, by decide +kernel, by decide +kernel⟩
abbrev rLenK (K : PySem.W.Frag) : List V → Hp → VK → Prop := fun xs H Q => ∃ p ys, xs = [V.ref p] ∧ (SqL K H p ys ∨ SqT K H p ys) ∧ Q (.int ys.length) H
def tBad (K : PySem.W.Frag) : TT := tOr (tNot (tB (tCB (rIsi K) (tCons (tVar 2) (tCons (tC (.ty "int")) tNil))))) (tOr (tB (tCB (rIsi K) (tCons (tVar 2) (tCons (tC (.ty "bool")) tNil))))
  (tNot (tTest (tChain (rI0 fun i j => .bl (decide (i ≤ j))) (rI0 fun i j => .bl (decide (i < j))) (tC (.int 0)) (tVar 2) (tCB (rLenK K) (tCons (tVar 0) tNil))))))
theorem bad_reads {K : PySem.W.Frag} {σ : L2.St} {H : Hp} {Q : Bool → Hp → Prop} {x : V} {a : Addr} {ys : List V} (h2 : σ[2]? = some (some x)) (h0 : σ[0]? = some (some (.ref a))) (ha : H a = some (.tup ys)) (it : It0 H x) (hn : x ≠ .non) (k : Q (!okItem x ys.length) H) : tBad K σ H Q := by
  unfold tBad
  cases it with
  | non => exact absurd rfl hn
  | bl b =>
    refine ⟨_, h2, _, _, _, _, true, rfl, .ty _, .base (.bl b), kit_ty (by decide +kernel), _, rfl, ?_⟩
    refine iteF ?_
    refine ⟨_, h2, _, _, _, _, true, rfl, .ty _, .base (.bl b), kit_ty (by decide +kernel), _, rfl, ?_⟩
    refine iteT ?_
    exact k
  | int i =>
    refine ⟨_, h2, _, _, _, _, true, rfl, .ty _, .base (.int i), kit_ty (by decide +kernel), _, rfl, ?_⟩
    refine iteF ?_
    refine ⟨_, h2, _, _, _, _, false, rfl, .ty _, .base (.int i), kit_ty (by decide +kernel), _, rfl, ?_⟩
    refine iteF ?_
    refine ⟨_, h2, _, _, rfl, rfl, _, rfl, ?_⟩
    by_cases h : (0 : Int) ≤ i
    · rw [if_pos (decide_eq_true h)]
      refine ⟨_, h0, _, _, rfl, .inr (SqT.of ha), _, _, rfl, rfl, _, rfl, ?_⟩
      have e : okItem (.int i) ys.length = decide (i < (ys.length : Int)) := by
        show (decide (V.int i = V.non) || (decide (0 ≤ i) && decide (i ≤ (ys.length : Int) - 1))) = _
        rw [decide_eq_false (fun z => nomatch z), decide_eq_true h, Bool.false_or, Bool.true_and]
        exact decide_eq_decide.mpr (by omega)
      rw [e] at k
      exact k
    · rw [if_neg (by simpa using h)]
      refine ⟨_, rfl, ?_⟩
      have e : okItem (.int i) ys.length = false := by
        show (decide (V.int i = V.non) || (decide (0 ≤ i) && decide (i ≤ (ys.length : Int) - 1))) = _
        rw [decide_eq_false (fun z => nomatch z), decide_eq_false h, Bool.false_or, Bool.false_and]
      rw [e] at k
      exact k
  | str x h =>
    refine ⟨_, h2, _, _, _, _, false, rfl, .ty _, .base (.str x), kit_ty (by decide +kernel), _, rfl, ?_⟩
    refine iteT ?_
    exact k
  | lst e =>
    refine ⟨_, h2, _, _, _, _, false, rfl, .ty _, .base (.lst e), kit_ty (by decide +kernel), _, rfl, ?_⟩
    refine iteT ?_
    exact k
  | tup e =>
    refine ⟨_, h2, _, _, _, _, false, rfl, .ty _, .base (.tup e), kit_ty (by decide +kernel), _, rfl, ?_⟩
    refine iteT ?_
    exact k
section
variable {P : Program} {w : World} {K : PySem.W.Frag} {mg : Str → Option Value} {base : Heap}
def spIs : Sp := fun vs H Q _ => ∃ (a : Addr) (ds : List Int) (v : V), vs = [.ref a, v] ∧ H a = some (.tup (ds.map V.int)) ∧ Dist ds ∧
  ((NotT H v ∧ ∀ H', Same H H' → Q (.bl false) H') ∨ ∃ b xs, v = .ref b ∧ H b = some (.tup xs) ∧ xs.length ≤ 100000 ∧ (∀ x ∈ xs, It0 H x) ∧ ∀ H', Same H H' → Q (.bl (lawRing ds xs)) H')
theorem ok_is (t : Tx K mg) : FnOk P w K mg base CX0 1 t.isRing.f t.isRing.fd ["_law_distances_here", "_law_value"] spIs := by
  refine t.isRing.F.ok scIs (fun vs H Q E h => ?_) (fun cdv A outer s H vs Q E hr h => ?_)
  · obtain ⟨a, ds, v, rfl, _⟩ := h
    rfl
  · obtain ⟨a, ds, v, rfl, ha, hd, h⟩ := h
    have sz : sizeLine = 16777216 := sizeLine_eq
    refine ⟨_, pss_cons (ps_if (PW.pt (pw_or (pt_not (pt_val (pe_callB call_isi (by rfl) t.zisi boot_isinstance (pa_cons (pv 1) (pa_cons (pe_bltn (v := .ty "tuple") (by rfl) t.ztuple boot_tuple rfl) pa_nil))))) (pw_or1 (pt_cmpR (op_eqD hr.units) (pv 1) (pe_tup pa_nil) (nomark _))))) (pss_one (ps_ret pe_bl)) pss_nil)
      (pss_cons (ps_setLc (i := 3) (own := [("_law_one", 2)]) rfl scIs.nd rfl rfl (by rfl) (pi_tup (pv 1)) (blk_by NI (defScope sIsRing) (by decide +kernel)) (fun s H C cl fp => pg_name (i := 2) scIs.nd rfl (Or.inl rfl) (Or.inr rfl)) (fun s H C cl fp => pts_one (pt_cmp (pc_notN (pv 2)))) (fun s H C cl fp => pv 2))
      (pss_cons (ps_if (pt_cmpR (op_neD hr.units) (pe_lc (own := [("_law_one", 2)]) rfl scIs.nd (pi_list (pv 3)) (blk_by NI (defScope sIsRing) (by decide +kernel)) (fun s H C cl fp => pg_name (i := 2) scIs.nd rfl (Or.inl rfl) (Or.inr rfl))
          (fun s H C cl fp => pts_one (PW.pt (pw_or (pt_not (pt_val (pe_callB (show CallR _ (.builtin "isinstance") (rIsi K) from call_isi) (by rfl) t.zisi boot_isinstance (pa_cons (pv 2) (pa_cons (pe_bltn (v := .ty "int") (by rfl) t.zint boot_int rfl) pa_nil)))))
            (pw_or (pt_val (pe_callB (show CallR _ (.builtin "isinstance") (rIsi K) from call_isi) (by rfl) t.zisi boot_isinstance (pa_cons (pv 2) (pa_cons (pe_bltn (v := .ty "bool") (by rfl) t.zbool boot_bool rfl) pa_nil))))
              (pw_or1 (pt_not (pt_chain op_le op_lt pe_int (pv 2) (pe_callB (show CallR _ (.builtin "len") (rLenK K) from call_len_seq) (by rfl) t.zlen PySem.boot_len (pa_cons (pv 0) pa_nil)))))))))
          (fun s H C cl fp => pv 2)) (pe_lst pa_nil) (nomark _)) (pss_one (ps_ret pe_bl)) pss_nil)
      (pss_cons (ps_for PassesOwn.never rfl (pi_range1 (by rfl) t.zrange (pa_cons (pe_callB call_len_seq (by rfl) t.zlen PySem.boot_len (pa_cons (pv 0) pa_nil)) pa_nil)) (pg_name (i := 4) scIs.nd rfl (Or.inl rfl))
        (pss_cons (ps_set (i := 5) scIs.nd rfl (Or.inl rfl) pe_int)
        (pss_cons (ps_for PassesOwn.never rfl (pi_tup (pe_op op_catA (pv 1) (pv 1))) (pg_name (i := 2) scIs.nd rfl (Or.inl rfl))
          (pss_cons (ps_set (i := 5) scIs.nd rfl (Or.inl rfl) (pe_ifExp (PW.pt (pw_and (pt_cmpR op_eq (pv 2) (pv 4) (nomark _)) (pw_and1 (pt_cmp (pc_notN (pv 2)))))) pe_int (pe_op op_add (pv 5) pe_int)))
          (pss_one (ps_if (pt_cmpR op_eq (pv 5) (pe_ix ix_tup (pv 0) (pv 4) (fun _ _ => rfl)) (nomark _)) (pss_one (ps_ret pe_bl)) pss_nil))))
        (pss_one (ps_if (pt_cmpR op_notIn_seq (pv 4) (pv 3) (by with_unfolding_all rfl)) (pss_one (ps_ret pe_bl)) pss_nil)))))
      (pss_one (ps_ret pe_bl))))), ?_⟩
    rcases h with ⟨hn, k1⟩ | ⟨b, xs, rfl, hb, hlen, hit, k2⟩
    · obtain ⟨n, ty, kb⟩ := hn.ty (K := K)
      refine ⟨_, rfl, _, _, _, _, false, rfl, .ty _, .base ty, kit_ty kb, _, rfl, ?_⟩
      refine iteT ?_
      exact k1 _ (Same.refl _)
    · refine ⟨_, rfl, _, _, _, _, true, rfl, .ty _, .base (.tup hb), kit_ty (by decide +kernel), _, rfl, ?_⟩
      refine iteF ?_
      -- _law_value == ()
      refine ⟨_, rfl, (by show 0 ≤ sizeLine; omega), fun tp htp => ?_⟩
      have s1 : Same H (upd H tp (.tup [])) := same_new (Same.refl _) htp
      have e1 : upd H tp (.tup []) tp = some (.tup []) := upd_same
      generalize upd H tp (.tup []) = H1 at s1 e1 ⊢
      obtain ⟨dd, d1, d2, d3, d4⟩ := dp_items (K := K) (H := H1) (xs := xs) fun x hx => (hit x hx).same s1
      refine ⟨.tuple dd, .tuple [], .tup (SqT.of (s1 _ _ hb)) d1, .tup (SqT.of e1) .nil, shaped_of d2 (by show PyData.depthAll dd + 1 ≤ 64; omega), shaped_of rfl (by decide), _, rfl, ?_⟩
      have ee : PyData.eqv (.tuple dd) (.tuple []) = xs.isEmpty := by
        show PyData.eqvAll dd [] = _
        rw [eqv_nil]
        cases xs with
        | nil => rw [List.length_eq_zero_iff.mp d4]; rfl
        | cons x r =>
          cases dd with
          | nil => cases d4
          | cons y q => rfl
      rw [ee]
      by_cases hne : xs = []
      · subst hne
        refine iteT ?_
        exact k2 _ s1
      have hemp : xs.isEmpty = false := by
        cases xs with
        | nil => exact absurd rfl hne
        | cons x r => rfl
      rw [hemp]
      refine iteF ?_
      clear ee d1 d2 d3 d4
      -- _law_some = [..]
      have hb1 := s1 _ _ hb
      refine ⟨_, rfl, b, rfl, ⟨_, SqT.of hb1⟩, fun S hS => ?_⟩
      refine lc_it (walk_tup (K := K) (a := b) (xs := xs)) (fun i H' => H' S = some (.lst (someF (xs.take i))) ∧ Same H1 H') ?_ ?_ ?_ ?_
      · exact ⟨upd_same, same_new (Same.refl _) hS⟩
      · rintro i H' hi ⟨h1, h2⟩
        exact SqT.of (h2 _ _ hb1)
      · rintro i x H2 H3 hi ⟨h1, h2⟩ ⟨rfl, hx⟩
        refine ⟨rfl, ?_⟩
        have ex : xs.take (i + 1) = xs.take i ++ [x] := by rw [List.take_succ, hx]; rfl
        refine ⟨_, rfl, _, rfl, ?_⟩
        by_cases hn : x = .non
        · have e : (!decide (x = V.non)) = false := by rw [decide_eq_true hn]; rfl
          rw [e]
          refine iteF ?_
          refine ⟨?_, h2⟩
          rw [ex]
          unfold someF at h1 ⊢
          rw [List.filter_append, List.filter_cons, if_neg (by simp [hn]), List.filter_nil, List.append_nil]
          exact h1
        · have e : (!decide (x = V.non)) = true := by rw [decide_eq_false hn]; rfl
          rw [e]
          refine iteT ?_
          refine ⟨_, rfl, _, h1, ?_, ?_, fun c o q => ?_⟩
          · have := List.length_filter_le (fun x => decide (x ≠ V.non)) (xs.take i)
            rw [List.length_take] at this
            show (List.filter _ _).length < _
            omega
          · rw [upd_same, ex]
            unfold someF
            rw [List.filter_append, List.filter_cons, if_pos (by simp [hn])]
            rfl
          · by_cases z : c = S
            · subst z; rw [hS] at q; cases q
            · rw [upd_ne z]; exact h2 c o q
      · rintro H2 ⟨h1, h2⟩
        rw [List.take_length] at h1
        have s2 : Same H H2 := s1.trans h2
        have lsome : (someF xs).length ≤ 100000 := Nat.le_trans (List.length_filter_le _ _) hlen
        -- if [..] != []
        refine ⟨_, rfl, S, rfl, ⟨_, SqL.of h1⟩, fun D hD => ?_⟩
        refine lc_it (walk_list (K := K) (a := S) (xs := someF xs)) (fun i H' => H' D = some (.lst (badF ds.length ((someF xs).take i))) ∧ Same H2 H') ?_ ?_ ?_ ?_
        · exact ⟨upd_same, same_new (Same.refl _) hD⟩
        · rintro i H' hi ⟨g1, g2⟩
          exact SqL.of (g2 _ _ h1)
        · rintro i x H3 H4 hi ⟨g1, g2⟩ ⟨rfl, hx⟩
          refine ⟨rfl, ?_⟩
          have ex : (someF xs).take (i + 1) = (someF xs).take i ++ [x] := by rw [List.take_succ, hx]; rfl
          have hxm : x ∈ someF xs := List.mem_of_getElem? hx
          have hxm2 := List.mem_filter.mp hxm
          have s3 : Same H H4 := s2.trans g2
          refine bad_reads (x := x) (a := a) (ys := ds.map V.int) rfl rfl (s3 _ _ ha) ((hit x hxm2.1).same s3) (of_decide_eq_true hxm2.2) ?_
          rw [List.length_map]
          cases hok : okItem x ds.length with
          | true =>
            refine iteF ?_
            refine ⟨?_, g2⟩
            rw [ex]
            unfold badF at g1 ⊢
            rw [List.filter_append, List.filter_cons, if_neg (by simp [hok]), List.filter_nil, List.append_nil]
            exact g1
          | false =>
            refine iteT ?_
            refine ⟨_, rfl, _, g1, ?_, ?_, fun c o q => ?_⟩
            · have := List.length_filter_le (fun x => !okItem x ds.length) ((someF xs).take i)
              rw [List.length_take] at this
              show (List.filter _ _).length < _
              omega
            · rw [upd_same, ex]
              unfold badF
              rw [List.filter_append, List.filter_cons, if_pos (by simp [hok])]
              rfl
            · by_cases z : c = D
              · subst z; rw [hD] at q; cases q
              · rw [upd_ne z]; exact g2 c o q
        · rintro H3 ⟨g1, g2⟩
          rw [List.take_length] at g1
          have s3 : Same H H3 := s2.trans g2
          refine ⟨(by show 0 ≤ sizeLine; omega), fun p hp => ?_⟩
          have s4 : Same H3 (upd H3 p (.lst [])) := same_new (Same.refl _) hp
          have e4 : upd H3 p (.lst []) p = some (.lst []) := upd_same
          generalize upd H3 p (.lst []) = H4 at s4 e4 ⊢
          have s5 : Same H H4 := s3.trans s4
          obtain ⟨dd, d1, d2, d3, d4⟩ := dp_items (K := K) (H := H4) (xs := badF ds.length (someF xs)) fun x hx => (hit x (List.mem_filter.mp (List.mem_filter.mp hx).1).1).same s5
          refine ⟨.list dd, .list [], .lst (SqL.of (s4 _ _ g1)) d1, .lst (SqL.of e4) .nil, shaped_of d2 (by show PyData.depthAll dd + 1 ≤ 64; omega), shaped_of rfl (by decide), _, rfl, ?_⟩
          have ee : PyData.eqv (.list dd) (.list []) = (badF ds.length (someF xs)).isEmpty := by
            show PyData.eqvAll dd [] = _
            rw [eqv_nil]
            cases q : badF ds.length (someF xs) with
            | nil => rw [q] at d4; rw [List.length_eq_zero_iff.mp d4]; rfl
            | cons x r =>
              rw [q] at d4
              cases dd with
              | nil => cases d4
              | cons y q => rfl
          rw [ee, bad_nil]
          cases hall : xs.all fun x => okItem x (ds.length : Nat) with
          | false =>
            refine iteT ?_
            have : lawRing ds xs = false := by unfold lawRing; rw [hall, Bool.and_false, Bool.false_and]
            rw [this] at k2
            exact k2 _ s5
          | true =>
            refine iteF ?_
            have hok : ∀ x ∈ xs, x = .non ∨ ∃ i, x = .int i := fun x hx => okItem_cases (List.all_eq_true.mp hall x hx)
            have e5 : H4 S = some (.lst (someF xs)) := s4 _ _ (g2 _ _ h1)
            clear d1 d2 d3 d4 ee g1 e4 hD hS htp hp hb1
            have ha4 := s5 _ _ ha
            have hb4 := s5 _ _ hb
            -- for _law_k in range(..)
            refine ⟨_, rfl, _, _, rfl, .inr (SqT.of ha4), _, rfl, by omega, by rw [List.length_map]; have := hd.l4; omega, ?_⟩
            rw [List.length_map]
            refine for_range (fun i σ' H' => ∃ u2 u4 u5 : Option V, σ' = [some (.ref a), some (.ref b), u2, some (.ref S), u4, u5] ∧ Same H4 H' ∧ ∀ k, k < i → RgM.lawK (ds.getD k 0) (bits k xs) = true) ?_ ?_ ?_
            · exact ⟨_, _, _, rfl, Same.refl _, fun k hk => absurd hk (Nat.not_lt_zero k)⟩
            · rintro i σ5 H5 hi ⟨u2, u4, u5, rfl, s6, hp⟩
              have hi2 : i < ds.length := by omega
              have ei : (0 : Int) + (i : Int) = (i : Int) := by omega
              rw [ei]
              have hb5 := s6 _ _ hb4
              -- _law_wait = 0; for _law_one in _law_value + _law_value
              refine ⟨_, rfl, _, rfl, b, b, xs, xs, rfl, rfl, SqT.of hb5, SqT.of hb5, by omega, (fun z => absurd z hne), (fun _ z => absurd z hne), fun _ _ p hp5 => ?_⟩
              have s7 : Same H4 (upd H5 p (.tup (xs ++ xs))) := s6.trans (same_new (Same.refl _) hp5)
              have e7 : upd H5 p (.tup (xs ++ xs)) p = some (.tup (xs ++ xs)) := upd_same
              generalize upd H5 p (.tup (xs ++ xs)) = H7 at s7 e7 ⊢
              refine ⟨p, rfl, ⟨_, SqT.of e7⟩, ?_⟩
              have ha7 := s7 _ _ ha4
              have hdk : ds.getD i 0 = ds[i] := by rw [List.getD_eq_getElem?_getD, List.getElem?_eq_getElem hi2]; rfl
              refine for_it (walk_tup (K := K) (a := p) (xs := xs ++ xs)) (fun j σ' H' => ∃ (u2 : Option V) (w : Int), σ' = [some (.ref a), some (.ref b), u2, some (.ref S), some (.int (i : Int)), some (.int w)] ∧ H' = H7 ∧ RgM.lawLoop (ds.getD i 0) 0 (bits i (xs ++ xs)) = RgM.lawLoop (ds.getD i 0) w ((bits i (xs ++ xs)).drop j)) ?_ ?_ ?_ ?_
              · exact ⟨_, 0, rfl, rfl, rfl⟩
              · rintro j σ' H' hj ⟨v2, w', rfl, rfl, _⟩
                exact SqT.of e7
              · rintro j x σ' H' H'' hj ⟨v2, w', rfl, rfl, hl⟩ ⟨rfl, hx⟩
                have hxm : x ∈ xs := by
                  rcases List.mem_append.mp (List.mem_of_getElem? hx) with z | z <;> exact z
                have hj2 : j < (bits i (xs ++ xs)).length := by unfold bits; rw [List.length_map]; exact hj
                have hbit : (bits i (xs ++ xs))[j] = decide (x = V.int (i : Int)) := by
                  have q : (bits i (xs ++ xs))[j]? = some (decide (x = V.int (i : Int))) := by unfold bits; rw [List.getElem?_map, hx]; rfl
                  rw [List.getElem?_eq_getElem hj2] at q
                  exact Option.some.inj q
                rw [List.drop_eq_getElem_cons hj2, lawLoop_cons, hbit] at hl
                have hat : atI (ds.map V.int) (i : Int) = some (V.int ds[i]) := atI_nat (by rw [List.getElem?_map, List.getElem?_eq_getElem hi2]; rfl)
                -- what stands in _law_wait
                refine ⟨_, rfl, _, rfl, (by rcases hok _ hxm with e | ⟨z, e⟩ <;> rw [e] <;> rfl), _, rfl, ?_⟩
                refine ite2 (fun hc => ?_) (fun hc => ?_)
                · have hx2 : x = V.int (i : Int) := of_decide_eq_true hc
                  refine ⟨_, rfl, _, rfl, ?_⟩
                  have hnn : (!decide (x = V.non)) = true := by rw [hx2]; rfl
                  rw [hnn]
                  refine iteT ?_
                  refine ⟨_, rfl, _, rfl, _, rfl, a, ds.map V.int, (i : Int), V.int ds[i], rfl, rfl, SqT.of ha7, hat, rfl, _, rfl, ?_⟩
                  rw [if_pos hc] at hl
                  refine ite2 (fun hw => ?_) (fun hw => ?_)
                  · have hw2 := of_decide_eq_true hw
                    have hz : RgM.lawLoop (ds.getD i 0) 0 (bits i (xs ++ xs)) = false := by
                      rw [hl, if_pos (by rw [hdk]; injection hw2)]
                    rw [bits_append] at hz
                    rw [lawRing_false hi2 (by unfold RgM.lawK; rw [hz, Bool.false_and])] at k2
                    exact k2 _ (s5.trans s7)
                  · refine ⟨_, _, rfl, rfl, ?_⟩
                    rw [hl, if_neg (fun z => hw (decide_eq_true (by rw [hdk] at z; exact congrArg V.int z)))]
                · refine iteF ?_
                  refine ⟨_, rfl, _, _, rfl, rfl, _, rfl, _, rfl, _, rfl, a, ds.map V.int, (i : Int), V.int ds[i], rfl, rfl, SqT.of ha7, hat, rfl, _, rfl, ?_⟩
                  rw [if_neg hc] at hl
                  refine ite2 (fun hw => ?_) (fun hw => ?_)
                  · have hw2 := of_decide_eq_true hw
                    have hz : RgM.lawLoop (ds.getD i 0) 0 (bits i (xs ++ xs)) = false := by
                      rw [hl, if_pos (by rw [hdk]; injection hw2)]
                    rw [bits_append] at hz
                    rw [lawRing_false hi2 (by unfold RgM.lawK; rw [hz, Bool.false_and])] at k2
                    exact k2 _ (s5.trans s7)
                  · refine ⟨_, _, rfl, rfl, ?_⟩
                    rw [hl, if_neg (fun z => hw (decide_eq_true (by rw [hdk] at z; exact congrArg V.int z)))]
              · rintro σ' H' ⟨v2, w', rfl, rfl, hl⟩
                have hdr : (bits i (xs ++ xs)).drop (xs ++ xs).length = [] := List.drop_eq_nil_of_le (by unfold bits; rw [List.length_map]; exact Nat.le_refl _)
                rw [hdr, lawLoop_nil, bits_append] at hl
                obtain ⟨q1, q2⟩ := in_some (k := i) hall
                refine ⟨_, rfl, _, rfl, S, _, rfl, .inl (SqL.of (s7 _ _ e5)), rfl, q2, _, rfl, ?_⟩
                rw [if_pos rfl, q1]
                cases hany : (bits i xs).any id with
                | false =>
                  refine iteT ?_
                  rw [lawRing_false hi2 (by unfold RgM.lawK; rw [hany, Bool.and_false])] at k2
                  exact k2 _ (s5.trans s7)
                | true =>
                  refine iteF ?_
                  refine ⟨_, _, _, rfl, s7, fun k hk => ?_⟩
                  by_cases z : k = i
                  · rw [z]; unfold RgM.lawK; rw [hl, hany]; rfl
                  · exact hp k (by omega)
            · rintro σ5 H5 ⟨u2, u4, u5, rfl, s6, hp⟩
              rw [lawRing_true hne hall (fun k hk => hp k (by omega))] at k2
              exact k2 _ (s5.trans s6)
end
end Rg

namespace Rg
open PySem PySem.Spec PyProof.Rows L2 GxR RgG RgE RgR
abbrev NL : List Str := ["_law_script", "_law_row", "_law_turn", "_law_distances_here", "_law_many", "_law_base", "_law_at", "_law_cut", "_law_values", "_law_one", "_law_value", "_law_k"]
theorem scLaw : FnScope NL ["_law_script"] (defScope sLaw) := ⟨rfl, rfl, rfl, by decide +kernel, rfl, by decide +kernel, by decide +kernel⟩
abbrev XL (P : Program) (w : World) {K : PySem.W.Frag} {mg : Str → Option Value} (base : Heap) (f : Addr) (cdv : Value) (A : Around) (outer : List Env) (s : Shared) (H : Hp) (E : XK) : Cx :=
  (cxOf CX0 P w K mg base NL "law" (defScope sLaw) f cdv A outer s H E).nox
/-- the body of the law's for -/
def lawFor : List Stmt := match (defBody sLaw).getD 1 (.Pass ⟨0, 0, 0, 0⟩) with | .For _ _ b _ _ => b | _ => []
def stL (i : Nat) : Stmt := lawFor.getD i (.Pass ⟨0, 0, 0, 0⟩)
section
variable {P : Program} {w : World} {K : PySem.W.Frag} {mg : Str → Option Value} {base : Heap}
/-- at the head of a turn -/
def PreL (T : List Addr) (K : PySem.W.Frag) (row scr : Addr) (ns : List Int) (σ : L2.St) (H : Hp) : Prop := (∃ u2 u3 u4 u5 u6 u7 u8 u9 u10 u11 : Option V, σ = [some (.ref scr), some (.ref row), u2, u3, u4, u5, u6, u7, u8, u9, u10, u11]) ∧ Row K H row scr ns ∧ TbG T H
/-- the distances and the base are made -/
def PostA (T : List Addr) (K : PySem.W.Frag) (row scr : Addr) (ns : List Int) (σ : L2.St) (H : Hp) : Prop := ∃ (DA BA : Addr) (ds zs : List Int) (u2 u6 u7 u8 u9 u10 u11 : Option V), σ = [some (.ref scr), some (.ref row), u2, some (.ref DA), some (.int (ds.length : Int)), some (.ref BA), u6, u7, u8, u9, u10, u11] ∧
  Row K H row scr ns ∧ TbG T H ∧ H DA = some (.tup (ds.map V.int)) ∧ Dist ds ∧ H BA = some (.tup (zs.map V.int)) ∧ zs ≠ [] ∧ zs.length ≤ 6561
theorem law_a (t : Tx K mg) (B : TabsB t base) {f : Addr} {cdv : Value} {A : Around} {outer : List Env} {s : Shared} {H0 : Hp} {E : XK} (hr : Room 3 (XL P w (K := K) (mg := mg) base f cdv A outer s H0 E).A) :
    ∃ t0 t1 t2 t3, PS (XL P w (K := K) (mg := mg) base f cdv A outer s H0 E) (stL 0) t0 ∧ PS (XL P w (K := K) (mg := mg) base f cdv A outer s H0 E) (stL 1) t1 ∧ PS (XL P w (K := K) (mg := mg) base f cdv A outer s H0 E) (stL 2) t2 ∧ PS (XL P w (K := K) (mg := mg) base f cdv A outer s H0 E) (stL 3) t3 ∧
      ∀ (row scr : Addr) (ns : List Int) (D : Ends) (u : TS) (σ : L2.St) (H : Hp), PreL t.T K row scr ns σ H → (∀ σ' H', PostA t.T K row scr ns σ' H' → u D σ' H') → tSeq t0 (tSeq t1 (tSeq t2 (tSeq t3 u))) D σ H := by
  have sz : sizeLine = 16777216 := sizeLine_eq
  refine ⟨_, _, _, _, ps_set (i := 3) scLaw.nd rfl (Or.inl rfl) (pe_call (ok_dists t) hr (by rfl) t.dists.m t.dists.F.kp t.dists.b .nil pass0 (pa_cons (pv 1) (pa_cons pe_int pa_nil))),
    ps_set (i := 4) scLaw.nd rfl (Or.inr rfl) (pe_callB call_len_seq (by rfl) t.zlen PySem.boot_len (pa_cons (pv 3) pa_nil)),
    ps_set (i := 5) scLaw.nd rfl (Or.inl rfl) (pe_ifExp (pt_cmpR op_gt (pe_call (ok_taken t) (hr.mono (by decide)) (by rfl) t.taken.m t.taken.F.kp t.taken.b .nil pass0 (pa_cons (pv 1) (pa_cons pe_int pa_nil))) pe_int (nomark _))
      (pe_call (ok_ring t B) hr (by rfl) t.ring.m t.ring.F.kp t.ring.b .nil pass0 (pa_cons (pv 3) pa_nil)) pe_non),
    ps_if (PW.pt (pw_or (pt_not (pt_val (pe_callB call_isi (by rfl) t.zisi boot_isinstance (pa_cons (pv 5) (pa_cons (pe_bltn (v := .ty "tuple") (by rfl) t.ztuple boot_tuple rfl) pa_nil))))) (pw_or1 (pt_cmpR (op_eqD hr.units) (pv 5) (pe_tup pa_nil) (nomark _)))))
      (pss_one (ps_set (i := 5) scLaw.nd rfl (Or.inl rfl) (pe_tupleOf (by rfl) t.ztuple (pe_lc (own := [("_law_k", 11)]) rfl scLaw.nd (pi_range1 (by rfl) t.zrange (pa_cons (pe_op op_add pe_int (pe_call (ok_taken t) (hr.mono (by decide)) (by rfl) t.taken.m t.taken.F.kp t.taken.b .nil pass0 (pa_cons (pv 1) (pa_cons pe_int pa_nil)))) pa_nil))
        (blk_by NL (defScope sLaw) (by decide +kernel)) (fun s H C cl fp => pg_name (i := 11) scLaw.nd rfl (Or.inl rfl) (Or.inr rfl)) (fun s H C cl fp => pts_nil)
        (fun s H C cl fp => pe_call (ok_taken t) (by exact hr.mono (by decide)) (by rfl) t.taken.m t.taken.F.kp t.taken.b .nil pass0 (pa_cons (pv 1) (pa_cons (pv 4) pa_nil))))))) pss_nil, fun row scr ns D u σ H hpre hD => ?_⟩
  obtain ⟨⟨u2, u3, u4, u5, u6, u7, u8, u9, u10, u11, rfl⟩, hrow, hT⟩ := hpre
  refine ⟨_, rfl, row, scr, ns, rfl, hrow, hT, fun H1 DA ds g1 hda hd => ?_⟩
  have r1 := hrow.go g1
  refine ⟨_, rfl, _, _, rfl, .inr (SqT.of hda), ?_⟩
  rw [List.length_map]
  refine ⟨_, rfl, row, scr, ns, (3 : Int), rfl, r1, by omega, by omega, fun i1 i2 i3 c ha hb hc => ⟨_, _, rfl, rfl, _, rfl, ?_⟩⟩
  have go2 := (Go.refl r1 g1.gr.tb).upRow (i1 := i1) (i2 := i2) (i3 := i3) ha
  have hda2 := go2.tup r1 hda
  have r2 := r1.go go2
  generalize upd H1 row (.lst [.ref scr, .int i1, .int i2, .int i3]) = H2 at go2 hda2 r2 ⊢
  -- a base of its own
  have own : ∀ (H3 : Hp) (v5 : Option V), Row K H3 row scr ns → TbG t.T H3 → H3 DA = some (.tup (ds.map V.int)) →
      tAsg (tThen (tLc (iRng1 (tCons (tOp (rI0 fun i j => .int (i + j)) (tC (.int 1)) (tCall (spTaken K) [] E0 (tCons (tVar 1) (tCons (tC (.int 9)) tNil)))) tNil)) (gName 11) tYes (tCall (spTaken K) [] E0 (tCons (tVar 1) (tCons (tVar 4) tNil))) [11]) (kTup K)) (gName 5)
        ⟨u D, D.rt, D.bk, D.ct⟩ [some (.ref scr), some (.ref row), u2, some (.ref DA), some (.int (ds.length : Int)), v5, u6, u7, u8, u9, u10, u11] H3 := by
    intro H3 v5 r3 t3 hda3
    refine ⟨_, rfl, row, scr, ns, (9 : Int), rfl, r3, by omega, by omega, fun i1 i2 i3 c ha hb hc => ⟨_, _, rfl, rfl, _, rfl, by omega, by omega, fun D0 hD0 => ?_⟩⟩
    have go4 := (Go.refl r3 t3).upRow (i1 := i1) (i2 := i2) (i3 := i3) ha
    generalize upd H3 row (.lst [.ref scr, .int i1, .int i2, .int i3]) = H4 at go4 hD0 ⊢
    have nD : D0 ≠ row := by
      obtain ⟨j1, j2, j3, e, _⟩ := (r3.go go4).at_
      exact (ne_of_none e hD0).symm
    have fD : H3 D0 = none := go4.gr.free hD0 (by simpa using nD)
    have l1 := hd.l1
    have l4 := hd.l4
    refine lc_range (fun i H' => ∃ acc : List Int, H' D0 = some (.lst (acc.map V.int)) ∧ Go t.T row scr H3 H' ∧ acc.length = i) ?_ ?_ ?_
    · exact ⟨[], upd_same, go4.new hD0, rfl⟩
    · rintro i H' hi ⟨acc, h1, h2, h3⟩
      refine ⟨rfl, ?_⟩
      refine ⟨_, rfl, _, rfl, row, scr, ns, _, rfl, r3.go h2, by omega, by omega, fun j1 j2 j3 d ha hb hc => ?_⟩
      have g3 := h2.upRow (i1 := j1) (i2 := j2) (i3 := j3) ha
      have e3 : upd H' row (.lst [.ref scr, .int j1, .int j2, .int j3]) D0 = some (.lst (acc.map V.int)) := by rw [upd_ne nD]; exact h1
      exact ⟨_, e3, by rw [List.length_map]; omega, acc ++ [d], by rw [upd_same, List.map_append]; rfl, g3.put e3 (fun ps z => nomatch z) fD nD, by rw [List.length_append, h3]; rfl⟩
    · rintro H' ⟨acc, h1, h2, h3⟩
      refine .inl ⟨D0, _, rfl, SqL.of h1, fun p hp => ?_⟩
      have g5 := h2.new (o := .tup (acc.map V.int)) hp
      refine hD _ _ ⟨DA, p, ds, acc, _, _, _, _, _, _, _, rfl, r3.go g5, g5.gr.tb, g5.tup r3 hda3, hd, upd_same, fun z => ?_, by omega⟩
      rw [z] at h3
      simp only [List.length_nil] at h3
      omega
  refine ite2 (fun _ => ?_) (fun _ => ?_)
  · -- ring_for
    refine ⟨_, rfl, DA, ds, rfl, hda2, hd, go2.gr.tb, fun H3 g3 => ?_, fun H3 p rs g3 hp hne hlen => ?_⟩
    · refine ⟨_, rfl, _, _, _, _, false, rfl, .ty _, .base .non, kit_ty (by decide +kernel), _, rfl, ?_⟩
      refine iteT ?_
      exact own H3 _ (r2.go ((Go.refl r2 go2.gr.tb).grow g3)) g3.tb (g3.tup hda2 (by simp))
    · have r3 := r2.go ((Go.refl r2 go2.gr.tb).grow g3)
      refine ⟨_, rfl, _, _, _, _, true, rfl, .ty _, .base (.tup hp), kit_ty (by decide +kernel), _, rfl, ?_⟩
      refine iteF ?_
      refine ⟨_, rfl, (by show 0 ≤ sizeLine; omega), fun tp htp => ?_⟩
      have s1 : Same H3 (upd H3 tp (.tup [])) := same_new (Same.refl _) htp
      have e1 : upd H3 tp (.tup []) tp = some (.tup []) := upd_same
      have g4 := (Go.refl r3 g3.tb).new (o := .tup []) htp
      generalize upd H3 tp (.tup []) = H4 at s1 e1 g4 ⊢
      obtain ⟨dd, d1, d2, d3, d4⟩ := dp_items (K := K) (H := H4) (xs := rs.map V.int) fun x hx => by
        obtain ⟨z, _, rfl⟩ := List.mem_map.mp hx
        exact .int z
      refine ⟨.tuple dd, .tuple [], .tup (SqT.of (s1 _ _ hp)) d1, .tup (SqT.of e1) .nil, shaped_of d2 (by show PyData.depthAll dd + 1 ≤ 64; omega), shaped_of rfl (by decide), _, rfl, ?_⟩
      have ee : PyData.eqv (.tuple dd) (.tuple []) = false := by
        show PyData.eqvAll dd [] = _
        rw [eqv_nil]
        cases dd with
        | nil =>
          rw [List.length_map] at d4
          exact absurd (List.length_eq_zero_iff.mp d4.symm) hne
        | cons y q => rfl
      rw [ee]
      refine iteF ?_
      exact hD _ _ ⟨DA, p, ds, rs, _, _, _, _, _, _, _, rfl, r3.go g4, g4.gr.tb, s1 _ _ (g3.tup hda2 (by simp)), hd, s1 _ _ hp, hne, hlen⟩
  · refine ⟨_, rfl, _, _, _, _, false, rfl, .ty _, .base .non, kit_ty (by decide +kernel), _, rfl, ?_⟩
    refine iteT ?_
    exact own H2 _ r2 go2.gr.tb hda2
end
end Rg

namespace Rg
open PySem PySem.Spec PyProof.Rows L2 GxR RgG RgE RgR
/-- the heap but for some objects -/
def hide (H : Hp) (ex : List Addr) : Hp := fun b => if b ∈ ex then none else H b
theorem hide_out {H : Hp} {ex : List Addr} {b : Addr} (h : b ∉ ex) : hide H ex b = H b := if_neg h
theorem hide_some {H : Hp} {ex : List Addr} {b : Addr} {o : HO} (h : hide H ex b = some o) : b ∉ ex ∧ H b = some o := by
  unfold hide at h
  by_cases z : b ∈ ex
  · rw [if_pos z] at h; cases h
  · rw [if_neg z] at h; exact ⟨z, h⟩
theorem hide_same {H H' : Hp} {ex : List Addr} (s : Same H H') : Same (hide H ex) (hide H' ex) := fun b o e => by
  obtain ⟨h1, h2⟩ := hide_some e
  rw [hide_out h1]; exact s b o h2
theorem hide_le {H : Hp} {ex : List Addr} : Same (hide H ex) H := fun b o e => (hide_some e).2
theorem hide_put {H : Hp} {ex : List Addr} {p : Addr} {o : HO} (h : p ∈ ex) : hide (upd H p o) ex = hide H ex := by
  funext b
  by_cases z : b ∈ ex
  · unfold hide; rw [if_pos z, if_pos z]
  · rw [hide_out z, hide_out z, upd_ne (show b ≠ p from fun e => z (by rw [e]; exact h))]
/-- what is hidden stands -/
def Std (H : Hp) (ex : List Addr) : Prop := ∀ e ∈ ex, H e ≠ none
theorem Std.same {H H' : Hp} {ex : List Addr} (h : Std H ex) (s : Same H H') : Std H' ex := fun e he z => by
  cases q : H e with
  | none => exact h e he q
  | some o => rw [s e o q] at z; cases z
theorem Std.out {H : Hp} {ex : List Addr} {p : Addr} (h : Std H ex) (hp : H p = none) : p ∉ ex := fun z => h p z hp
theorem hide_new {H : Hp} {ex : List Addr} {p : Addr} {o : HO} (h : Std H ex) (hp : H p = none) : hide (upd H p o) ex p = some o := by rw [hide_out (h.out hp)]; exact upd_same
theorem hide_more {H : Hp} {ex : List Addr} {p : Addr} {o : HO} (hp : H p = none) : Same (hide H ex) (hide (upd H p o) (p :: ex)) := fun b u e => by
  obtain ⟨h1, h2⟩ := hide_some e
  have nb : b ≠ p := ne_of_none h2 hp
  rw [hide_out (by simp [nb, h1]), upd_ne nb]; exact h2
/-- a tuple of items -/
def TV (H : Hp) (n : Nat) (v : V) : Prop := ∃ b xs, v = .ref b ∧ H b = some (.tup xs) ∧ xs.length ≤ n ∧ ∀ x ∈ xs, It0 H x
theorem TV.same {H H' : Hp} {n : Nat} {v : V} (h : TV H n v) (s : Same H H') : TV H' n v := let ⟨b, xs, h1, h2, h3, h4⟩ := h; ⟨b, xs, h1, s _ _ h2, h3, fun x hx => (h4 x hx).same s⟩
theorem NotT.same {H H' : Hp} {v : V} (h : NotT H v) (s : Same H H') : NotT H' v := by
  cases h with
  | non => exact .non
  | int i => exact .int i
  | lst e => exact .lst (s _ _ e)
  | dT e => exact .dT (s _ _ e)
/-- a value that is tried -/
def Val (H : Hp) (v : V) : Prop := NotT H v ∨ TV H 100000 v
theorem Val.same {H H' : Hp} {v : V} (h : Val H v) (s : Same H H') : Val H' v := h.imp (fun a => a.same s) fun a => a.same s
theorem Val.gr {T : List Addr} {H H' : Hp} {v : V} (h : Val H v) (g : Gr T [] H H') : Val H' v := h.imp (fun a => a.gr g) fun ⟨b, xs, h1, h2, h3, h4⟩ => ⟨b, xs, h1, g.tup h2 (by simp), h3, fun x hx => (h4 x hx).gr g⟩
theorem TV.val {H : Hp} {n : Nat} {v : V} (h : TV H n v) (hn : n ≤ 100000) : Val H v := .inr (let ⟨b, xs, h1, h2, h3, h4⟩ := h; ⟨b, xs, h1, h2, Nat.le_trans h3 hn, h4⟩)
def MkT (te : TE) (σ : L2.St) (H : Hp) (ex : List Addr) (n : Nat) : Prop := ∀ H1, Same H H1 → ∀ Q : VK, (∀ v H2, Same H1 H2 → TV (hide H2 ex) n v → Q v H2) → te σ H1 Q
def MkV (te : TE) (σ : L2.St) (H : Hp) (ex : List Addr) : Prop := ∀ H1, Same H H1 → ∀ Q : VK, (∀ v H2, Same H1 H2 → Val (hide H2 ex) v → Q v H2) → te σ H1 Q
def MkA (t : TA) (σ : L2.St) (H : Hp) (ex : List Addr) (m : Nat) : Prop := ∀ H1, Same H H1 → ∀ Q : List V → Hp → Prop, (∀ vs H2, Same H1 H2 → vs.length = m → (∀ v ∈ vs, Val (hide H2 ex) v) → Q vs H2) → t σ H1 Q
def POk (tl : TO) (σ : L2.St) : Prop := ∀ H Q, (∀ o, Q o H) → tl σ H Q
section
variable {K : PySem.W.Frag} {σ : L2.St} {H : Hp} {ex : List Addr} {n m i : Nat}
theorem po_n : POk tNoPart σ := fun H Q k => k none
theorem po_v {z : Int} (e : σ[i]? = some (some (.int z))) : POk (tPart (tVar i)) σ := fun H Q k => ⟨_, e, z, rfl, k _⟩
theorem po_c {z : Int} : POk (tPart (tC (.int z))) σ := fun H Q k => ⟨z, rfl, k _⟩
theorem po_m {z : Int} : POk (tPart (tUn (rU fun i => .int (-i)) (tC (.int z)))) σ := fun H Q k => ⟨z, rfl, _, rfl, k _⟩
theorem po_p {z y : Int} (e : σ[i]? = some (some (.int z))) : POk (tPart (tOp (rI0 fun i j => .int (i + j)) (tVar i) (tC (.int y)))) σ := fun H Q k => ⟨_, e, z, y, rfl, rfl, _, rfl, k _⟩
theorem mk_var {v : V} (e : σ[i]? = some (some v)) (h : TV (hide H ex) n v) : MkT (tVar i) σ H ex n := fun H1 s Q k => ⟨v, e, k v H1 (Same.refl _) (h.same (hide_same s))⟩
theorem mk_slice {te : TE} {tl th : TO} (st : Std H ex) (h : MkT te σ H ex n) (hl : POk tl σ) (hh : POk th σ) : MkT (tSl (rSlA K) te tl th) σ H ex n := by
  intro H1 s Q k
  refine h H1 s _ fun v H2 s2 tv => ?_
  refine hl _ _ fun lo => hh _ _ fun hi => ?_
  obtain ⟨b, xs, rfl, hb, hlen, hit⟩ := id tv
  refine ⟨b, xs, rfl, SqT.of (hide_some hb).2, fun _ => k _ H2 s2 tv, fun _ p hp => ?_⟩
  have s3 : Same H2 (upd H2 p (.tup (cutV xs lo hi))) := same_new (Same.refl _) hp
  refine k _ _ (s2.trans s3) ⟨p, _, rfl, hide_new (st.same (s.trans s2)) hp, Nat.le_trans (cutV_length xs lo hi) hlen, fun x hx => ?_⟩
  exact (hit x (List.mem_of_mem_drop (List.mem_of_mem_take hx))).same (hide_same s3)
theorem mk_cat {ta tb : TE} (st : Std H ex) (ha : MkT ta σ H ex n) (hb : MkT tb σ H ex m) (hn : n + m ≤ 100000) : MkT (tOp (rCatA K) ta tb) σ H ex (n + m) := by
  have sz : sizeLine = 16777216 := sizeLine_eq
  intro H1 s Q k
  refine ha H1 s _ fun v H2 s2 tv => ?_
  refine hb H2 (s.trans s2) _ fun u H3 s3 tu => ?_
  have tv3 := tv.same (hide_same (ex := ex) s3)
  have wv : TV (hide H3 ex) (n + m) v := let ⟨b, xs, h1, h2, h3, h4⟩ := tv3; ⟨b, xs, h1, h2, by omega, h4⟩
  have wu : TV (hide H3 ex) (n + m) u := let ⟨b, xs, h1, h2, h3, h4⟩ := tu; ⟨b, xs, h1, h2, by omega, h4⟩
  obtain ⟨b, xs, rfl, hb, hlen, hit⟩ := id tv3
  obtain ⟨c, ys, rfl, hc, hlen2, hit2⟩ := id tu
  refine ⟨b, c, xs, ys, rfl, rfl, SqT.of (hide_some hb).2, SqT.of (hide_some hc).2, by omega, fun _ => k _ H3 (s2.trans s3) wu, fun _ _ => k _ H3 (s2.trans s3) wv, fun _ _ p hp => ?_⟩
  have s4 : Same H3 (upd H3 p (.tup (xs ++ ys))) := same_new (Same.refl _) hp
  refine k _ _ ((s2.trans s3).trans s4) ⟨p, _, rfl, hide_new (st.same ((s.trans s2).trans s3)) hp, by rw [List.length_append]; omega, fun x hx => ?_⟩
  rcases List.mem_append.mp hx with z | z
  · exact (hit x z).same (hide_same s4)
  · exact (hit2 x z).same (hide_same s4)
theorem mk_one {x : V} (st : Std H ex) (e : σ[i]? = some (some x)) (it : It0 (hide H ex) x) : MkT (tTup (tCons (tVar i) tNil)) σ H ex 1 := by
  intro H1 s Q k
  refine ⟨x, e, (by show 1 ≤ sizeLine; decide), fun p hp => ?_⟩
  have s4 : Same H1 (upd H1 p (.tup [x])) := same_new (Same.refl _) hp
  refine k _ _ s4 ⟨p, _, rfl, hide_new (st.same s) hp, Nat.le_refl _, fun y hy => ?_⟩
  rw [List.mem_singleton.mp hy]
  exact it.same (hide_same (s.trans s4))
theorem mk_non (st : Std H ex) : MkT (tTup (tCons (tC .non) tNil)) σ H ex 1 := by
  intro H1 s Q k
  refine ⟨(by show 1 ≤ sizeLine; decide), fun p hp => ?_⟩
  have s4 : Same H1 (upd H1 p (.tup [V.non])) := same_new (Same.refl _) hp
  refine k _ _ s4 ⟨p, _, rfl, hide_new (st.same s) hp, Nat.le_refl _, fun y hy => ?_⟩
  rw [List.mem_singleton.mp hy]
  exact .non
theorem mk_nil (st : Std H ex) : MkT (tTup tNil) σ H ex 0 := by
  intro H1 s Q k
  refine ⟨(by show 0 ≤ sizeLine; decide), fun p hp => ?_⟩
  have s4 : Same H1 (upd H1 p (.tup [])) := same_new (Same.refl _) hp
  exact k _ _ s4 ⟨p, _, rfl, hide_new (st.same s) hp, Nat.le_refl _, fun y hy => nomatch hy⟩
theorem mk_rev {te : TE} (st : Std H ex) (h : MkT te σ H ex n) : MkT (tRevT K te) σ H ex n := by
  intro H1 s Q k
  refine h H1 s _ fun v H2 s2 tv => ?_
  obtain ⟨b, xs, rfl, hb, hlen, hit⟩ := id tv
  refine ⟨b, xs, rfl, SqT.of (hide_some hb).2, fun p hp => ?_⟩
  have s3 : Same H2 (upd H2 p (.tup xs.reverse)) := same_new (Same.refl _) hp
  refine k _ _ (s2.trans s3) ⟨p, _, rfl, hide_new (st.same (s.trans s2)) hp, by rw [List.length_reverse]; exact hlen, fun x hx => ?_⟩
  exact (hit x (List.mem_reverse.mp hx)).same (hide_same s3)
theorem mv_T {te : TE} (h : MkT te σ H ex n) (hn : n ≤ 100000) : MkV te σ H ex := fun H1 s Q k => h H1 s Q fun v H2 s2 tv => k v H2 s2 (tv.val hn)
theorem mv_list {te : TE} (st : Std H ex) (h : MkT te σ H ex n) : MkV (tCB (fun xs H Q => ∃ p ys, xs = [V.ref p] ∧ (SqL K H p ys ∨ SqT K H p ys) ∧ ∀ l, H l = none → Q (.ref l) (upd H l (.lst ys))) (tCons te tNil)) σ H ex := by
  intro H1 s Q k
  refine h H1 s _ fun v H2 s2 tv => ?_
  obtain ⟨b, xs, rfl, hb, hlen, hit⟩ := id tv
  refine ⟨b, xs, rfl, .inr (SqT.of (hide_some hb).2), fun p hp => ?_⟩
  have s3 : Same H2 (upd H2 p (.lst xs)) := same_new (Same.refl _) hp
  exact k _ _ (s2.trans s3) (.inl (.lst (hide_new (st.same (s.trans s2)) hp)))
theorem mv_non : MkV (tC .non) σ H ex := fun H1 s Q k => k _ _ (Same.refl _) (.inl .non)
theorem mv_int {z : Int} : MkV (tC (.int z)) σ H ex := fun H1 s Q k => k _ _ (Same.refl _) (.inl (.int z))
theorem mv_dict (st : Std H ex) : MkV tDNewT σ H ex := fun H1 s Q k => fun p hp => k _ _ (same_new (Same.refl _) hp) (.inl (.dT (hide_new (st.same s) hp)))
theorem ma_nil : MkA tNil σ H ex 0 := fun H1 s Q k => k [] H1 (Same.refl _) rfl fun v h => nomatch h
theorem ma_cons {te : TE} {t : TA} (h : MkV te σ H ex) (r : MkA t σ H ex m) : MkA (tCons te t) σ H ex (m + 1) := by
  intro H1 s Q k
  refine h H1 s _ fun v H2 s2 tv => ?_
  refine r H2 (s.trans s2) _ fun vs H3 s3 hl hv => ?_
  refine k _ H3 (s2.trans s3) (by rw [List.length_cons, hl]) fun u hu => ?_
  rcases List.mem_cons.mp hu with e | e
  · rw [e]; exact tv.same (hide_same s3)
  · exact hv u e
theorem ma_seq {t : TA} {u : TS} {D : Ends} (A : MkA t σ H ex m) (hm : m ≤ 1000) (k : ∀ p vs H', Same H H' → H p = none → H' p = some (.lst vs) → vs.length = m → (∀ v ∈ vs, Val (hide H' (p :: ex)) v) → u D (σ.set i (some (.ref p))) H') :
    tSeq (tAsg (tLst t) (gName i)) u D σ H := by
  have sz : sizeLine = 16777216 := sizeLine_eq
  show t σ H fun xs H1 => xs.length ≤ sizeLine ∧ ∀ p, H1 p = none → u D (σ.set i (some (.ref p))) (upd H1 p (.lst xs))
  refine A H (Same.refl _) _ fun vs H1 s l g => ⟨by omega, fun p hp => ?_⟩
  refine k p vs _ (same_new s hp) ?_ upd_same l fun v hv => (g v hv).same (hide_more hp)
  cases q : H p with
  | none => rfl
  | some o => rw [s _ _ q] at hp; cases hp
theorem ma_cat {t : TA} {u : TS} {D : Ends} {L : Addr} {vs0 : List V} (A : MkA t σ H ex m) (e : σ[i]? = some (some (.ref L))) (eL : H L = some (.lst vs0)) (g0 : ∀ v ∈ vs0, Val (hide H ex) v) (hm : vs0.length + m ≤ 1000)
    (k : ∀ p vs H', Same H H' → H' p = some (.lst vs) → (∀ v ∈ vs, Val H' v) → vs.length ≤ 1000 → u D (σ.set i (some (.ref p))) H') : tSeq (tAsg (tOp rCat (tVar i) (tLst t)) (gName i)) u D σ H := by
  have sz : sizeLine = 16777216 := sizeLine_eq
  refine ⟨_, e, ?_⟩
  show t σ H fun xs H1 => xs.length ≤ sizeLine ∧ ∀ p, H1 p = none → rCat (.ref L) (.ref p) (upd H1 p (.lst xs)) fun v H2 => u D (σ.set i (some v)) H2
  refine A H (Same.refl _) _ fun vs H1 s l g => ⟨by omega, fun p hp => ?_⟩
  have sp : Same H1 (upd H1 p (.lst vs)) := same_new (Same.refl _) hp
  have s2 : Same H (upd H1 p (.lst vs)) := s.trans sp
  refine ⟨L, p, vs0, vs, rfl, rfl, s2 _ _ eL, upd_same, by omega, fun p2 hp2 => ?_⟩
  have s3 : Same (upd H1 p (.lst vs)) (upd (upd H1 p (.lst vs)) p2 (.lst (vs0 ++ vs))) := same_new (Same.refl _) hp2
  refine k p2 _ _ (s2.trans s3) upd_same (fun v hv => ?_) (by rw [List.length_append]; omega)
  rcases List.mem_append.mp hv with z | z
  · exact (g0 v z).same (hide_le.trans (s2.trans s3))
  · exact (g v z).same (hide_le.trans (sp.trans s3))
theorem app_reads {te : TE} {D : Ends} {L : Addr} {vs : List V} (mk : MkT te σ H ex n) (hn : n ≤ 100000) (e : σ[i]? = some (some (.ref L))) (eL : H L = some (.lst vs)) (hz : vs.length < 1000)
    (k : ∀ v H2, Same H H2 → Val (hide H2 ex) v → D.nx σ (upd H2 L (.lst (vs ++ [v])))) : tDrop (tBM K "list" rAppend (tVar i) (tCons te tNil)) D σ H := by
  have sz : sizeLine = 16777216 := sizeLine_eq
  refine ⟨_, e, .inl ⟨rfl, _, SqL.of eL⟩, ?_⟩
  show te σ H fun x H1 => rAppend (.ref L) [x] H1 fun _ H2 => D.nx σ H2
  refine mk H (Same.refl _) _ fun v H2 s tv => ?_
  exact ⟨L, vs, v, rfl, rfl, s _ _ eL, by omega, k v H2 s (tv.val hn)⟩
end
end Rg

namespace Rg
open PySem PySem.Spec PyProof.Rows L2 GxR RgG RgE RgR
section
variable {P : Program} {w : World} {K : PySem.W.Frag} {mg : Str → Option Value} {base : Heap}
theorem law_b (t : Tx K mg) (B : TabsB t base) {f : Addr} {cdv : Value} {A : Around} {outer : List Env} {s : Shared} {H0 : Hp} {E : XK} (hr : Room 3 (XL P w (K := K) (mg := mg) base f cdv A outer s H0 E).A) :
    ∃ t4 t5 t6 t7 t8, PS (XL P w (K := K) (mg := mg) base f cdv A outer s H0 E) (stL 4) t4 ∧ PS (XL P w (K := K) (mg := mg) base f cdv A outer s H0 E) (stL 5) t5 ∧ PS (XL P w (K := K) (mg := mg) base f cdv A outer s H0 E) (stL 6) t6 ∧ PS (XL P w (K := K) (mg := mg) base f cdv A outer s H0 E) (stL 7) t7 ∧ PS (XL P w (K := K) (mg := mg) base f cdv A outer s H0 E) (stL 8) t8 ∧
      ∀ (row scr : Addr) (ns : List Int) (D : Ends) (σ : L2.St) (H : Hp), PostA t.T K row scr ns σ H → (∀ σ' H', PreL t.T K row scr ns σ' H' → D.nx σ' H') → tSeq t4 (tSeq t5 (tSeq t6 (tSeq t7 t8))) D σ H := by
  have sz : sizeLine = 16777216 := sizeLine_eq
  refine ⟨_, _, _, _, _,
    ps_par (i := 6) (j := 7) rfl scLaw.nd rfl rfl (by decide) rfl rfl (pa_cons (pe_call (ok_taken t) (hr.mono (by decide)) (by rfl) t.taken.m t.taken.F.kp t.taken.b .nil pass0 (pa_cons (pv 1) (pa_cons (pe_callB call_len_seq (by rfl) t.zlen PySem.boot_len (pa_cons (pv 5) pa_nil)) pa_nil)))
      (pa_cons (pe_call (ok_taken t) (hr.mono (by decide)) (by rfl) t.taken.m t.taken.F.kp t.taken.b .nil pass0 (pa_cons (pv 1) (pa_cons (pe_callB call_len_seq (by rfl) t.zlen PySem.boot_len (pa_cons (pv 5) pa_nil)) pa_nil))) pa_nil)) rfl,
    ps_set (i := 8) scLaw.nd rfl (Or.inl rfl) (pe_lst (pa_cons (pv 5) (pa_cons (pe_callTy call_list_of (by rfl) t.zlist boot_list (pa_cons (pv 5) pa_nil))
      (pa_cons (pe_op op_catA (pe_slice sl_tupA (pv 5) (po_some (pv 7)) po_none) (pe_slice sl_tupA (pv 5) po_none (po_some (pv 7))))
      (pa_cons (pe_revT (pv 5)) (pa_cons (pe_op op_catA (pv 5) (pv 5)) (pa_cons (pe_slice sl_tupA (pv 5) (po_some pe_int) po_none) (pa_cons (pe_slice sl_tupA (pv 5) po_none (po_some (pe_un un_neg pe_int)))
      (pa_cons (pe_tup pa_nil) (pa_cons pe_non (pa_cons pe_int (pa_cons pe_dnewT pa_nil)))))))))))),
    ps_for PassesOwn.never rfl (pi_list (pe_lst (pa_cons pe_non (pa_cons (pe_call (ok_taken t) (hr.mono (by decide)) (by rfl) t.taken.m t.taken.F.kp t.taken.b .nil pass0 (pa_cons (pv 1) (pa_cons (pv 4) pa_nil)))
        (pa_cons (pv 4) (pa_cons (pe_un un_neg pe_int) (pa_cons pe_bl (pa_cons pe_str (pa_cons (pe_tup (pa_cons pe_int pa_nil)) (pa_cons (pe_lst (pa_cons pe_int pa_nil)) pa_nil)))))))))) (pg_name (i := 9) scLaw.nd rfl (Or.inl rfl))
      (pss_one (ps_expr (pe_bm PySem.F.plainAttrs_list PySem.F.slot_list_append PySem.F.type_list_append mt_append (pv 8)
        (pa_cons (pe_op op_catA (pe_op op_catA (pe_slice sl_tupA (pv 5) po_none (po_some (pv 6))) (pe_tup (pa_cons (pv 9) pa_nil))) (pe_slice sl_tupA (pv 5) (po_some (pe_op op_add (pv 6) pe_int)) po_none)) pa_nil)))),
    ps_set (i := 8) scLaw.nd rfl (Or.inl rfl) (pe_op op_cat (pv 8) (pe_lst (pa_cons (pe_op op_catA (pe_op op_catA (pe_slice sl_tupA (pv 5) po_none (po_some (pv 6))) (pe_tup (pa_cons pe_non pa_nil))) (pe_slice sl_tupA (pv 5) (po_some (pv 6)) po_none))
      (pa_cons (pe_op op_catA (pe_op op_catA (pe_slice sl_tupA (pv 5) po_none (po_some (pv 6))) (pe_slice sl_tupA (pv 5) (po_some (pv 6)) (po_some (pe_op op_add (pv 6) pe_int)))) (pe_slice sl_tupA (pv 5) (po_some (pv 6)) po_none)) pa_nil)))),
    ps_for PassesOwn.never rfl (pi_list (pv 8)) (pg_name (i := 10) scLaw.nd rfl (Or.inl rfl))
      (pss_one (ps_if (pt_not (pt_val (pe_call (ok_alike t) (hr.mono (by decide)) (by rfl) t.alike.m t.alike.F.kp t.alike.b .nil pass0
        (pa_cons (pe_call (ok_shows t B) (hr.mono (by decide)) (by rfl) t.shows.m t.shows.F.kp t.shows.b .nil pass0 (pa_cons (pv 3) (pa_cons (pv 10) pa_nil)))
        (pa_cons (pe_call (ok_is t) (hr.mono (by decide)) (by rfl) t.isRing.m t.isRing.F.kp t.isRing.b .nil pass0 (pa_cons (pv 3) (pa_cons (pv 10) pa_nil))) pa_nil))))) (pss_one (ps_ret pe_bl)) pss_nil)), fun row scr ns D σ H hpre hD => ?_⟩
  obtain ⟨DA, BA, ds, zs, u2, u6, u7, u8, u9, u10, u11, rfl, hrow, hT, hda, hd, hba, hne, hlen⟩ := hpre
  have hpos : 0 < zs.length := List.length_pos_iff.mpr hne
  have d1 := hd.l1
  have d4 := hd.l4
  -- _law_at, _law_cut
  refine ⟨_, rfl, _, rfl, _, _, rfl, .inr (SqT.of hba), row, scr, ns, _, rfl, hrow, by rw [List.length_map]; omega, by rw [List.length_map]; omega, fun i1 i2 i3 at_ ha hb hc => ?_⟩
  have go1 := (Go.refl hrow hT).upRow (i1 := i1) (i2 := i2) (i3 := i3) ha
  have hda1 := go1.tup hrow hda
  have hba1 := go1.tup hrow hba
  have r1 := hrow.go go1
  have t1 := go1.gr.tb
  generalize upd H row (.lst [.ref scr, .int i1, .int i2, .int i3]) = H1 at hda1 hba1 r1 t1 ⊢
  clear go1 hrow hT hda hba
  refine ⟨_, rfl, _, rfl, _, _, rfl, .inr (SqT.of hba1), row, scr, ns, _, rfl, r1, by rw [List.length_map]; omega, by rw [List.length_map]; omega, fun i1 i2 i3 cut ha hb hc => ⟨_, _, rfl, ?_⟩⟩
  have go2 := (Go.refl r1 t1).upRow (i1 := i1) (i2 := i2) (i3 := i3) ha
  have hda2 := go2.tup r1 hda1
  have hba2 := go2.tup r1 hba1
  have r2 := r1.go go2
  have t2 := go2.gr.tb
  generalize upd H1 row (.lst [.ref scr, .int i1, .int i2, .int i3]) = H2 at hda2 hba2 r2 t2 ⊢
  clear go2 r1 t1 hda1 hba1
  obtain ⟨k1, k2, k3, er, _⟩ := r2.at_
  have nB : BA ≠ row := ne_of hba2 er fun z => nomatch z
  have st : Std H2 [row] := fun e he => by
    rw [List.mem_singleton.mp he, er]
    exact fun z => nomatch z
  have intsOk : ∀ (Hx : Hp) (x : V), x ∈ zs.map V.int → It0 Hx x := fun Hx x hx => by
    obtain ⟨z, _, rfl⟩ := List.mem_map.mp hx
    exact .int z
  have tvb : TV (hide H2 [row]) 6561 (.ref BA) := ⟨BA, _, rfl, by rw [hide_out (by simpa using nB)]; exact hba2, by rw [List.length_map]; exact hlen, intsOk _⟩
  -- _law_values
  refine ma_seq (ex := [row]) (m := 11) (ma_cons (mv_T (mk_var rfl tvb) (by omega)) (ma_cons (mv_list st (mk_var rfl tvb)) (ma_cons (mv_T (mk_cat st (mk_slice st (mk_var rfl tvb) (po_v rfl) po_n) (mk_slice st (mk_var rfl tvb) po_n (po_v rfl)) (by omega)) (by omega))
    (ma_cons (mv_T (mk_rev st (mk_var rfl tvb)) (by omega)) (ma_cons (mv_T (mk_cat st (mk_var rfl tvb) (mk_var rfl tvb) (by omega)) (by omega)) (ma_cons (mv_T (mk_slice st (mk_var rfl tvb) po_c po_n) (by omega)) (ma_cons (mv_T (mk_slice st (mk_var rfl tvb) po_n po_m) (by omega))
    (ma_cons (mv_T (mk_nil st) (by omega)) (ma_cons mv_non (ma_cons mv_int (ma_cons (mv_dict st) ma_nil))))))))))) (by omega) fun VL vs H3 s3 f3 e3 l3 g3 => ?_
  have nV : VL ≠ row := (ne_of_none er f3).symm
  have go3 : Go t.T row scr H2 H3 := (Go.refl r2 t2).grow (Gr.same t2 s3)
  -- the items
  refine ⟨_, rfl, _, rfl, row, scr, ns, _, rfl, r2.go go3, by omega, by omega, fun i1 i2 i3 rr ha hb hc => ?_⟩
  have go4 := go3.upRow (i1 := i1) (i2 := i2) (i3 := i3) ha
  have e4 : upd H3 row (.lst [.ref scr, .int i1, .int i2, .int i3]) VL = some (.lst vs) := by rw [upd_ne nV]; exact e3
  have g4 : ∀ v ∈ vs, Val (hide (upd H3 row (.lst [.ref scr, .int i1, .int i2, .int i3])) [VL, row]) v := by
    rw [hide_put (by simp)]; exact g3
  generalize upd H3 row (.lst [.ref scr, .int i1, .int i2, .int i3]) = H4 at go4 e4 g4 ⊢
  clear go3 e3 g3 s3
  have st4 : Std H4 [VL, row] := fun e he => by
    obtain ⟨m1, m2, m3, q, _⟩ := go4.at_
    have : e = VL ∨ e = row := by simpa using he
    rcases this with z | z
    · rw [z, e4]; exact fun y => nomatch y
    · rw [z, q]; exact fun y => nomatch y
  refine ⟨_, rfl, _, rfl, (by show 1 ≤ sizeLine; omega), fun tp htp => ⟨(by show 1 ≤ sizeLine; omega), fun L0 hL0 => ⟨(by show 8 ≤ sizeLine; omega), fun IL hIL => ⟨IL, rfl, ⟨_, SqL.of upd_same⟩, ?_⟩⟩⟩⟩
  have a1 : Same H4 (upd H4 tp (.tup [.int 0])) := same_new (Same.refl _) htp
  have a2 : Same (upd H4 tp (.tup [.int 0])) (upd (upd H4 tp (.tup [.int 0])) L0 (.lst [.int 0])) := same_new (Same.refl _) hL0
  have b1 : hide (upd H4 tp (.tup [.int 0])) [VL, row] tp = some (.tup ([(0 : Int)].map V.int)) := hide_new st4 htp
  have b2 : hide (upd (upd H4 tp (.tup [.int 0])) L0 (.lst [.int 0])) [VL, row] L0 = some (.lst ([(0 : Int)].map V.int)) := hide_new (st4.same a1) hL0
  have a3 : Same (upd (upd H4 tp (.tup [.int 0])) L0 (.lst [.int 0])) (upd (upd (upd H4 tp (.tup [.int 0])) L0 (.lst [.int 0])) IL (.lst [.non, .int rr, .int (ds.length : Int), .int (-1), .bl true, .str "0", .ref tp, .ref L0])) := same_new (Same.refl _) hIL
  have go7 := ((go4.new (o := .tup [.int 0]) htp).new (o := .lst [.int 0]) hL0).new (o := .lst [.non, .int rr, .int (ds.length : Int), .int (-1), .bl true, .str "0", .ref tp, .ref L0]) hIL
  have e7 := a3 _ _ (a2 _ _ (a1 _ _ e4))
  have g7 : ∀ v ∈ vs, Val (hide (upd (upd (upd H4 tp (.tup [.int 0])) L0 (.lst [.int 0])) IL (.lst [.non, .int rr, .int (ds.length : Int), .int (-1), .bl true, .str "0", .ref tp, .ref L0])) [VL, row]) v := fun v hv => (g4 v hv).same (hide_same ((a1.trans a2).trans a3))
  have i7 : ∀ x ∈ ([.non, .int rr, .int (ds.length : Int), .int (-1), .bl true, .str "0", .ref tp, .ref L0] : List V), It0 (hide (upd (upd (upd H4 tp (.tup [.int 0])) L0 (.lst [.int 0])) IL (.lst [.non, .int rr, .int (ds.length : Int), .int (-1), .bl true, .str "0", .ref tp, .ref L0])) [VL, row]) x := fun x hx => by
    rcases List.mem_cons.mp hx with e | hx
    · rw [e]; exact .non
    rcases List.mem_cons.mp hx with e | hx
    · rw [e]; exact .int _
    rcases List.mem_cons.mp hx with e | hx
    · rw [e]; exact .int _
    rcases List.mem_cons.mp hx with e | hx
    · rw [e]; exact .int _
    rcases List.mem_cons.mp hx with e | hx
    · rw [e]; exact .bl _
    rcases List.mem_cons.mp hx with e | hx
    · rw [e]; exact .str _ (by decide +kernel)
    rcases List.mem_cons.mp hx with e | hx
    · rw [e]; exact .tup (hide_same a3 _ _ (hide_same a2 _ _ b1))
    · rw [List.mem_singleton.mp hx]; exact .lst (hide_same a3 _ _ b2)
  have l7 : upd (upd (upd H4 tp (.tup [.int 0])) L0 (.lst [.int 0])) IL (.lst [.non, .int rr, .int (ds.length : Int), .int (-1), .bl true, .str "0", .ref tp, .ref L0]) IL = some (.lst [.non, .int rr, .int (ds.length : Int), .int (-1), .bl true, .str "0", .ref tp, .ref L0]) := upd_same
  have n7 : IL ≠ VL := (ne_of_none (a2 _ _ (a1 _ _ e4)) hIL).symm
  have len7 : ([.non, .int rr, .int (ds.length : Int), .int (-1), .bl true, .str "0", .ref tp, .ref L0] : List V).length = 8 := rfl
  generalize upd (upd (upd H4 tp (.tup [.int 0])) L0 (.lst [.int 0])) IL (.lst [.non, .int rr, .int (ds.length : Int), .int (-1), .bl true, .str "0", .ref tp, .ref L0]) = H7 at go7 e7 g7 i7 l7 ⊢
  clear a1 a2 a3 b1 b2 go4 e4 g4 st4 htp hL0 hIL
  generalize ([.non, .int rr, .int (ds.length : Int), .int (-1), .bl true, .str "0", .ref tp, .ref L0] : List V) = items at i7 l7 len7 ⊢
  -- what holds in the loop, and behind it
  have facts : ∀ (H' : Hp) (vs' : List V), Go t.T row scr H2 H' → H' VL = some (.lst vs') → Std H' [VL, row] ∧ TV (hide H' [VL, row]) 6561 (.ref BA) := fun H' vs' go e => by
    obtain ⟨m1, m2, m3, q, _⟩ := go.at_
    have nBV : BA ≠ VL := ne_of_none hba2 f3
    refine ⟨fun e' he => ?_, BA, _, rfl, by rw [hide_out (by simp [nB, nBV])]; exact go.tup r2 hba2, by rw [List.length_map]; exact hlen, intsOk _⟩
    have : e' = VL ∨ e' = row := by simpa using he
    rcases this with z | z
    · rw [z, e]; exact fun y => nomatch y
    · rw [z, q]; exact fun y => nomatch y
  refine for_it (walk_list (K := (XL P w (K := K) (mg := mg) base f cdv A outer s H0 E).K) (a := IL) (xs := items)) (fun j σ' H' => ∃ (v9 : Option V) (vs' : List V), σ' = [some (.ref scr), some (.ref row), u2, some (.ref DA), some (.int (ds.length : Int)), some (.ref BA), some (.int at_), some (.int cut), some (.ref VL), v9, u10, u11] ∧
    Go t.T row scr H2 H' ∧ H' VL = some (.lst vs') ∧ (∀ v ∈ vs', Val (hide H' [VL, row]) v) ∧ vs'.length = 11 + j ∧ H' IL = some (.lst items) ∧ ∀ x ∈ items, It0 (hide H' [VL, row]) x) ?_ ?_ ?_ ?_
  · exact ⟨_, vs, rfl, go7, e7, g7, by omega, l7, i7⟩
  · rintro j σ' H' hj ⟨v9, vs', rfl, _, _, _, _, q, _⟩
    exact SqL.of q
  · rintro j x σ' H' H'' hj ⟨v9, vs', rfl, go, eV, gV, lV, lI, iI⟩ ⟨rfl, hx⟩
    have hxm : x ∈ items := List.mem_of_getElem? hx
    obtain ⟨st8, tv8⟩ := facts _ _ go eV
    refine app_reads (ex := [VL, row]) (mk_cat st8 (mk_cat st8 (mk_slice st8 (mk_var rfl tv8) po_n (po_v rfl)) (mk_one st8 rfl (iI x hxm)) (by omega)) (mk_slice st8 (mk_var rfl tv8) (po_p rfl) po_n) (by omega)) (by omega) rfl eV (by omega) fun v H9 s9 hv => ?_
    have eV9 := s9 _ _ eV
    have go9 := (go.grow (Gr.same go.gr.tb s9)).put (o := .lst (vs' ++ [v])) eV9 (fun ps z => nomatch z) f3 nV
    refine ⟨_, vs' ++ [v], rfl, go9, upd_same, ?_, by rw [List.length_append, lV]; rfl, by rw [upd_ne n7]; exact s9 _ _ lI, ?_⟩
    · rw [hide_put (by simp)]
      intro u hu
      rcases List.mem_append.mp hu with z | z
      · exact (gV u z).same (hide_same s9)
      · rw [List.mem_singleton.mp z]; exact hv
    · rw [hide_put (by simp)]
      exact fun x hx => (iI x hx).same (hide_same s9)
  · rintro σ' H' ⟨v9, vs', rfl, go, eV, gV, lV, lI, iI⟩
    obtain ⟨st8, tv8⟩ := facts _ _ go eV
    refine ma_cat (ex := [VL, row]) (m := 2) (ma_cons (mv_T (mk_cat st8 (mk_cat st8 (mk_slice st8 (mk_var rfl tv8) po_n (po_v rfl)) (mk_non st8) (by omega)) (mk_slice st8 (mk_var rfl tv8) (po_v rfl) po_n) (by omega)) (by omega))
      (ma_cons (mv_T (mk_cat st8 (mk_cat st8 (mk_slice st8 (mk_var rfl tv8) po_n (po_v rfl)) (mk_slice st8 (mk_var rfl tv8) (po_v rfl) (po_p rfl)) (by omega)) (mk_slice st8 (mk_var rfl tv8) (po_v rfl) po_n) (by omega)) (by omega)) ma_nil)) rfl eV gV (by omega) fun p vs2 H9 s9 e9 g9 l9 => ?_
    have go9 := go.grow (Gr.same go.gr.tb s9)
    have hda9 := go9.tup r2 hda2
    have r9 := r2.go go9
    have t9 := go9.gr.tb
    clear go eV gV lV lI iI st8 tv8 facts
    -- for _law_value in _law_values
    refine ⟨_, rfl, p, rfl, ⟨_, SqL.of e9⟩, ?_⟩
    refine for_it (walk_list (K := (XL P w (K := K) (mg := mg) base f cdv A outer s H0 E).K) (a := p) (xs := vs2)) (fun j σ' H' => ∃ v10 : Option V, σ' = [some (.ref scr), some (.ref row), u2, some (.ref DA), some (.int (ds.length : Int)), some (.ref BA), some (.int at_), some (.int cut), some (.ref p), v9, v10, u11] ∧ Gr t.T [] H9 H') ?_ ?_ ?_ ?_
    · exact ⟨_, rfl, Gr.refl t9⟩
    · rintro j σ' H' hj ⟨v10, rfl, g⟩
      exact SqL.of (g.lst e9 (by simp))
    · rintro j x σ' H' H'' hj ⟨v10, rfl, g⟩ ⟨rfl, hx⟩
      have hv : Val H'' x := (g9 x (List.mem_of_getElem? hx)).gr g
      have hdj := g.tup hda9 (by simp)
      refine ⟨_, rfl, _, rfl, DA, ds, x, rfl, hdj, hd, g.tb, ?_⟩
      rcases hv with hv | ⟨b, xs, rfl, hb, hlx, hit⟩
      · refine .inl ⟨hv, fun H3 g3 => ?_⟩
        refine ⟨_, rfl, _, rfl, DA, ds, x, rfl, g3.tup hdj (by simp), hd, .inl ⟨hv.gr g3, fun H4 s4 => ?_⟩⟩
        refine ⟨false, false, rfl, fun H5 s5 => ⟨_, rfl, ?_⟩⟩
        refine iteF ?_
        exact ⟨_, rfl, (g.trans g3).trans (Gr.same g3.tb (s4.trans s5))⟩
      · refine .inr ⟨b, xs, rfl, hb, hlx, fun x hx => (hit x hx).ty, fun H3 g3 => ?_⟩
        refine ⟨_, rfl, _, rfl, DA, ds, .ref b, rfl, g3.tup hdj (by simp), hd, .inr ⟨b, xs, rfl, g3.tup hb (by simp), hlx, fun x hx => (hit x hx).gr g3, fun H4 s4 => ?_⟩⟩
        refine ⟨progRing ds xs, lawRing ds xs, rfl, fun H5 s5 => ⟨_, rfl, ?_⟩⟩
        rw [decide_eq_true (prog_is_law hd xs)]
        refine iteF ?_
        exact ⟨_, rfl, (g.trans g3).trans (Gr.same g3.tb (s4.trans s5))⟩
    · rintro σ' H' ⟨v10, rfl, g⟩
      exact hD _ _ ⟨⟨_, _, _, _, _, _, _, _, _, _, rfl⟩, r9.go ((Go.refl r9 t9).grow g), g.tb⟩
end
end Rg

namespace Rg
open PySem PySem.Spec PyProof.Rows L2 GxR RgG RgE RgR
section
variable {P : Program} {w : World} {K : PySem.W.Frag} {mg : Str → Option Value} {base : Heap}
def spLaw (T : List Addr) (K : PySem.W.Frag) : Sp := fun vs H Q _ => ∃ (a : Addr) (ns : List Int), vs = [.ref a] ∧ SqL K H a (ns.map V.int) ∧ TbG T H ∧ ∀ H', Q (.bl true) H'
theorem ok_law (t : Tx K mg) (B : TabsB t base) {f : Addr} {fd : FuncData} (F : Fun K "law" "law" sLaw f fd) : FnOk P w K mg base CX0 4 f fd ["_law_script"] (spLaw t.T K) := by
  refine F.ok scLaw (fun vs H Q E h => ?_) (fun cdv A outer s H vs Q E hr h => ?_)
  · obtain ⟨a, ns, rfl, _⟩ := h
    rfl
  · obtain ⟨a, ns, rfl, hS, hT, k⟩ := h
    have hr3 : Room 3 (XL P w (K := K) (mg := mg) base f cdv A outer s H E).A := hr
    have hx : ∀ row, H row = none → a ≠ row ∨ KL K a (ns.map V.int) := fun row hrow => by
      rcases hS with (h | ⟨o, h⟩) | h
      · exact .inl (ne_of_none h hrow)
      · exact .inl (ne_of_none h hrow)
      · exact .inr h
    obtain ⟨t0, t1, t2, t3, p0, p1, p2, p3, fa⟩ := law_a (P := P) (w := w) (base := base) t B (f := f) (cdv := cdv) (A := A) (outer := outer) (s := s) (H0 := H) (E := E) hr3
    obtain ⟨t4, t5, t6, t7, t8, p4, p5, p6, p7, p8, fb⟩ := law_b (P := P) (w := w) (base := base) t B (f := f) (cdv := cdv) (A := A) (outer := outer) (s := s) (H0 := H) (E := E) hr3
    refine ⟨_, pss_cons (ps_set (i := 1) scLaw.nd rfl (Or.inr rfl) (pe_lst (pa_cons (pv 0) (pa_cons pe_int (pa_cons pe_int (pa_cons pe_int pa_nil))))))
      (pss_cons (ps_for PassesOwn.never rfl (pi_range1 (by rfl) t.zrange (pa_cons pe_int pa_nil)) (pg_name (i := 2) scLaw.nd rfl (Or.inl rfl)) (pss_cons p0 (pss_cons p1 (pss_cons p2 (pss_cons p3 (pss_cons p4 (pss_cons p5 (pss_cons p6 (pss_cons p7 (pss_one p8))))))))))
      (pss_one (ps_ret pe_bl))), ?_⟩
    refine ⟨_, rfl, (by show 4 ≤ sizeLine; decide), fun row hrow => ?_⟩
    have R : Row K (upd H row (.lst [.ref a, .int 0, .int 3265, .int 0])) row a ns := ⟨⟨0, 3265, 0, upd_same, Int.le_refl _⟩, sql_putK hS (hx row hrow), hx row hrow⟩
    have TT : TbG t.T (upd H row (.lst [.ref a, .int 0, .int 3265, .int 0])) := hT.new hrow
    refine ⟨(2 : Int), rfl, by decide, by decide, ?_⟩
    refine for_range (fun i σ H' => PreL t.T K row a ns σ H') ?_ ?_ ?_
    · exact ⟨⟨_, _, _, _, _, _, _, _, _, _, rfl⟩, R, TT⟩
    · rintro i σ H' hi ⟨⟨u2, u3, u4, u5, u6, u7, u8, u9, u10, u11, rfl⟩, r, tt⟩
      exact fa row a ns _ _ _ _ ⟨⟨_, _, _, _, _, _, _, _, _, _, rfl⟩, r, tt⟩ fun σ' H2 h3 => fb row a ns _ σ' H2 h3 fun σ'' H3 h4 => h4
    · rintro σ H' _
      exact k H'
end
end Rg

namespace Rg
open PySem PySem.Spec PyProof.Rows L2 GxR RgG RgE RgR
/-- the defs that hold a generator expression -/
def genDefs : List Str := ["need_distances", "alive_states", "shows_ring"]
theorem walk_ofAll {l : PySem.W.OpenLaw} {n k : Nat} {q : Program} {loose : List Str} {XP : (Str → Option Value) → Heap → Prop} {YP : World → Heap → Prop} {d : DefRec} {K : Params → PySem.W.Frag} {CX : World → CXT} {x : Str}
    (hn : l.most = some n) (hn2 : n ≤ sizeLine) (hdf : d.params.defaults = []) (hr : Room k callerA) (hrec : (genDefs.all fun nm => (recsOf q).any fun e => e.name == nm) = true)
    (hY : ∀ (w : World) (h : Heap), YP w h → (K w.params).In h)
    (F : ∀ (w : World) (mg : Str → Option Value) (fa : Addr) (h : Heap), (K w.params).In h → h.Ns mainGlobals mg → mg d.name = some (.ref fa) → (∀ nm ∈ genDefs, ∀ f, mg nm = some (.ref f) → LamX.OwnTab (K w.params) f h) → LamX.LawAtS l w (K w.params) (CX w) k n x mg fa h)
    (hCX : ∀ (w : World) (H : Hp) (s : Shared) (e : Value) (s' : Shared), CX w [] H s (fun _ _ _ => False) e s' → False) :
    PySem.W.WalkO q loose XP YP l.row.toRowW d [] (fun f vs => PySem.call f vs) := by
  refine Att.attach_callB hn hdf fun w s0 s1 mg mb fa o pm cd doc a vs ns G Y ho hd hcd hmg hobj hints hlen hbits hg => ?_
  have KX := hY w _ Y
  have tabs : ∀ nm ∈ genDefs, ∀ f, mg nm = some (.ref f) → LamX.OwnTab (K w.params) f s1.heap := fun nm hnm f hf => by
    intro c P o1 fd1 e dd vs1 sl q1 q2 q3 q4 q5
    obtain ⟨dL, hm, hn1⟩ := List.any_eq_true.mp (List.all_eq_true.mp hrec nm hnm)
    have en : dL.name = nm := beq_iff_eq.mp hn1
    obtain ⟨b1, b2, b3, b4, b5, r1, r2, r3, r4, r5, ⟨oc, vc, r6, _, r7, r8⟩, r9⟩ := G.T.tab dL hm
    have ef : f = b1 := by
      rw [en, hf] at r1
      cases r1
      rfl
    subst ef
    have eo : o1 = b2 := Option.some.inj ((KX _ _ q1).symm.trans r2)
    subst eo
    have efd : fd1 = b3 := by
      rw [q2] at r3
      cases r3
      rfl
    subst efd
    have ecc : c = b4 := by
      rw [q3] at r4
      cases r4
      rfl
    subst ecc
    have eob := Option.some.inj ((KX _ _ q4).symm.trans r6)
    subst eob
    cases r7
    rw [q5] at r8
    cases r8
    exact r9
  obtain ⟨fd, cs, sp, hT, nT, C, hb, hsp, hF⟩ := F w mg fa _ KX G.T.g hmg tabs
  exact LamX.law_callTs KX G.T.g G.T.b G.T.builtins G.T.nolimit hg hT nT C G.T.bmain hobj hints (Nat.le_trans hlen hn2) hr hF hb (fun H hH hS => hsp H a ns hlen hbits hH hS) fun H e s' => hCX w H s1 e s'
theorem tri0 : TriplesOk (#[] : Array Value).toList := True.intro
/-- what the top has written -/
theorem all_mk {l : PySem.W.OpenLaw} {w : World} {K : PySem.W.Frag} {h : Heap} {mg : Str → Option Value} {fa f0 f1 f2 f3 f4 f5 f6 f7 f8 f9 f10 f11 c1 P1 c3 P3 c5 P5 : Addr} {od0 an0 od1 an1 od2 an2 od3 an3 od4 an4 od5 an5 od6 an6 od7 an7 od8 an8 od9 an9 od10 an10 od11 an11 ed1 ed3 ed5 : Option Addr} {sl0 sl1 sl2 sl3 sl4 sl5 sl6 sl7 sl8 sl9 sl10 sl11 es1 es3 es5 : Array (Option Value)} {oc0 kV0 dc0 pm0 ct0 oc1 kV1 dc1 pm1 ct1 oc2 kV2 dc2 pm2 ct2 oc3 kV3 dc3 pm3 ct3 oc4 kV4 dc4 pm4 ct4 oc5 kV5 dc5 pm5 ct5 oc6 kV6 dc6 pm6 ct6 oc7 kV7 dc7 pm7 ct7 oc8 kV8 dc8 pm8 ct8 oc9 kV9 dc9 pm9 ct9 oc10 kV10 dc10 pm10 ct10 oc11 kV11 dc11 pm11 ct11 cd0 cd2 cd4 cd6 cd7 cd8 cd9 cd10 cd11 ec1 ec3 ec5 : Value} {ev1 ev3 ev5 : Array Value} {t4 t8 : Tok} (X : K.In h) (G : h.Ns mainGlobals mg) (hfa : mg "law" = some (.ref fa)) (tabs : ∀ nm ∈ genDefs, ∀ f, mg nm = some (.ref f) → LamX.OwnTab K f h)
    (a0 : PySem.W.nsIn K mainGlobals "is_in" = some (some (.ref f0)))
    (l0 : K.lookup f0 = some ⟨oc0, od0, .func (PySem.W.fnOf "is_in" "is_in" (defArgs sIsIn) (defBody sIsIn) (defScope sIsIn) .none kV0 dc0 pm0 an0 cd0 ct0), sl0⟩)
    (ci0 : PySem.W.codeIn K cd0 "is_in" = true)
    (k0 : PySem.W.keepIn K (.ref f0) = true)
    (a1 : PySem.W.nsIn K mainGlobals "need_distances" = some (some (.ref f1)))
    (l1 : K.lookup f1 = some ⟨oc1, od1, .func (PySem.W.fnOf "need_distances" "need_distances" (defArgs sNeed) (defBody sNeed) (defScope sNeed) .none kV1 dc1 pm1 an1 (.ref c1) ct1), sl1⟩)
    (ci1 : PySem.W.codeIn K (.ref c1) "need_distances" = true)
    (k1 : PySem.W.keepIn K (.ref f1) = true)
    (a2 : PySem.W.nsIn K mainGlobals "served" = some (some (.ref f2)))
    (l2 : K.lookup f2 = some ⟨oc2, od2, .func (PySem.W.fnOf "served" "served" (defArgs sServed) (defBody sServed) (defScope sServed) .none kV2 dc2 pm2 an2 cd2 ct2), sl2⟩)
    (ci2 : PySem.W.codeIn K cd2 "served" = true)
    (k2 : PySem.W.keepIn K (.ref f2) = true)
    (a3 : PySem.W.nsIn K mainGlobals "alive_states" = some (some (.ref f3)))
    (l3 : K.lookup f3 = some ⟨oc3, od3, .func (PySem.W.fnOf "alive_states" "alive_states" (defArgs sAlive) (defBody sAlive) (defScope sAlive) .none kV3 dc3 pm3 an3 (.ref c3) ct3), sl3⟩)
    (ci3 : PySem.W.codeIn K (.ref c3) "alive_states" = true)
    (k3 : PySem.W.keepIn K (.ref f3) = true)
    (a4 : PySem.W.nsIn K mainGlobals "ring_for" = some (some (.ref f4)))
    (l4 : K.lookup f4 = some ⟨oc4, od4, .func (PySem.W.fnOf "ring_for" "ring_for" (defArgs sRing) (defBody sRing) (defScope sRing) .none kV4 dc4 pm4 an4 cd4 ct4), sl4⟩)
    (ci4 : PySem.W.codeIn K cd4 "ring_for" = true)
    (k4 : PySem.W.keepIn K (.ref f4) = true)
    (a5 : PySem.W.nsIn K mainGlobals "shows_ring" = some (some (.ref f5)))
    (l5 : K.lookup f5 = some ⟨oc5, od5, .func (PySem.W.fnOf "shows_ring" "shows_ring" (defArgs sShows) (defBody sShows) (defScope sShows) .none kV5 dc5 pm5 an5 (.ref c5) ct5), sl5⟩)
    (ci5 : PySem.W.codeIn K (.ref c5) "shows_ring" = true)
    (k5 : PySem.W.keepIn K (.ref f5) = true)
    (a6 : PySem.W.nsIn K mainGlobals "_law_taken" = some (some (.ref f6)))
    (l6 : K.lookup f6 = some ⟨oc6, od6, .func (PySem.W.fnOf "_law_taken" "_law_taken" (defArgs sTaken) (defBody sTaken) (defScope sTaken) .none kV6 dc6 pm6 an6 cd6 ct6), sl6⟩)
    (ci6 : PySem.W.codeIn K cd6 "_law_taken" = true)
    (k6 : PySem.W.keepIn K (.ref f6) = true)
    (a7 : PySem.W.nsIn K mainGlobals "_law_pick" = some (some (.ref f7)))
    (l7 : K.lookup f7 = some ⟨oc7, od7, .func (PySem.W.fnOf "_law_pick" "_law_pick" (defArgs sPick) (defBody sPick) (defScope sPick) .none kV7 dc7 pm7 an7 cd7 ct7), sl7⟩)
    (ci7 : PySem.W.codeIn K cd7 "_law_pick" = true)
    (k7 : PySem.W.keepIn K (.ref f7) = true)
    (a8 : PySem.W.nsIn K mainGlobals "_law_alike" = some (some (.ref f8)))
    (l8 : K.lookup f8 = some ⟨oc8, od8, .func (PySem.W.fnOf "_law_alike" "_law_alike" (defArgs sAlike) (defBody sAlike) (defScope sAlike) .none kV8 dc8 pm8 an8 cd8 ct8), sl8⟩)
    (ci8 : PySem.W.codeIn K cd8 "_law_alike" = true)
    (k8 : PySem.W.keepIn K (.ref f8) = true)
    (a9 : PySem.W.nsIn K mainGlobals "_law_distances" = some (some (.ref f9)))
    (l9 : K.lookup f9 = some ⟨oc9, od9, .func (PySem.W.fnOf "_law_distances" "_law_distances" (defArgs sDists) (defBody sDists) (defScope sDists) .none kV9 dc9 pm9 an9 cd9 ct9), sl9⟩)
    (ci9 : PySem.W.codeIn K cd9 "_law_distances" = true)
    (k9 : PySem.W.keepIn K (.ref f9) = true)
    (a10 : PySem.W.nsIn K mainGlobals "_law_is_ring" = some (some (.ref f10)))
    (l10 : K.lookup f10 = some ⟨oc10, od10, .func (PySem.W.fnOf "_law_is_ring" "_law_is_ring" (defArgs sIsRing) (defBody sIsRing) (defScope sIsRing) .none kV10 dc10 pm10 an10 cd10 ct10), sl10⟩)
    (ci10 : PySem.W.codeIn K cd10 "_law_is_ring" = true)
    (k10 : PySem.W.keepIn K (.ref f10) = true)
    (a11 : PySem.W.nsIn K mainGlobals "law" = some (some (.ref f11)))
    (l11 : K.lookup f11 = some ⟨oc11, od11, .func (PySem.W.fnOf "law" "law" (defArgs sLaw) (defBody sLaw) (defScope sLaw) .none kV11 dc11 pm11 an11 cd11 ct11), sl11⟩)
    (ci11 : PySem.W.codeIn K cd11 "law" = true)
    (k11 : PySem.W.keepIn K (.ref f11) = true)
    (e1 : K.lookup c1 = some ⟨ec1, ed1, .fields ev1, es1⟩)
    (p1 : ev1[11]? = some (.ref P1))
    (h1 : PySem.W.codeHdIn K c1 P1 = true)
    (n1 : K.lookup P1 = none)
    (e3 : K.lookup c3 = some ⟨ec3, ed3, .fields ev3, es3⟩)
    (p3 : ev3[11]? = some (.ref P3))
    (h3 : PySem.W.codeHdIn K c3 P3 = true)
    (n3 : K.lookup P3 = none)
    (e5 : K.lookup c5 = some ⟨ec5, ed5, .fields ev5, es5⟩)
    (p5 : ev5[11]? = some (.ref P5))
    (h5 : PySem.W.codeHdIn K c5 P5 = true)
    (n5 : K.lookup P5 = none)
    (m4 : PySem.W.nsIn K mainGlobals "MOST_DISTANCES" = some (some (.int 4 t4)))
    (m8 : PySem.W.nsIn K mainGlobals "MOST_DISTANCE" = some (some (.int 8 t8)))
    (zlen : PySem.W.nsIn K mainGlobals "len" = some none)
    (zisi : PySem.W.nsIn K mainGlobals "isinstance" = some none)
    (zint : PySem.W.nsIn K mainGlobals "int" = some none)
    (zbool : PySem.W.nsIn K mainGlobals "bool" = some none)
    (ztuple : PySem.W.nsIn K mainGlobals "tuple" = some none)
    (zlist : PySem.W.nsIn K mainGlobals "list" = some none)
    (zstr : PySem.W.nsIn K mainGlobals "str" = some none)
    (zrange : PySem.W.nsIn K mainGlobals "range" = some none)
    (zall : PySem.W.nsIn K mainGlobals "all" = some none)
    (zany : PySem.W.nsIn K mainGlobals "any" = some none)
    (zenum : PySem.W.nsIn K mainGlobals "enumerate" = some none)
    (zdict : PySem.W.nsIn K mainGlobals "dict" = some none)
    (zmax : PySem.W.nsIn K mainGlobals "max" = some none)
    (zmin : PySem.W.nsIn K mainGlobals "min" = some none) :
    LamX.LawAtS l w K CX0 4 63 "_law_script" mg fa h := by
  have e := hfa.symm.trans (PySem.W.mg_of X G a11)
  cases e
  have F0 := fun_mk (st := sIsIn) l0 ci0 k0
  have F1 := fun_mk (st := sNeed) l1 ci1 k1
  have F2 := fun_mk (st := sServed) l2 ci2 k2
  have F3 := fun_mk (st := sAlive) l3 ci3 k3
  have F4 := fun_mk (st := sRing) l4 ci4 k4
  have F5 := fun_mk (st := sShows) l5 ci5 k5
  have F6 := fun_mk (st := sTaken) l6 ci6 k6
  have F7 := fun_mk (st := sPick) l7 ci7 k7
  have F8 := fun_mk (st := sAlike) l8 ci8 k8
  have F9 := fun_mk (st := sDists) l9 ci9 k9
  have F10 := fun_mk (st := sIsRing) l10 ci10 k10
  have F11 := fun_mk (st := sLaw) l11 ci11 k11
  have b0 := F0.binds (ps := ["value", "least", "most"]) fun _ _ _ _ _ _ us hl => match us, hl with | [_, _, _], _ => rfl
  have b1 := F1.binds (ps := ["distances"]) fun _ _ _ _ _ _ us hl => match us, hl with | [_], _ => rfl
  have b2 := F2.binds (ps := ["distances", "state", "index"]) fun _ _ _ _ _ _ us hl => match us, hl with | [_, _, _], _ => rfl
  have b3 := F3.binds (ps := ["distances"]) fun _ _ _ _ _ _ us hl => match us, hl with | [_], _ => rfl
  have b4 := F4.binds (ps := ["distances"]) fun _ _ _ _ _ _ us hl => match us, hl with | [_], _ => rfl
  have b5 := F5.binds (ps := ["distances", "value"]) fun _ _ _ _ _ _ us hl => match us, hl with | [_, _], _ => rfl
  have b6 := F6.binds (ps := ["_law_row", "_law_many"]) fun _ _ _ _ _ _ us hl => match us, hl with | [_, _], _ => rfl
  have b7 := F7.binds (ps := ["_law_row", "_law_things"]) fun _ _ _ _ _ _ us hl => match us, hl with | [_, _], _ => rfl
  have b8 := F8.binds (ps := ["_law_found", "_law_due"]) fun _ _ _ _ _ _ us hl => match us, hl with | [_, _], _ => rfl
  have b9 := F9.binds (ps := ["_law_row", "_law_most"]) fun _ _ _ _ _ _ us hl => match us, hl with | [_, _], _ => rfl
  have b10 := F10.binds (ps := ["_law_distances_here", "_law_value"]) fun _ _ _ _ _ _ us hl => match us, hl with | [_, _], _ => rfl
  let t : Tx K mg := { isi := { f := f0, fd := _, F := F0, b := b0, m := PySem.W.mg_of X G a0 }, need := { f := f1, fd := _, F := F1, b := b1, m := PySem.W.mg_of X G a1, c := c1, P := P1, code := rfl }, served := { f := f2, fd := _, F := F2, b := b2, m := PySem.W.mg_of X G a2 }, alive := { f := f3, fd := _, F := F3, b := b3, m := PySem.W.mg_of X G a3, c := c3, P := P3, code := rfl }, ring := { f := f4, fd := _, F := F4, b := b4, m := PySem.W.mg_of X G a4 }, shows := { f := f5, fd := _, F := F5, b := b5, m := PySem.W.mg_of X G a5, c := c5, P := P5, code := rfl }, taken := { f := f6, fd := _, F := F6, b := b6, m := PySem.W.mg_of X G a6 }, pick := { f := f7, fd := _, F := F7, b := b7, m := PySem.W.mg_of X G a7 }, alike := { f := f8, fd := _, F := F8, b := b8, m := PySem.W.mg_of X G a8 }, dists := { f := f9, fd := _, F := F9, b := b9, m := PySem.W.mg_of X G a9 }, isRing := { f := f10, fd := _, F := F10, b := b10, m := PySem.W.mg_of X G a10 }, t4 := t4, most4 := PySem.W.mg_of X G m4, t8 := t8, most8 := PySem.W.mg_of X G m8, zlen := PySem.W.mg_none_of X G zlen, zisi := PySem.W.mg_none_of X G zisi, zint := PySem.W.mg_none_of X G zint, zbool := PySem.W.mg_none_of X G zbool, ztuple := PySem.W.mg_none_of X G ztuple, zlist := PySem.W.mg_none_of X G zlist, zstr := PySem.W.mg_none_of X G zstr, zrange := PySem.W.mg_none_of X G zrange, zall := PySem.W.mg_none_of X G zall, zany := PySem.W.mg_none_of X G zany, zenum := PySem.W.mg_none_of X G zenum, zdict := PySem.W.mg_none_of X G zdict, zmax := PySem.W.mg_none_of X G zmax, zmin := PySem.W.mg_none_of X G zmin }
  have all3 : ∀ (Z : Addr × Addr → Prop), Z (c1, P1) → Z (c3, P3) → Z (c5, P5) → ∀ p ∈ [(c1, P1), (c3, P3), (c5, P5)], Z p := fun Z z1 z2 z3 p hp => by
    rcases List.mem_cons.mp hp with e | hp
    · rw [e]; exact z1
    rcases List.mem_cons.mp hp with e | hp
    · rw [e]; exact z2
    · rw [List.mem_singleton.mp hp]; exact z3
  refine ⟨PySem.W.fnOf "law" "law" (defArgs sLaw) (defBody sLaw) (defScope sLaw) .none kV11 dc11 pm11 an11 cd11 ct11, [(c1, P1), (c3, P3), (c5, P5)], spLaw t.T K, all3 _ (tabs "need_distances" (by decide) f1 (PySem.W.mg_of X G a1) c1 P1 _ _ _ _ _ _ l1 rfl rfl e1 p1) (tabs "alive_states" (by decide) f3 (PySem.W.mg_of X G a3) c3 P3 _ _ _ _ _ _ l3 rfl rfl e3 p3) (tabs "shows_ring" (by decide) f5 (PySem.W.mg_of X G a5) c5 P5 _ _ _ _ _ _ l5 rfl rfl e5 p5), all3 _ n1 n3 n5, all3 _ (PySem.W.codeHd_of_K X h1) (PySem.W.codeHd_of_K X h3) (PySem.W.codeHd_of_K X h5), fun s v => .of_eq rfl, fun H a ns _ _ hT hS => ⟨a, ns, rfl, hS, ?_, fun _ => rfl⟩, fun base _ _ TB => ?_⟩
  · intro P hP
    have hP' : P ∈ [P1, P3, P5] := hP
    have three := hT
    rcases List.mem_cons.mp hP' with e | hP'
    · rw [e]; exact ⟨#[], hT (c1, P1) (by simp), tri0⟩
    rcases List.mem_cons.mp hP' with e | hP'
    · rw [e]; exact ⟨#[], hT (c3, P3) (by simp), tri0⟩
    · rw [List.mem_singleton.mp hP']; exact ⟨#[], hT (c5, P5) (by simp), tri0⟩
  · have cv : ∀ c P, (c, P) ∈ [(c1, P1), (c3, P3), (c5, P5)] → TabB base mg c P := fun c P hm => let b := TB (c, P) hm; ⟨b.code, b.bm, b.gP⟩
    exact ok_law t ⟨cv c1 P1 (by simp), cv c3 P3 (by simp), cv c5 P5 (by simp)⟩ F11
end Rg

open PySem PySem.W PyProof.Rows
set_option maxRecDepth 100000 in
set_option maxHeartbeats 0 in
theorem PySem.Challenge.cw_eventcore_k65_whole_rings_judged_holds : PySem.Challenge.rw_eventcore_k65_whole_rings_judged.Holds := by
  w_on; o_law; k_head; (case hw => w_witness2)
  k_fill
  refine Rg.walk_ofAll (l := PySem.Challenge.rw_eventcore_k65_whole_rings_judged) (n := 63) (k := 4) (x := "_law_script") (CX := fun _ => L2.CX0) rfl (by decide) rfl ⟨rfl, by decide, by decide⟩ ?HR (fun w h Y => PySem.W.kIn_of Y) ?F (fun _ _ _ _ _ z => z)
  case HR => decide +kernel
  case F =>
    intro w mg fa h KX G hmg tabs
    refine' Rg.all_mk KX G hmg tabs ?a0 ?l0 ?ci0 ?k0 ?a1 ?l1 ?ci1 ?k1 ?a2 ?l2 ?ci2 ?k2 ?a3 ?l3 ?ci3 ?k3 ?a4 ?l4 ?ci4 ?k4 ?a5 ?l5 ?ci5 ?k5 ?a6 ?l6 ?ci6 ?k6 ?a7 ?l7 ?ci7 ?k7 ?a8 ?l8 ?ci8 ?k8 ?a9 ?l9 ?ci9 ?k9 ?a10 ?l10 ?ci10 ?k10 ?a11 ?l11 ?ci11 ?k11 ?e1 ?p1 ?h1 ?n1 ?e3 ?p3 ?h3 ?n3 ?e5 ?p5 ?h5 ?n5 ?m4 ?m8 ?zlen ?zisi ?zint ?zbool ?ztuple ?zlist ?zstr ?zrange ?zall ?zany ?zenum ?zdict ?zmax ?zmin
    (case a0 => k_is)
    (case l0 => k_is)
    (case ci0 => k_is)
    (case k0 => k_is)
    (case a1 => k_is)
    (case l1 => k_is)
    (case ci1 => k_is)
    (case k1 => k_is)
    (case a2 => k_is)
    (case l2 => k_is)
    (case ci2 => k_is)
    (case k2 => k_is)
    (case a3 => k_is)
    (case l3 => k_is)
    (case ci3 => k_is)
    (case k3 => k_is)
    (case a4 => k_is)
    (case l4 => k_is)
    (case ci4 => k_is)
    (case k4 => k_is)
    (case a5 => k_is)
    (case l5 => k_is)
    (case ci5 => k_is)
    (case k5 => k_is)
    (case a6 => k_is)
    (case l6 => k_is)
    (case ci6 => k_is)
    (case k6 => k_is)
    (case a7 => k_is)
    (case l7 => k_is)
    (case ci7 => k_is)
    (case k7 => k_is)
    (case a8 => k_is)
    (case l8 => k_is)
    (case ci8 => k_is)
    (case k8 => k_is)
    (case a9 => k_is)
    (case l9 => k_is)
    (case ci9 => k_is)
    (case k9 => k_is)
    (case a10 => k_is)
    (case l10 => k_is)
    (case ci10 => k_is)
    (case k10 => k_is)
    (case a11 => k_is)
    (case l11 => k_is)
    (case ci11 => k_is)
    (case k11 => k_is)
    (case e1 => k_is)
    (case p1 => rfl)
    (case h1 => rfl)
    (case n1 => rfl)
    (case e3 => k_is)
    (case p3 => rfl)
    (case h3 => rfl)
    (case n3 => rfl)
    (case e5 => k_is)
    (case p5 => rfl)
    (case h5 => rfl)
    (case n5 => rfl)
    (case m4 => k_is)
    (case m8 => k_is)
    (case zlen => k_is)
    (case zisi => k_is)
    (case zint => k_is)
    (case zbool => k_is)
    (case ztuple => k_is)
    (case zlist => k_is)
    (case zstr => k_is)
    (case zrange => k_is)
    (case zall => k_is)
    (case zany => k_is)
    (case zenum => k_is)
    (case zdict => k_is)
    (case zmax => k_is)
    (case zmin => k_is)
