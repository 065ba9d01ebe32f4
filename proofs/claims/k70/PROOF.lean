import PyProof.Rows.All
import Wide.All
import OpenK.AllK
import Wide.FinOn
import HandS.ForMost
import HandS.Flow
import HandS.Style
import HandS.Strs
import HandS.Conv
import HandS.Zip
import HandS.TupMul
import HandS.TupAny
import HandS.SortKw
import HandS.IsInst
import HandS.FStr
import HandS.DictComp
import HandS.ListItems
import HandS.Wide
import HandS.Small
import HandS.Defaults
import HandS.Star
import HandS.ClsMeth
import HandS.ExcInit
import HandS.ExcField
import HandS.WordsExc
import HandS.HotCalls
import HandS.Lambda
import HandS.EndTab
import HandS.HeadWalk
import HandS.Head2
import HandS.HeadHook4
import HandS.Evl
import PySem.Challenge.RW_firstdecides_k70_whole_orders_as_weights
import KE.GoesEnum
import KE.GoesMore
import KE.GoesZip
import KE.DataMinMax
import PyProof.TupleOfSeq
import HandS.More
import KE.KTryMore
import PyProof.ReprLen
import PyProof.CallFns
import PyProof.ReprRoads
import PyProof.FitsInt
import HandS.HeadNt
import HandS.Head0
import KE.KStateDown
set_option Elab.async false
set_option linter.all false
set_option maxRecDepth 100000
set_option maxHeartbeats 0
/-! The plain law of weights: sums from the last reason up, and what they are worth against a vector. No program here. -/
namespace Kb
/-! ### sums from the end -/
/-- what the reasons of a rest come to: each has the weight 1 plus what comes to below it, times its greatest number -/
def bl : List Int → Int
  | [] => 0
  | m :: r => bl r + (1 + bl r) * m
theorem bl_nonneg : ∀ {l : List Int}, (∀ m ∈ l, 0 ≤ m) → 0 ≤ bl l
  | [], _ => Int.le_refl 0
  | m :: r, h => by
    have h1 := bl_nonneg (l := r) fun z hz => h z (List.mem_cons_of_mem _ hz)
    have h2 := h m List.mem_cons_self
    have h3 : 0 ≤ (1 + bl r) * m := Int.mul_nonneg (by omega) h2
    show 0 ≤ bl r + (1 + bl r) * m
    omega
section
variable {α : Type}
/-- the sum along an order: f the numbers, mg the greatest sizes -/
def sm (f mg : α → Int) : List α → Int
  | [] => 0
  | x :: r => f x * (1 + bl (r.map mg)) + sm f mg r
theorem mul_le_of {a b c : Int} (h1 : -b ≤ a) (h2 : a ≤ b) (hc : 0 ≤ c) : -(c * b) ≤ a * c ∧ a * c ≤ c * b := by
  have e1 := Int.mul_le_mul_of_nonneg_right h2 hc
  have e2 := Int.mul_le_mul_of_nonneg_right h1 hc
  rw [Int.neg_mul] at e2
  rw [Int.mul_comm c b]
  exact ⟨e2, e1⟩
theorem sm_bound {f mg : α → Int} : ∀ {l : List α}, (∀ x ∈ l, -(mg x) ≤ f x ∧ f x ≤ mg x) → -(bl (l.map mg)) ≤ sm f mg l ∧ sm f mg l ≤ bl (l.map mg)
  | [], _ => ⟨Int.le_refl _, Int.le_refl _⟩
  | x :: r, h => by
    obtain ⟨i1, i2⟩ := sm_bound (l := r) fun z hz => h z (List.mem_cons_of_mem _ hz)
    obtain ⟨h1, h2⟩ := h x List.mem_cons_self
    have hb : 0 ≤ bl (r.map mg) := bl_nonneg fun m hm => by
      obtain ⟨z, hz, e⟩ := List.mem_map.mp hm
      obtain ⟨q1, q2⟩ := h z (List.mem_cons_of_mem _ hz)
      omega
    obtain ⟨k1, k2⟩ := mul_le_of (c := 1 + bl (r.map mg)) h1 h2 (by omega)
    show -(bl (r.map mg) + (1 + bl (r.map mg)) * mg x) ≤ f x * (1 + bl (r.map mg)) + sm f mg r ∧ f x * (1 + bl (r.map mg)) + sm f mg r ≤ bl (r.map mg) + (1 + bl (r.map mg)) * mg x
    omega
/-- the first number that is not 0 is above 0 -/
def lead (f : α → Int) : List α → Prop
  | [] => False
  | x :: r => 0 < f x ∨ (f x = 0 ∧ lead f r)
theorem sm_pos {f mg : α → Int} : ∀ {l : List α}, (∀ x ∈ l, -(mg x) ≤ f x ∧ f x ≤ mg x) → lead f l → 0 < sm f mg l
  | [], _, h => h.elim
  | x :: r, h, hl => by
    have hr : ∀ z ∈ r, -(mg z) ≤ f z ∧ f z ≤ mg z := fun z hz => h z (List.mem_cons_of_mem _ hz)
    show 0 < f x * (1 + bl (r.map mg)) + sm f mg r
    rcases hl with hp | ⟨h0, hl⟩
    · obtain ⟨i1, i2⟩ := sm_bound hr
      have hb : 0 ≤ bl (r.map mg) := by omega
      have k : 1 * (1 + bl (r.map mg)) ≤ f x * (1 + bl (r.map mg)) := Int.mul_le_mul_of_nonneg_right (by omega) (by omega)
      omega
    · have i := sm_pos hr hl
      rw [h0, Int.zero_mul]
      omega
/-- whether the order bears the row: read off the numbers -/
def brs (f : α → Int) : List α → Bool
  | [] => true
  | x :: r => if 0 < f x then true else if f x < 0 then false else brs f r
theorem brs_lead {f : α → Int} : ∀ {l : List α}, (∃ x ∈ l, f x ≠ 0) → brs f l = true → lead f l
  | [], ⟨x, hx, _⟩, _ => by cases hx
  | x :: r, he, h => by
    unfold brs at h
    by_cases h1 : 0 < f x
    · exact .inl h1
    · rw [if_neg h1] at h
      by_cases h2 : f x < 0
      · rw [if_pos h2] at h
        cases h
      · rw [if_neg h2] at h
        have h0 : f x = 0 := by omega
        refine .inr ⟨h0, brs_lead ?_ h⟩
        obtain ⟨z, hz, n⟩ := he
        rcases List.mem_cons.mp hz with e | e
        · rw [e] at n
          exact absurd h0 n
        · exact ⟨z, e, n⟩
theorem brs_not {f : α → Int} : ∀ {l : List α}, brs f l = false → lead (fun x => -(f x)) l
  | [], h => by cases h
  | x :: r, h => by
    unfold brs at h
    by_cases h1 : 0 < f x
    · rw [if_pos h1] at h
      cases h
    · rw [if_neg h1] at h
      by_cases h2 : f x < 0
      · exact .inl (by show 0 < -(f x); omega)
      · rw [if_neg h2] at h
        exact .inr ⟨by show -(f x) = 0; omega, brs_not h⟩
theorem lead_brs {f : α → Int} : ∀ {l : List α}, lead f l → brs f l = true
  | [], h => h.elim
  | x :: r, h => by
    unfold brs
    rcases h with h | ⟨h0, h⟩
    · rw [if_pos h]
    · rw [if_neg (by omega), if_neg (by omega)]
      exact lead_brs h
/-- the weight of a name in an order -/
def wt [DecidableEq α] (mg : α → Int) (ns : List α) (x : α) : Int := 1 + bl ((ns.drop (ns.idxOf x + 1)).map mg)
theorem idx_mid [DecidableEq α] {p r : List α} {x : α} (h : ¬ x ∈ p) : (p ++ x :: r).idxOf x = p.length := by
  rw [List.idxOf_append, if_neg h, List.idxOf_cons_self]
  omega
theorem drop_mid {p r : List α} {x : α} : (p ++ x :: r).drop (p.length + 1) = r := by
  rw [show p ++ x :: r = (p ++ [x]) ++ r by simp, List.drop_left' (by simp)]
theorem wt_at [DecidableEq α] {mg : α → Int} {p r : List α} {x : α} (h : ¬ x ∈ p) : wt mg (p ++ x :: r) x = 1 + bl (r.map mg) := by
  unfold wt
  rw [idx_mid h, drop_mid]
theorem sm_wt [DecidableEq α] {f mg : α → Int} : ∀ {l p : List α}, (p ++ l).Nodup → sm f mg l = (l.map fun x => f x * wt mg (p ++ l) x).sum
  | [], _, _ => rfl
  | x :: r, p, h => by
    have hx : ¬ x ∈ p := fun m => by
      have q := (List.nodup_append.mp h).2.2 x m x List.mem_cons_self
      exact q rfl
    have e : p ++ x :: r = (p ++ [x]) ++ r := by simp
    have ih := sm_wt (f := f) (mg := mg) (l := r) (p := p ++ [x]) (by rw [← e]; exact h)
    rw [List.map_cons, List.sum_cons, wt_at hx]
    show f x * (1 + bl (r.map mg)) + sm f mg r = _
    rw [ih, ← e]
theorem wt_nonneg [DecidableEq α] {mg : α → Int} {ns : List α} (x : α) (h : ∀ z ∈ ns, 0 ≤ mg z) : 1 ≤ wt mg ns x := by
  unfold wt
  have hb : 0 ≤ bl ((ns.drop (ns.idxOf x + 1)).map mg) := bl_nonneg fun m hm => by
    obtain ⟨z, hz, e⟩ := List.mem_map.mp hm
    rw [← e]
    exact h z (List.mem_of_mem_drop hz)
  omega
theorem perm_sum {g : α → Int} {l k : List α} (h : l.Perm k) : (l.map g).sum = (k.map g).sum := by
  induction h with
  | nil => rfl
  | cons x _ ih => rw [List.map_cons, List.map_cons, List.sum_cons, List.sum_cons, ih]
  | swap x y l =>
    simp only [List.map_cons, List.sum_cons]
    omega
  | trans _ _ i1 i2 => rw [i1, i2]
end
end Kb
/-! The text by places, and what a def of it is to its callers. -/
namespace Kb
open PySem PySem.Spec PyProof.Rows L2
/-! ### the text -/
def top (i : Nat) : Stmt := PySem.Challenge.pw_firstdecides_k70_whole_orders_as_weights.main.body.getD i (.Pass ⟨0, 0, 0, 0⟩)
/-- a def of the top, with no defaults, as its callers find it -/
structure DefAt (K : PySem.W.Frag) (mg : Str → Option Value) (x : Str) (st : Stmt) (f : Addr) (fd : FuncData) : Prop where
  fn : FunD K x x (defArgs st) (defBody st) (defScope st) [] [] f fd
  gl : mg x = some (.ref f)
/-- what callers know of a def: where it stands, what it promises -/
structure Cal (P : Program) (w : World) (K : PySem.W.Frag) (mg : Str → Option Value) (base : Heap) (k : Nat) (x : Str) (ps : List Str) (sp : Sp) (f : Addr) (fd : FuncData) : Prop where
  ok : FnOk P w K mg base (L2.CX P w) k f fd ps sp
  kp : PySem.W.keepIn K (.ref f) = true
  gl : mg x = some (.ref f)
  bn : Binds K fd ps []
section
variable {P : Program} {w : World} {K : PySem.W.Frag} {mg : Str → Option Value} {base : Heap} {x : Str} {st : Stmt} {f : Addr} {fd : FuncData} {N ps : List Str} {k : Nat} {sp : Sp}
theorem Cal.mono {j : Nat} (C : Cal P w K mg base j x ps sp f fd) (h : j ≤ k) : Cal P w K mg base k x ps sp f fd := ⟨C.ok.mono h, C.kp, C.gl, C.bn⟩
/-- a def whose body lets nothing out -/
theorem DefAt.cal (D : DefAt K mg x st f fd) (S : FnScope N ps (defScope st))
    (b : ∀ (kV doc pm : Value) (an : Option Addr) (cdv ct : Value) (us : List Value), us.length = ps.length → bindArgs (PySem.W.fnOf x x (defArgs st) (defBody st) (defScope st) .none kV doc pm an cdv ct) ⟨us, []⟩ = pure (ps.zip us))
    (len : ∀ vs H Q E, sp vs H Q E → vs.length = ps.length)
    (hbody : ∀ (cdv : Value) (A : Around) (outer : List Env) (s : Shared) (H : Hp) (vs : List V) (Q : VK) (E : XK), Room k (A.deeper (envOfC x (defScope st) s.heap.objs.size f cdv)) → sp vs H Q E →
      ∃ t, PSs (cxOf (L2.CX P w) P w K mg base N x (defScope st) f cdv A outer s H E).nox (defBody st) t ∧ t { nx := fun _ H' => Q .non H', rt := Q } (start N vs) H) :
    Cal P w K mg base (k + 1) x ps sp f fd :=
  ⟨D.fn.ok S len fun cdv A outer s H vs Q E hr h => let ⟨t, a, b⟩ := hbody cdv A outer s H vs Q E hr h; ⟨t, a.nox, b⟩, D.fn.kp, D.gl, D.fn.bindsN b⟩
/-- a def whose body may raise -/
theorem DefAt.calX (D : DefAt K mg x st f fd) (S : FnScope N ps (defScope st))
    (b : ∀ (kV doc pm : Value) (an : Option Addr) (cdv ct : Value) (us : List Value), us.length = ps.length → bindArgs (PySem.W.fnOf x x (defArgs st) (defBody st) (defScope st) .none kV doc pm an cdv ct) ⟨us, []⟩ = pure (ps.zip us))
    (len : ∀ vs H Q E, sp vs H Q E → vs.length = ps.length)
    (hbody : ∀ (cdv : Value) (A : Around) (outer : List Env) (s : Shared) (H : Hp) (vs : List V) (Q : VK) (E : XK), Room k (A.deeper (envOfC x (defScope st) s.heap.objs.size f cdv)) → sp vs H Q E →
      ∃ t, PSs (cxOf (L2.CX P w) P w K mg base N x (defScope st) f cdv A outer s H E) (defBody st) t ∧ t { nx := fun _ H' => Q .non H', rt := Q } (start N vs) H) :
    Cal P w K mg base (k + 1) x ps sp f fd := ⟨D.fn.ok S len hbody, D.fn.kp, D.gl, D.fn.bindsN b⟩
end
section
variable {X : Cx} {k : Nat} {x : Str} {ps : List Str} {sp : Sp} {f : Addr} {fd : FuncData} {e : Expr} {es : List Expr} {t : TA} {p pos : Pos}
/-- x(e, ..): nothing leaves -/
theorem pe_cal (C : Cal X.prog X.w X.K X.mg X.base k x ps sp f fd) (hr : Room k X.A) (hg : Gl X x) (ha : PA X (e :: es) t)
    (hdb : (x == ("__debug__" : Str)) = false := by decide) (he : starEach (e :: es) X.env = (false, eval e X.env) :: starEach es X.env := by rfl) (hpl : (backTo pos (starEach es X.env)).any (·.1) = false := by rfl) :
    PE X (.Call (.Name x p) (e :: es) [] pos) (tCall sp [] E0 t) := pe_call C.ok hr hg C.gl C.kp C.bn .nil passL ha hdb he hpl
/-- x(e, ..): what leaves it leaves here too -/
theorem pe_calE {E : XK} (C : Cal X.prog X.w X.K X.mg X.base k x ps sp f fd) (hr : Room k X.A) (hg : Gl X x) (hx : Passes (L2.CX X.prog X.w) X E) (ha : PA X (e :: es) t)
    (hdb : (x == ("__debug__" : Str)) = false := by decide) (he : starEach (e :: es) X.env = (false, eval e X.env) :: starEach es X.env := by rfl) (hpl : (backTo pos (starEach es X.env)).any (·.1) = false := by rfl) :
    PE X (.Call (.Name x p) (e :: es) [] pos) (tCall sp [] E t) := pe_call C.ok hr hg C.gl C.kp C.bn .nil hx ha hdb he hpl
end
/-! ### heaps -/
theorem same_new {H : Hp} {p : Addr} {o : HO} (h : H p = none) : Same H (upd H p o) := fun b x e => by
  rw [upd_ne (ne_of_none e h)]
  exact e
theorem Same.rd {H H' : Hp} {a : Addr} {u : HO} (e : Same H H') (h : Rd H a u) : Rd H' a u := by
  rcases h with h | ⟨o, h⟩
  · exact .inl (e _ _ h)
  · exact .inr ⟨o, e _ _ h⟩
theorem Same.tup {K : PySem.W.Frag} {H H' : Hp} {a : Addr} {xs : List V} (e : Same H H') (h : SqT K H a xs) : SqT K H' a xs := by
  rcases h with h | h
  · exact .inl (Kb.Same.rd e h)
  · exact .inr h
theorem Same.tyX {K : PySem.W.Frag} {H H' : Hp} {v : V} {t : Value} (e : Same H H') (h : TyX K H v t) : TyX K H' v t := by
  cases h with
  | base h =>
    cases h with
    | non => exact .base .non
    | bl x => exact .base (.bl x)
    | int i => exact .base (.int i)
    | str x => exact .base (.str x)
    | flt x => exact .base (.flt x)
    | lst q => exact .base (.lst (e _ _ q))
    | frz q => exact .base (.frz (e _ _ q))
    | tup q => exact .base (.tup (e _ _ q))
    | dK q => exact .base (.dK (e _ _ q))
    | dT q => exact .base (.dT (e _ _ q))
    | ins q cl ha hn htk hm => exact .base (.ins (e _ _ q) cl ha hn htk hm)
  | byt b => exact .byt b
  | set q => exact .set (e _ _ q)
  | kList q c => exact .kList q c
  | kTuple q c => exact .kTuple q c
  | kDict q c => exact .kDict q c
  | fTuple q => exact .fTuple (e _ _ q)
  | fDict q => exact .fDict (e _ _ q)
theorem tyL {K : PySem.W.Frag} {H : Hp} {a : Addr} {xs : List V} (h : SqL K H a xs) : TyX K H (.ref a) (.type "list") := by
  rcases h with (h | ⟨o, h⟩) | ⟨o, its, n, q, c, r⟩
  · exact .base (.lst h)
  · exact .base (.frz h)
  · exact .kList q c
theorem tyT {K : PySem.W.Frag} {H : Hp} {a : Addr} {xs : List V} (h : SqT K H a xs) : TyX K H (.ref a) (.type "tuple") := by
  rcases h with (h | ⟨o, h⟩) | ⟨o, its, n, q, c, r⟩
  · exact .base (.tup h)
  · exact .fTuple h
  · exact .kTuple q c
theorem sz {n : Nat} (h : n ≤ 100000) : n ≤ sizeLine := Nat.le_trans h (by decide)
theorem szl {n : Nat} (h : n < 100000) : n < sizeLine := Nat.lt_of_lt_of_le h (by decide)
end Kb
/-! Loops and comprehensions over any source, by an invariant. -/
namespace Kb
open PySem PySem.Spec PyProof.Rows L2
/-- a source of n items: while Kp holds it yields, at turn i, what R says -/
structure Src (J : It) (n : Nat) (Kp : Hp → Prop) (R : Nat → V → Hp → Prop) : Prop where
  go : ∀ i H, i < n → Kp H → J.go i H
  stop : ∀ H, Kp H → J.stop n H
  yld : ∀ i H x H', i < n → Kp H → J.yld i H x H' → Same H H' ∧ R i x H'
section
variable {K : PySem.W.Frag}
theorem srcL (a : Addr) (xs : List V) : Src (Itl K a) xs.length (fun H => SqL K H a xs) (fun i x _ => xs[i]? = some x) :=
  ⟨fun i H h hS => ⟨xs, xs[i], hS, List.getElem?_eq_getElem h⟩, fun H hS => ⟨xs, hS, Nat.le_refl _⟩, fun i H x H' _ hS ⟨e, y⟩ => by
    subst e
    exact ⟨fun _ _ q => q, y xs hS⟩⟩
theorem srcT (a : Addr) (xs : List V) : Src (Itt K a) xs.length (fun H => SqT K H a xs) (fun i x _ => xs[i]? = some x) :=
  ⟨fun i H h hS => ⟨xs, xs[i], hS, List.getElem?_eq_getElem h⟩, fun H hS => ⟨xs, hS, Nat.le_refl _⟩, fun i H x H' _ hS ⟨e, y⟩ => by
    subst e
    exact ⟨fun _ _ q => q, y xs hS⟩⟩
theorem srcS (z : Str) : Src (Its z) z.cps.size (fun _ => True) (fun i x _ => ∃ c, z.cps[i]? = some c ∧ x = .str ⟨#[c]⟩) :=
  ⟨fun i H h _ => h, fun H _ => Nat.le_refl _, fun i H x H' _ _ ⟨e, y⟩ => by
    subst e
    exact ⟨fun _ _ q => q, y⟩⟩
theorem srcR (lo : Int) (n : Nat) : Src (Itr lo n) n (fun _ => True) (fun i x _ => x = .int (lo + (i : Nat))) :=
  ⟨fun i H h _ => h, fun H _ => Nat.le_refl _, fun i H x H' _ _ ⟨e, y⟩ => by
    subst e
    exact ⟨fun _ _ q => q, y⟩⟩
theorem srcRc (lo c : Int) (n : Nat) : Src (Itc lo c n) n (fun _ => True) (fun i x _ => x = .int (lo + (i : Nat) * c)) :=
  ⟨fun i H h _ => h, fun H _ => Nat.le_refl _, fun i H x H' _ _ ⟨e, y⟩ => by
    subst e
    exact ⟨fun _ _ q => q, y⟩⟩
/-- a pair just made -/
def PairAt (x y : V) (v : V) (H : Hp) : Prop := ∃ T, v = .ref T ∧ H T = some (.tup [x, y])
theorem srcZL (a b : Addr) (xs ys : List V) (h : xs.length = ys.length) : Src (Itz K a b) xs.length (fun H => SqL K H a xs ∧ SqL K H b ys) (fun i v H => ∃ x y, xs[i]? = some x ∧ ys[i]? = some y ∧ PairAt x y v H) :=
  ⟨fun i H hi ⟨h1, h2⟩ => ⟨xs, ys, xs[i], ys[i], h1, h2, List.getElem?_eq_getElem hi, List.getElem?_eq_getElem _⟩, fun H ⟨h1, h2⟩ => ⟨xs, ys, h1, h2, .inl (Nat.le_refl _)⟩, fun i H v H' hi ⟨h1, h2⟩ ⟨T, x, y, ev, nT, eH, f1, f2⟩ => by
    subst eH
    exact ⟨same_new nT, x, y, f1 _ h1, f2 _ h2, T, ev, upd_same⟩⟩
theorem srcZT (a b : Addr) (xs ys : List V) (h : xs.length = ys.length) : Src (RZ.ItzT K a b) xs.length (fun H => SqT K H a xs ∧ SqT K H b ys) (fun i v H => ∃ x y, xs[i]? = some x ∧ ys[i]? = some y ∧ PairAt x y v H) :=
  ⟨fun i H hi ⟨h1, h2⟩ => ⟨xs, ys, xs[i], ys[i], h1, h2, List.getElem?_eq_getElem hi, List.getElem?_eq_getElem _⟩, fun H ⟨h1, h2⟩ => ⟨xs, ys, h1, h2, .inl (Nat.le_refl _)⟩, fun i H v H' hi ⟨h1, h2⟩ ⟨T, x, y, ev, nT, eH, f1, f2⟩ => by
    subst eH
    exact ⟨same_new nT, x, y, f1 _ h1, f2 _ h2, T, ev, upd_same⟩⟩
theorem srcE (a : Addr) (xs : List V) : Src (Ite K a) xs.length (fun H => SqL K H a xs) (fun i v H => ∃ x, xs[i]? = some x ∧ PairAt (.int (i : Nat)) x v H) :=
  ⟨fun i H hi h1 => ⟨xs, xs[i], h1, List.getElem?_eq_getElem hi⟩, fun H h1 => ⟨xs, h1, Nat.le_refl _⟩, fun i H v H' hi h1 ⟨T, x, ev, nT, eH, f1⟩ => by
    subst eH
    exact ⟨same_new nT, x, f1 _ h1, T, ev, upd_same⟩⟩
end
/-! ### what stands through changes of lists -/
/-- all but lists stand -/
def SameT (H H' : Hp) : Prop := ∀ b o, H b = some o → (∀ xs, o ≠ .lst xs) → H' b = some o
theorem SameT.of {H H' : Hp} (e : Same H H') : SameT H H' := fun b o h _ => e b o h
theorem SameT.trans {H H1 H2 : Hp} (a : SameT H H1) (b : SameT H1 H2) : SameT H H2 := fun c o h n => b c o (a c o h n) n
theorem SameT.put {H : Hp} {D : Addr} {acc ys : List V} (h : H D = some (.lst acc)) : SameT H (upd H D (.lst ys)) := fun b o e n => by
  by_cases hb : b = D
  · rw [hb, h] at e
    exact absurd (Option.some.inj e).symm (n acc)
  · rw [upd_ne hb]
    exact e
theorem SameT.tup {H H' : Hp} {a : Addr} {xs : List V} (e : SameT H H') (h : H a = some (.tup xs)) : H' a = some (.tup xs) := e _ _ h fun _ z => nomatch z
theorem SameT.ins {H H' : Hp} {a C dx : Addr} {fs : List (Str × V)} (e : SameT H H') (h : H a = some (.ins C dx fs)) : H' a = some (.ins C dx fs) := e _ _ h fun _ z => nomatch z
theorem SameT.sqT {K : PySem.W.Frag} {H H' : Hp} {a : Addr} {xs : List V} (e : SameT H H') (h : SqT K H a xs) : SqT K H' a xs := by
  rcases h with (h | ⟨o, h⟩) | h
  · exact .inl (.inl (e _ _ h fun _ z => nomatch z))
  · exact .inl (.inr ⟨o, e _ _ h fun _ z => nomatch z⟩)
  · exact .inr h
/-- a list that H does not know may change -/
theorem same_put {H H' : Hp} {D : Addr} {o : HO} (e : Same H H') (h : H D = none) : Same H (upd H' D o) := fun b x q => by
  rw [upd_ne (ne_of_none q h)]
  exact e _ _ q
/-! ### comprehensions -/
theorem lcI {J : It} {n : Nat} {Kp : Hp → Prop} {R : Nat → V → Hp → Prop} {g : TG} {tt : TT} {te : TE} {vs : List Nat} {σ : L2.St} {H1 : Hp} {Q : Addr → Hp → Prop} (S : Src J n Kp R) (hn : n ≤ 1000) (I : Nat → List V → Hp → Prop)
    (st : ∀ i acc H H', SameT H H' → I i acc H → I i acc H') (h0 : I 0 [] H1) (hK : ∀ H, Same H1 H → Kp H)
    (step : ∀ i x acc H, i < n → R i x H → Same H1 H → I i acc H → ∀ (Y : VK) (Z : Hp → Prop), (∀ y H4, Same H H4 → I (i + 1) (acc ++ [y]) H4 → Y y H4) → (∀ H4, Same H H4 → I (i + 1) acc H4 → Z H4) →
      g x (wipe σ vs) H fun σ2 H2 => wipe σ2 vs = wipe σ vs ∧ tt σ2 H2 fun b H3 => if b = true then te σ2 H3 Y else Z H3)
    (hq : ∀ D acc H', H1 D = none → Same H1 H' → H' D = some (.lst acc) → I n acc H' → Q D H') :
    ∀ D, H1 D = none → ∃ W : Nat → Nat → Hp → Prop, (∃ m, W 0 m (upd H1 D (.lst []))) ∧ ∀ i m H, W i m H →
      (J.stop i H ∧ Q D H) ∨ (J.go i H ∧ ∃ Nx : Hp → Prop, (∀ H', Nx H' → ∃ m', m' < m ∧ W (i + 1) m' H') ∧ ∀ x H', J.yld i H x H' → g x (wipe σ vs) H' fun σ2 H2 => wipe σ2 vs = wipe σ vs ∧ tt σ2 H2 fun b H3 =>
        if b = true then te σ2 H3 fun y H4 => ∃ acc, H4 D = some (.lst acc) ∧ acc.length < sizeLine ∧ Nx (upd H4 D (.lst (acc ++ [y]))) else Nx H3) := by
  intro D hD
  refine ⟨fun i m H => m = n - i ∧ i ≤ n ∧ ∃ acc, Same H1 H ∧ H D = some (.lst acc) ∧ acc.length ≤ i ∧ I i acc H, ⟨n, rfl, Nat.zero_le _, [], same_new hD, upd_same, Nat.le_refl _, st _ _ _ _ (SameT.of (same_new hD)) h0⟩, ?_⟩
  rintro i m H ⟨rfl, hi, acc, sm, eD, hl, hI⟩
  by_cases hlt : i < n
  · refine .inr ⟨S.go i H hlt (hK H sm), fun H' => i + 1 ≤ n ∧ ∃ acc, Same H1 H' ∧ H' D = some (.lst acc) ∧ acc.length ≤ i + 1 ∧ I (i + 1) acc H', fun H' ⟨a, b⟩ => ⟨n - (i + 1), by omega, rfl, a, b⟩, fun x H' hy => ?_⟩
    obtain ⟨s1, hR⟩ := S.yld i H x H' hlt (hK H sm) hy
    refine step i x acc H' hlt hR (sm.trans s1) (st _ _ _ _ (SameT.of s1) hI) _ _ (fun y H4 s4 hI4 => ?_) (fun H4 s4 hI4 => ?_)
    · have e4 : H4 D = some (.lst acc) := s4 _ _ (s1 _ _ eD)
      refine ⟨acc, e4, szl (by omega), hlt, acc ++ [y], same_put ((sm.trans s1).trans s4) hD, upd_same, by rw [List.length_append]; exact Nat.succ_le_succ hl, st _ _ _ _ (SameT.put e4) hI4⟩
    · exact ⟨hlt, acc, (sm.trans s1).trans s4, s4 _ _ (s1 _ _ eD), Nat.le_succ_of_le hl, hI4⟩
  · have e : i = n := by omega
    subst e
    exact .inl ⟨S.stop H (hK H sm), hq D acc H hD sm eD hI⟩
/-- .. whose items are known values: ys -/
theorem lcV {J : It} {n : Nat} {Kp : Hp → Prop} {R : Nat → V → Hp → Prop} {g : TG} {te : TE} {vs : List Nat} {σ : L2.St} {H1 : Hp} {Q : Addr → Hp → Prop} (S : Src J n Kp R) (hn : n ≤ 1000) (ys : List V) (hl : ys.length = n) (hK : ∀ H, Same H1 H → Kp H)
    (step : ∀ i x y H, i < n → R i x H → ys[i]? = some y → Same H1 H → ∀ (Y : VK), (∀ H4, Same H H4 → Y y H4) →
      g x (wipe σ vs) H fun σ2 H2 => wipe σ2 vs = wipe σ vs ∧ te σ2 H2 Y)
    (hq : ∀ D H', H1 D = none → Same H1 H' → H' D = some (.lst ys) → Q D H') :
    ∀ D, H1 D = none → ∃ W : Nat → Nat → Hp → Prop, (∃ m, W 0 m (upd H1 D (.lst []))) ∧ ∀ i m H, W i m H →
      (J.stop i H ∧ Q D H) ∨ (J.go i H ∧ ∃ Nx : Hp → Prop, (∀ H', Nx H' → ∃ m', m' < m ∧ W (i + 1) m' H') ∧ ∀ x H', J.yld i H x H' → g x (wipe σ vs) H' fun σ2 H2 => wipe σ2 vs = wipe σ vs ∧ tYes σ2 H2 fun b H3 =>
        if b = true then te σ2 H3 fun y H4 => ∃ acc, H4 D = some (.lst acc) ∧ acc.length < sizeLine ∧ Nx (upd H4 D (.lst (acc ++ [y]))) else Nx H3) := by
  refine lcI S hn (fun i acc _ => acc = ys.take i) (fun _ _ _ _ _ h => h) rfl hK (fun i x acc H hi hR sm hI Y Z hY hZ => ?_) (fun D acc H' hD sm eD hI => hq D H' hD sm ?_)
  · have e : ys[i]? = some ys[i] := List.getElem?_eq_getElem (by omega)
    exact step i x ys[i] H hi hR e sm Y fun H4 s4 => hY _ H4 s4 (by rw [hI, List.take_add_one, e]; rfl)
  · rw [eD, hI, ← hl, List.take_length]
/-! ### for -/
theorem forI {J : It} {n : Nat} {Kp : Hp → Prop} {R : Nat → V → Hp → Prop} {g : TG} {tb : TS} {D : Ends} {σ : L2.St} {H1 : Hp} (S : Src J n Kp R) (Pv : Nat → L2.St → Hp → Prop) (h0 : Pv 0 σ H1) (hK : ∀ i σ H, i ≤ n → Pv i σ H → Kp H)
    (hs : ∀ i x σ H H', i < n → Pv i σ H → Same H H' → R i x H' → g x σ H' fun σ2 H2 => tb { D with nx := Pv (i + 1), ct := Pv (i + 1), bk := D.nx } σ2 H2) (hd : ∀ σ H, Pv n σ H → D.nx σ H) :
    ∃ W : Nat → Nat → L2.St → Hp → Prop, (∃ m, W 0 m σ H1) ∧ ∀ i m σ H, W i m σ H →
      (J.stop i H ∧ D.nx σ H) ∨ (J.go i H ∧ ∃ N : L2.St → Hp → Prop, (∀ σ' H', N σ' H' → ∃ m', m' < m ∧ W (i + 1) m' σ' H') ∧ ∀ x H', J.yld i H x H' → g x σ H' fun σ2 H2 => tb { D with nx := N, ct := N, bk := D.nx } σ2 H2) := by
  refine ⟨fun i m σ H => m = n - i ∧ i ≤ n ∧ Pv i σ H, ⟨n, rfl, Nat.zero_le _, h0⟩, ?_⟩
  rintro i m σ H ⟨rfl, hi, p⟩
  by_cases hlt : i < n
  · refine .inr ⟨S.go i H hlt (hK i σ H hi p), Pv (i + 1), fun σ' H' p' => ⟨n - (i + 1), by omega, rfl, hlt, p'⟩, fun x H' hy => ?_⟩
    obtain ⟨s1, hR⟩ := S.yld i H x H' hlt (hK i σ H hi p) hy
    exact hs i x σ H H' hlt p s1 hR
  · have e : i = n := by omega
    subst e
    exact .inl ⟨S.stop H (hK i σ H hi p), hd σ H p⟩
/-! ### lists -/
theorem map_at {α β : Type} {f : α → β} {l : List α} {i : Nat} {y : β} (h : (l.map f)[i]? = some y) : ∃ x, l[i]? = some x ∧ y = f x := by
  rw [List.getElem?_map] at h
  cases e : l[i]? with
  | none =>
    rw [e] at h
    cases h
  | some x =>
    rw [e] at h
    exact ⟨x, rfl, (Option.some.inj h).symm⟩
theorem take_snoc {α : Type} {l : List α} {i : Nat} {x : α} (h : l[i]? = some x) : l.take (i + 1) = l.take i ++ [x] := by
  rw [List.take_add_one, h]
  rfl
theorem rep_at {α : Type} {n i : Nat} {a y : α} (h : (List.replicate n a)[i]? = some y) : y = a := by
  rw [List.getElem?_replicate] at h
  split at h
  · exact (Option.some.inj h).symm
  · cases h
end Kb
/-! Names and numbers: is_spelled, is_name, is_number, is_whole. -/
namespace Kb
open PySem PySem.Spec PyProof.Rows L2
/-- the built-in names that the top does not bind -/
structure Blt (mg : Str → Option Value) : Prop where
  isinstance : mg "isinstance" = none
  str : mg "str" = none
  int : mg "int" = none
  bool : mg "bool" = none
  list : mg "list" = none
  tuple : mg "tuple" = none
  dict : mg "dict" = none
  len : mg "len" = none
  all : mg "all" = none
  any : mg "any" = none
  set : mg "set" = none
  sorted : mg "sorted" = none
  enumerate : mg "enumerate" = none
  divmod : mg "divmod" = none
  zip : mg "zip" = none
  sum : mg "sum" = none
  abs : mg "abs" = none
  max : mg "max" = none
  range : mg "range" = none
  repr : mg "repr" = none
def abc : Str := "abcdefghijklmnopqrstuvwxyz"
/-- the top's constants -/
structure Cst (mg : Str → Option Value) : Prop where
  letters : ∃ t, mg "LETTERS" = some (.str abc t)
  nameLen : ∃ t, mg "NAME_LENGTH" = some (.int 6 t)
  mostReasons : ∃ t, mg "MOST_REASONS" = some (.int 7 t)
  mostRanked : ∃ t, mg "MOST_RANKED" = some (.int 7 t)
/-! ### names -/
/-- a name: one to six small letters -/
structure IsNm (z : Str) : Prop where
  lo : 1 ≤ z.length
  hi : z.length ≤ 6
  small : ∀ c ∈ z.cps.toList, 97 ≤ c ∧ c ≤ 122
theorem abc_eq : abc.cps.toList = List.range' 97 26 := by decide +kernel
theorem abc_mem {c : Nat} (h : 97 ≤ c ∧ c ≤ 122) : c ∈ abc.cps.toList := by
  rw [abc_eq, List.mem_range'_1]
  omega
theorem all_rep {n : Nat} : (List.replicate n true).all id = true := by simp
/-! ### promises -/
/-- the answer is True, what was tracked stands -/
def spT (Pre : List V → Hp → Prop) : Sp := fun vs H Q _ => Pre vs H ∧ ∀ H', Same H H' → Q (.bl true) H'
section
variable {P : Program} {w : World} {K : PySem.W.Frag} {mg : Str → Option Value} {base : Heap} {f f1 : Addr} {fd fd1 : FuncData}
/-! ### is_spelled -/
abbrev nSp : List Str := ["value", "most", "letter"]
theorem scSp : FnScope nSp ["value", "most"] (defScope (top 22)) := ⟨rfl, rfl, rfl, by decide +kernel, rfl, by decide +kernel, by decide +kernel⟩
def preSp : List V → Hp → Prop := fun vs _ => ∃ z, vs = [.str z, .int 6] ∧ IsNm z
theorem c_spelled (B : Blt mg) (T : Cst mg) (D : DefAt K mg "is_spelled" (top 22) f fd) : Cal P w K mg base 1 "is_spelled" ["value", "most"] (spT preSp) f fd := by
  refine D.cal scSp (fun _ _ _ _ _ _ us hl => match us, hl with | [_, _], _ => rfl) (fun vs H Q E h => ?_) (fun cdv A outer s H vs Q E hr h => ?_)
  · obtain ⟨⟨z, rfl, _⟩, _⟩ := h
    rfl
  · obtain ⟨⟨z, rfl, hz⟩, q⟩ := h
    obtain ⟨tl, hL⟩ := T.letters
    refine ⟨_, pss_cons (ps_if (PW.pt (pw_or (pt_not (pt_val (pe_callB call_isi (by rfl) B.isinstance (by decide +kernel) (pa_cons (pv 0) (pa_cons (pe_bltn (v := .ty "str") (by rfl) B.str (by decide +kernel) rfl) pa_nil)))))
        (pw_or1 (pt_not (pt_chain op_le op_le pe_int (pe_callB call_len_str (by rfl) B.len (by decide +kernel) (pa_cons (pv 0) pa_nil)) (pv 1)))))) (pss_one (ps_ret pe_bl)) pss_nil)
      (pss_one (ps_ret (pe_callB (cr_all rfl) (by rfl) B.all (by decide +kernel) (pa_cons
        (pe_lc (own := [("letter", 2)]) (g := gName 2) (tt := tYes) rfl scSp.nd (pi_str (pv 0)) (blkOk_by (N := nSp) (own := [("letter", 2)]) (sc := defScope (top 22)) (by decide +kernel)) (fun _ _ _ _ _ => pg_name (i := 2) scSp.nd rfl (Or.inl rfl)) (fun _ _ _ _ _ => pts_nil)
          (fun _ _ _ _ _ => pe_cmpR op_in_sign (pv 2) (pe_glob (v := .str abc) (by rfl) hL ⟨_, rfl⟩) (by rfl))) pa_nil)))), ?_⟩
    refine ⟨_, rfl, .str z, .ty "str", .type "str", .type "str", true, rfl, .ty "str", .base (.str z), kit_ty (by decide +kernel), true, rfl, iteF ?_⟩
    refine ⟨_, rfl, z, rfl, sz (by have := hz.hi; omega), 1, _, rfl, rfl, decide ((1 : Int) ≤ (z.length : Int)), rfl, ?_⟩
    rw [decide_eq_true (show (1 : Int) ≤ (z.length : Int) by have := hz.lo; omega)]
    refine iteT ⟨_, rfl, _, 6, rfl, rfl, decide ((z.length : Int) ≤ 6), rfl, ?_⟩
    rw [decide_eq_true (show (z.length : Int) ≤ 6 by have := hz.hi; omega)]
    refine iteF ?_
    refine ⟨_, rfl, z, rfl, lcV (srcS z) (show z.cps.size ≤ 1000 by have := hz.hi; have e : z.length = z.cps.size := rfl; omega) ((List.replicate z.cps.size true).map V.bl) (by simp) (fun _ _ => True.intro) (fun i x y H' hi hR hy sm Y hY => ?_) (fun Dl H' hD sm eD => ?_)⟩
    · obtain ⟨c, hc, rfl⟩ := hR
      obtain ⟨b, hb, rfl⟩ := map_at hy
      have eb := rep_at hb
      subst eb
      have hm : c ∈ z.cps.toList := by
        rw [Array.mem_toList_iff]
        exact Array.mem_of_getElem? hc
      refine ⟨rfl, .str ⟨#[c]⟩, rfl, ⟨c, abc, rfl, rfl, ?_⟩⟩
      rw [decide_eq_true (abc_mem (hz.small c hm))]
      exact hY _ (Same.refl _)
    · refine ⟨Dl, List.replicate z.cps.size true, rfl, SqL.of eD, ?_⟩
      rw [all_rep]
      exact q H' sm
/-! ### is_name -/
theorem scNm : FnScope ["value"] ["value"] (defScope (top 23)) := ⟨rfl, rfl, rfl, by decide +kernel, rfl, by decide +kernel, by decide +kernel⟩
def preNm : List V → Hp → Prop := fun vs _ => ∃ z, vs = [.str z] ∧ IsNm z
theorem c_name (T : Cst mg) (C : Cal P w K mg base 1 "is_spelled" ["value", "most"] (spT preSp) f1 fd1) (D : DefAt K mg "is_name" (top 23) f fd) : Cal P w K mg base 2 "is_name" ["value"] (spT preNm) f fd := by
  refine D.cal scNm (fun _ _ _ _ _ _ us hl => match us, hl with | [_], _ => rfl) (fun vs H Q E h => ?_) (fun cdv A outer s H vs Q E hr h => ?_)
  · obtain ⟨⟨z, rfl, _⟩, _⟩ := h
    rfl
  · obtain ⟨⟨z, rfl, hz⟩, q⟩ := h
    obtain ⟨tl, hL⟩ := T.nameLen
    refine ⟨_, pss_one (ps_ret (pe_cal C hr (by rfl) (pa_cons (pv 0) (pa_cons (pe_glob (v := .int 6) (by rfl) hL ⟨_, rfl⟩) pa_nil)))), ?_⟩
    exact ⟨_, rfl, ⟨z, rfl, hz⟩, q⟩
/-! ### is_number -/
theorem scNu : FnScope ["value", "least", "most"] ["value", "least", "most"] (defScope (top 24)) := ⟨rfl, rfl, rfl, by decide +kernel, rfl, by decide +kernel, by decide +kernel⟩
/-- a number: within the bounds, or not -/
def spNum : Sp := fun vs H Q _ => ∃ i lo hi : Int, vs = [.int i, .int lo, .int hi] ∧ Q (.bl (decide (lo ≤ i) && decide (i ≤ hi))) H
theorem c_number (B : Blt mg) (D : DefAt K mg "is_number" (top 24) f fd) : Cal P w K mg base 1 "is_number" ["value", "least", "most"] spNum f fd := by
  refine D.cal scNu (fun _ _ _ _ _ _ us hl => match us, hl with | [_, _, _], _ => rfl) (fun vs H Q E h => ?_) (fun cdv A outer s H vs Q E hr h => ?_)
  · obtain ⟨i, lo, hi, rfl, _⟩ := h
    rfl
  · obtain ⟨i, lo, hi, rfl, q⟩ := h
    refine ⟨_, pss_one (ps_ret (pe_and (pe_callB call_isi (by rfl) B.isinstance (by decide +kernel) (pa_cons (pv 0) (pa_cons (pe_bltn (v := .ty "int") (by rfl) B.int (by decide +kernel) rfl) pa_nil)))
      (pe_and (pe_not (pe_callB call_isi (by rfl) B.isinstance (by decide +kernel) (pa_cons (pv 0) (pa_cons (pe_bltn (v := .ty "bool") (by rfl) B.bool (by decide +kernel) rfl) pa_nil))))
        (pe_one (pe_chain op_le op_le (pv 1) (pv 0) (pv 2)))))), ?_⟩
    refine ⟨_, rfl, .int i, .ty "int", .type "int", .type "int", true, rfl, .ty "int", .base (.int i), kit_ty (by decide +kernel), true, rfl, iteT ?_⟩
    refine ⟨_, rfl, .int i, .ty "bool", .type "int", .type "bool", false, rfl, .ty "bool", .base (.int i), kit_ty (by decide +kernel), false, rfl, true, rfl, iteT ?_⟩
    refine ⟨_, rfl, _, rfl, lo, i, rfl, rfl, decide (lo ≤ i), rfl, ite2 (fun e => ?_) (fun e => ?_)⟩
    · rw [e, Bool.true_and] at q
      exact ⟨_, rfl, i, hi, rfl, rfl, q⟩
    · rw [Bool.eq_false_iff.mpr e, Bool.false_and] at q
      exact q
/-! ### is_whole -/
/-- what is no whole number: a type other than int -/
def spWhole (K : PySem.W.Frag) : Sp := fun vs H Q _ => ∃ x, vs = [x] ∧ ((∃ i, x = .int i ∧ Q (.bl true) H) ∨ (∃ b, x = .bl b ∧ Q (.bl false) H))
theorem scWh : FnScope ["value"] ["value"] (defScope (top 40)) := ⟨rfl, rfl, rfl, by decide +kernel, rfl, by decide +kernel, by decide +kernel⟩
theorem c_whole (B : Blt mg) (D : DefAt K mg "is_whole" (top 40) f fd) : Cal P w K mg base 1 "is_whole" ["value"] (spWhole K) f fd := by
  refine D.cal scWh (fun _ _ _ _ _ _ us hl => match us, hl with | [_], _ => rfl) (fun vs H Q E h => ?_) (fun cdv A outer s H vs Q E hr h => ?_)
  · obtain ⟨x, rfl, _⟩ := h
    rfl
  · obtain ⟨x, rfl, h⟩ := h
    refine ⟨_, pss_one (ps_ret (pe_and (pe_callB call_isi (by rfl) B.isinstance (by decide +kernel) (pa_cons (pv 0) (pa_cons (pe_bltn (v := .ty "int") (by rfl) B.int (by decide +kernel) rfl) pa_nil)))
      (pe_one (pe_not (pe_callB call_isi (by rfl) B.isinstance (by decide +kernel) (pa_cons (pv 0) (pa_cons (pe_bltn (v := .ty "bool") (by rfl) B.bool (by decide +kernel) rfl) pa_nil))))))), ?_⟩
    rcases h with ⟨i, rfl, q⟩ | ⟨b, rfl, q⟩
    · refine ⟨_, rfl, .int i, .ty "int", .type "int", .type "int", true, rfl, .ty "int", .base (.int i), kit_ty (by decide +kernel), true, rfl, iteT ?_⟩
      exact ⟨_, rfl, .int i, .ty "bool", .type "int", .type "bool", false, rfl, .ty "bool", .base (.int i), kit_ty (by decide +kernel), false, rfl, q⟩
    · refine ⟨_, rfl, .bl b, .ty "int", .type "bool", .type "int", true, rfl, .ty "int", .base (.bl b), kit_ty (by decide +kernel), true, rfl, iteT ?_⟩
      exact ⟨_, rfl, .bl b, .ty "bool", .type "bool", .type "bool", true, rfl, .ty "bool", .base (.bl b), kit_ty (by decide +kernel), true, rfl, q⟩
end
end Kb
/-! len(set(xs)), xs a list or a tuple of texts, no two of them alike (the hand layer has it of one text at most). -/
namespace Kb
open PySem PySem.Spec PyProof.Rows
/-- which texts the first i are -/
def seen (xs : List Str) (i : Nat) : Str → Bool := fun k => (xs.take i).any (· == k)
theorem seen_zero (xs : List Str) : seen xs 0 = fun _ => false := rfl
theorem seen_not {xs : List Str} (nd : xs.Nodup) {i : Nat} {z : Str} (h : xs[i]? = some z) : seen xs i z = false := by
  unfold seen
  rw [List.any_eq_false]
  intro y hy hyz
  have e : y = z := eq_of_beq hyz
  rw [e] at hy
  obtain ⟨j, hj, ej⟩ := List.mem_iff_getElem.mp hy
  rw [List.length_take] at hj
  rw [List.getElem_take] at ej
  have q := L2.nd_ix nd (i := j) (j := i) (x := z) (by rw [List.getElem?_eq_getElem (by omega), ej]) h
  omega
theorem seen_succ {xs : List Str} {i : Nat} {z : Str} (h : xs[i]? = some z) (k : Str) : seen xs (i + 1) k = (seen xs i k || decide (k = z)) := by
  unfold seen
  rw [take_snoc h, List.any_append]
  congr 1
  show ((z == k) || false) = decide (k = z)
  rw [Bool.or_false]
  by_cases e : k = z
  · subst e
    simp
  · rw [decide_eq_false e]
    exact beq_eq_false_iff_ne.mpr fun q => e q.symm
def newSet (led : Bool) : Obj := { cls := .type "set", dict := none, data := .set #[] 0 (.fresh 0 0 led) }
section
variable {prog : Program} {w : World} {A : Around} {R : Result → Shared → Prop} {I : Addr} {fp wr : List Addr} {G : Array GenState → Array GenState → Prop} {n : Nat} {P : Nat → Value → Prop} {St : Nat → Shared → Prop}
theorem set_loop (W : WalksS prog w A.in1 I fp wr G n P St) (S : Addr) (nS : S ∉ fp) (xs : List Str) (len : xs.length = n) (nd : xs.Nodup) (hb : n + 1 < scanBound) (val : ∀ i v, P i v → ∃ t, v = .str (xs.getD i Str.empty) t) :
    ∀ (k i : Nat) (s : Shared), n - i = k → i ≤ n → St i s → s.heap.SetOf (strKind prog w) S (seen xs i) i →
      (∀ s', Moved (S :: wr) G s s' → s'.heap.SetOf (strKind prog w) S (seen xs n) n → R (.ok (.ret .none)) s') →
      codeAny (model prog w) A (.builtin "set.update.loop" ⟨[.ref S, .ref I], []⟩) R s := by
  have nW : S ∉ wr := fun z => nS (W.sub _ z)
  have up : ∀ b ∈ wr, b ∈ S :: wr := fun b hb => List.mem_cons_of_mem _ hb
  have stay : ∀ {s s' : Shared} {i : Nat}, Moved wr G s s' → s.heap.SetOf (strKind prog w) S (seen xs i) i → s'.heap.SetOf (strKind prog w) S (seen xs i) i := fun {s s' i} mv ⟨o, es, ep, tb, ho, q⟩ => ⟨o, es, ep, tb, mv.heap S _ nW ho, q⟩
  intro k
  induction k with
  | zero =>
    intro i s hk hi hst hS hR
    obtain rfl : i = n := by omega
    refine codeAny_builtin PyProof.Rows.F.entry_set_update_loop ?_
    rw [Around.under_plainId PyProof.Rows.F.plain_set_update_loop _]
    show wpAny _ A.in1 (pyNext (.ref I) >>= _) _ _ s
    refine wpAny_bind (W.done s _ _ hst fun s' mv => ?_)
    show wpAny _ A.in1 (ret Value.none) _ _ s'
    exact wpAny_pure (hR s' (mv.mono up) (stay mv hS))
  | succ k ih =>
    intro i s hk hi hst hS hR
    have hlt : i < n := by omega
    refine codeAny_builtin PyProof.Rows.F.entry_set_update_loop ?_
    rw [Around.under_plainId PyProof.Rows.F.plain_set_update_loop _]
    show wpAny _ A.in1 (pyNext (.ref I) >>= _) _ _ s
    refine wpAny_bind (W.item i s _ _ hlt hst fun v s' hP hst' mv => ?_)
    obtain ⟨t, rfl⟩ := val i v hP
    have ez : xs[i]? = some (xs.getD i Str.empty) := by
      rw [List.getD_eq_getElem?_getD, List.getElem?_eq_getElem (by omega)]
      rfl
    show wpAny _ A.in1 (holding [Value.str (xs.getD i Str.empty) t] (setAdd S (.str (xs.getD i Str.empty) t)) >>= _) _ _ s'
    refine wpAny_bind (wpAny_holding ?_)
    unfold setAdd
    refine wpAny_holding (wpAny_bind ((strKind prog w).pyHash (k := xs.getD i Str.empty) (strKind_is _ _ _ _) ?_))
    refine wpAny_setAddHashed_of (knd := strKind prog w) (s := { s' with toks := s'.toks + 1 }) (strKind_is _ _ _ _) rfl (stay (i := i) ⟨mv.heap, mv.gens, mv.drawn, mv.os, Nat.le_succ_of_le mv.toks⟩ hS) (by omega) fun h' sb hS2 => ?_
    have hS3 : h'.SetOf (strKind prog w) S (seen xs (i + 1)) (i + 1) := SetOf_congr hS2 (fun q => (seen_succ ez q).symm) (by rw [seen_not nd ez]; rfl)
    refine wpAny_pure ⟨plainId_quiet PyProof.Rows.F.plain_set_update_loop _, ih (i + 1) _ (by omega) hlt (W.frame _ s' _ _ hst' (Nat.le_succ _) fun b hb o e => ?_) hS3 fun s2 mv2 hS4 => hR s2 (Moved.trans W.gtrans ((mv.mono up).then_heap (Nat.le_succ _) fun b o hb e => ?_) mv2) hS4⟩
    · rw [sb.2 b fun z : b = S => nS (by rw [← z]; exact hb)]
      exact e
    · rw [sb.2 b fun z : b = S => hb (by rw [z]; exact List.mem_cons_self)]
      exact e
end
section
variable {prog : Program} {w : World} {A : Around} {E : Value → Shared → Prop} {s : Shared}
set_option maxHeartbeats 3200000 in
/-- set(xs), xs of the type ty, walked by W -/
theorem set_of {l : Addr} {ty : String} {its : Array Value} {it : Value → Obj} {St : Addr → Nat → Shared → Prop} {xs : List Str} {Q : Value → Shared → Prop} (hl : ∃ o n, s.heap.get? l = some o ∧ o.cls = .type ty ∧ o.data = .seq its n)
    (f1 : isSubtype (.type ty) (.type "set") = pure false) (f2 : isSubtype (.type ty) (.type "frozenset") = pure false) (f3 : (Value.type ty == Value.type "dict") = false)
    (hW : ∀ I, l ≠ I → WalksS prog w A.in1.in1.in1 I [I, l] [I] (fun a b => b = a) its.size (fun i v => its[i]? = some v) (St I))
    (hit : ∀ (h : Heap) (A : Around) (E : Value → Shared → Prop) (R : Value → Shared → Prop) (tk : Nat), (∀ b o, s.heap.get? b = some o → h.get? b = some o) → (St h.objs.size 0 { s with heap := h.push (it (.ref l)), toks := tk } → R (.ref h.objs.size) { s with heap := h.push (it (.ref l)), toks := tk }) → wpAny (model prog w) A (pyIter (.ref l)) R E { s with heap := h, toks := tk })
    (hi : StrsAre its.toList xs) (nd : xs.Nodup) (hb : its.size + 1 < scanBound)
    (h : ∀ (h' : Heap) (tk : Nat), h'.SetOf (strKind prog w) s.heap.objs.size (seen xs its.size) its.size → (∀ b o, b < s.heap.objs.size → s.heap.get? b = some o → h'.get? b = some o) → Q (.ref s.heap.objs.size) { s with heap := h', toks := tk }) :
    wpAny (model prog w) A (call (.type "set") [.ref l]) Q E s := by
  obtain ⟨c0, tl0, hmro⟩ := F.called_set.mro
  have made := F.called_set.made
  have subs := F.called_set.sub
  have nty := F.called_set.notType
  have cre := F.called_set.canCreate
  have chk := F.typeCall_set_1 (.ref l)
  refine wpAny_call (codeAny_of_tree ?_)
  show wpAny _ _ (callAny (.type "set") _) _ _ _
  refine wpAny_pure ⟨Code.quiet_builtin _ (by decide +kernel), codeAny_builtin F.entry_type_call ?_⟩
  rw [Around.under_plain (weight_type_call_type "set" [.ref l] []) rfl]
  repeat (any_goals (first | assumption | wp_step))
  refine codeAny_mono (code_set_new_1 (.ref l) (E := E) (Q₁ := fun v s1 => ∃ led : Bool, v = .ref s.heap.objs.size ∧ s1 = { s with heap := s.heap.push (newSet led) }) fun led => ⟨led, rfl, rfl⟩) fun r s1 hr => ?_
  rcases r with e | (v | _ | _ | _) <;> first | exact hr | exact hr.elim | skip
  obtain ⟨led, rfl, rfl⟩ := hr
  have gS : (s.heap.push (newSet led)).get? s.heap.objs.size = some (newSet led) := Heap.get?_push_size _ rfl
  have tS : Shared.TypeIs { s with heap := s.heap.push (newSet led) } (.ref s.heap.objs.size) "set" := ⟨_, gS, rfl⟩
  have look := F.called_set.init.lookup
  have bind := F.called_set.init.bind (.ref s.heap.objs.size)
  repeat (any_goals (first | assumption | wp_step))
  refine codeAny_mono (codeAny_call_builtin (R := wants (fun r s2 => r = .none ∧ ∃ h' tk, s2 = { s with heap := h', toks := tk } ∧ h'.SetOf (strKind prog w) s.heap.objs.size (seen xs its.size) its.size ∧ (∀ b o, b < s.heap.objs.size → s.heap.get? b = some o → h'.get? b = some o)) E)
    F.called_set.init.plain F.entry_set_init (check_set_init_1 tS ?_)) fun r2 s2 hr2 => ?_
  · obtain ⟨ol, nl, gl, cl, dl⟩ := hl
    obtain ⟨k0, k1, k2, k3⟩ := ol
    simp only at cl dl
    subst cl
    subst dl
    have gl' : (s.heap.push (newSet led)).get? l = some { cls := .type ty, dict := k1, data := .seq its nl, slots := k3 } := Heap.get?_push_of_some _ gl
    unfold Builtin.«set.__init__» noKeywords Builtin.Frozenset.updateFrom
    generalize hPI : pyIter = PI
    wp_walk
    subst hPI
    refine hit (s.heap.push (newSet led)) _ _ _ _ (fun b o e => Heap.get?_push_of_some _ e) fun st0 => ?_
    refine wpAny_bind (wpAny_runValue ?_)
    have lS : l < s.heap.objs.size := Heap.lt_size gl
    have zS : (s.heap.push (newSet led)).objs.size = s.heap.objs.size + 1 := Heap.size_push _ _
    have nI : l ≠ (s.heap.push (newSet led)).objs.size := by
      rw [zS]
      exact Nat.ne_of_lt (Nat.lt_succ_of_lt lS)
    have nS : s.heap.objs.size ∉ [(s.heap.push (newSet led)).objs.size, l] := by
      rw [zS]
      simp only [List.mem_cons, List.not_mem_nil, or_false, not_or]
      exact ⟨Nat.ne_of_lt (Nat.lt_succ_self _), Nat.ne_of_gt lS⟩
    have len : xs.length = its.size := by rw [← StrsAre.len_eq hi, Array.length_toList]
    refine set_loop (hW _ nI) s.heap.objs.size nS xs len nd hb (fun i v hv => SS.strs_at hi i v (by rw [Array.getElem?_toList]; exact hv)) (its.size - 0) 0 _ (by omega) (Nat.zero_le _) st0 ?_ ?_
    · exact SetOf_congr ((setObjOf_fresh (knd := strKind prog w) led).setOf (Heap.get?_push_of_some _ gS) (by unfold scanBound; omega)) (fun _ => rfl) rfl
    · intro s' mv hS'
      obtain ⟨h', g', d', tk', os'⟩ := s'
      obtain rfl : g' = s.gens := mv.gens
      obtain rfl : d' = s.drawn := mv.drawn
      obtain rfl : os' = s.os := mv.os
      show wpAny _ _ _ _ _ _
      refine wpAny_pure ?_
      show wpAny _ _ (ret Value.none) _ _ _
      refine wpAny_pure ⟨rfl, h', tk', rfl, hS', fun b o hb2 e => mv.heap b o ?_ (Heap.get?_push_of_some _ (Heap.get?_push_of_some _ e))⟩
      rw [zS]
      simp only [List.mem_cons, List.not_mem_nil, or_false, not_or]
      exact ⟨Nat.ne_of_lt hb2, Nat.ne_of_lt (Nat.lt_succ_of_lt hb2)⟩
  · rcases r2 with e | (v | _ | _ | _) <;> first | exact hr2 | exact hr2.elim | skip
    obtain ⟨rfl, h', tk, rfl, hS', hk'⟩ := hr2
    repeat (any_goals (first | assumption | wp_step))
    exact h _ _ hS' hk'
end
open L2
/-- len(set(xs)) -/
def tSetLen (K : PySem.W.Frag) (ta : TE) : TE := fun σ H Q => ta σ H fun x H1 => ∃ (l : Addr) (xs : List Str), x = .ref l ∧ (SqL K H1 l (xs.map V.str) ∨ SqT K H1 l (xs.map V.str)) ∧ xs.Nodup ∧ xs.length ≤ 1000 ∧ Q (.int (xs.length : Nat)) H1
theorem pe_setLen {X : Cx} {a : Expr} {ta : TE} {p p2 q pos : Pos} (hc : X.calm = true) (hg : Gl X "len") (hm : X.mg "len" = none) (hg2 : Gl X "set") (hm2 : X.mg "set" = none) (ha : PE X a ta)
    (na : starEach [a] X.env = (false, eval a X.env) :: starEach [] X.env := by rfl) : PE X (.Call (.Name "len" p) [.Call (.Name "set" p2) [a] [] q] [] pos) (tSetLen X.K ta) := by
  refine ⟨fun pins s σ H Q I h => Call_ (ld_blt I hg hm boot_len (callWith_builtin1 (args_cons (Call_ (ld_blt I hg2 hm2 boot_set ?_)) rfl) rfl rfl))⟩
  refine callWith_type1 (args_cons (thn (ha.run pins s σ H _ I h) fun v s1 ⟨x, H1, I1, r1, q1⟩ => args_nil ?_) na) na rfl
  obtain ⟨l, xs, rfl, hq, nd, hl, q1⟩ := q1
  cases r1
  have fin : ∀ (its : List Value), Vals (xs.map V.str) its → ∀ (h' : Heap) (tk : Nat), h'.SetOf (strKind X.prog X.w) s1.heap.objs.size (seen xs its.toArray.size) its.toArray.size → (∀ b o, b < s1.heap.objs.size → s1.heap.get? b = some o → h'.get? b = some o) →
      wpAny (model X.prog X.w) X.A (spliced (backTo pos (starEach [] X.env))) (fun vs s2 => wpAny (model X.prog X.w) X.A (call (.builtin "len") (Value.ref s1.heap.objs.size :: vs)) (EP X pins σ Q) X.xe s2) X.xe { s1 with heap := h', toks := tk } := fun its r h' tk hS hk => by
    have e : its.toArray.size = xs.length := by rw [List.size_toArray, ← r.length, List.length_map]
    rw [e] at hS
    obtain ⟨o, es, ep, t, ho, hex, hd, _, _, _, hf, hn⟩ := hS
    have I2 : Inv X pins σ H1 { s1 with heap := h', toks := tk } := I1.kept fun b o e => hk b o (Heap.lt_size e) e
    exact args_nil (call_len_set ho hex hd hf (by rw [hn]; omega) ⟨.int (xs.length : Nat), H1, I2.tok _, ⟨_, by rw [hn]⟩, q1⟩)
  have bnd : ∀ (its : List Value), Vals (xs.map V.str) its → its.toArray.size + 1 < scanBound := fun its r => by
    have e : its.toArray.size = xs.length := by rw [List.size_toArray, ← r.length, List.length_map]
    rw [e]
    unfold scanBound
    omega
  rcases hq with hq | hq
  · obtain ⟨its, r, pl, hz⟩ := I1.list hq
    have hh := I1.ok.hd hc
    have pl := pl.isList
    refine set_of (St := fun I i (s : Shared) => s.heap.IsListIter I l i ∧ s.heap.IsList l its.toArray) (it := fun v => { cls := .type "list_iterator", data := .fields #[v, .int 0 0] }) (ty := "list") (its := its.toArray) ?_ F.sub_list_set F.sub_list_frozenset (by decide +kernel) (fun I ne => (Walks.list (A := X.A.in1.in1.in1) hh I l ne its.toArray).toS) ?_ (by simpa using strsAre_of r) nd (bnd its r) fun h' tk hS hk => fin its r h' tk hS hk
    · obtain ⟨o, e, c, n, d⟩ := pl
      exact ⟨o, n, e, c, d⟩
    · intro h A E R tk hk hR
      have pl2 : h.IsList l its.toArray := pl.at fun o e => hk l o e
      refine wpAny_pyIter_list (s := ⟨h, s1.gens, s1.drawn, tk, s1.os⟩) pl2 ?_
      exact hR ⟨⟨_, Heap.get?_push_size _ rfl, rfl, rfl⟩, pl2.push _⟩
  · obtain ⟨its, r, pl, hz⟩ := I1.tuple hq
    have hh := I1.ok.hd hc
    refine set_of (St := fun I i (s : Shared) => s.heap.IsTupleIter I l i ∧ s.heap.IsTuple l its.toArray) (it := fun v => { cls := .type "tuple_iterator", data := .fields #[v, .int 0 0] }) (ty := "tuple") (its := its.toArray) ?_ F.sub_tuple_set F.sub_tuple_frozenset (by decide +kernel) (fun I ne => (Walks.tuple (A := X.A.in1.in1.in1) hh I l ne its.toArray).toS) ?_ (by simpa using strsAre_of r) nd (bnd its r) fun h' tk hS hk => fin its r h' tk hS hk
    · obtain ⟨o, e, c, n, d⟩ := pl
      exact ⟨o, n, e, c, d⟩
    · intro h A E R tk hk hR
      have pl2 : h.IsTuple l its.toArray := by
        obtain ⟨o, e, c⟩ := pl
        exact ⟨o, hk l o e, c⟩
      refine wpAny_pyIter_tuple (s := ⟨h, s1.gens, s1.drawn, tk, s1.os⟩) pl2 ?_
      exact hR ⟨⟨_, Heap.get?_push_size _ rfl, rfl, rfl⟩, pl2.push _⟩
end Kb
/-! A source that is a list or a tuple; is_names. -/
namespace Kb
open PySem PySem.Spec PyProof.Rows L2
/-- the items of a list or of a tuple -/
def SqA (K : PySem.W.Frag) (H : Hp) (a : Addr) (xs : List V) : Prop := SqL K H a xs ∨ SqT K H a xs
theorem SqA.same {K : PySem.W.Frag} {H H' : Hp} {a : Addr} {xs : List V} (h : SqA K H a xs) (e : L2.Same H H') : SqA K H' a xs := by
  rcases h with h | h
  · exact .inl (e.seq h)
  · exact .inr (Kb.Same.tup e h)
def iSeq (K : PySem.W.Frag) (t : TE) : TI := fun σ H R => iList K t σ H R ∨ iTup K t σ H R
theorem pi_seq {X : Cx} {tg l : Expr} {t : TE} (h : PE X l t) : PI X tg l (iSeq X.K t) := ⟨fun pins s σ H R I q => q.elim (fun q => (pi_list (tg := tg) h).run pins s σ H R I q) fun q => (pi_tup (tg := tg) h).run pins s σ H R I q⟩
theorem seq_var {K : PySem.W.Frag} {i : Nat} {σ : L2.St} {H : Hp} {a : Addr} {xs : List V} {R : It → Hp → Prop} (e : σ[i]? = some (some (.ref a))) (h : SqA K H a xs)
    (q : ∀ J Kp, (∀ H', L2.Same H H' → Kp H') → Src J xs.length Kp (fun i x _ => xs[i]? = some x) → R J H) : iSeq K (tVar i) σ H R := by
  rcases h with h | h
  · exact .inl ⟨_, e, a, rfl, ⟨xs, h⟩, q _ _ (fun H' sm => sm.seq h) (srcL a xs)⟩
  · exact .inr ⟨_, e, a, rfl, ⟨xs, h⟩, q _ _ (fun H' sm => Kb.Same.tup sm h) (srcT a xs)⟩
theorem SqA.ty {K : PySem.W.Frag} {H : Hp} {a : Addr} {xs : List V} (h : SqA K H a xs) : ∃ t, TyX K H (.ref a) t ∧ PySem.W.kitAny K t [.type "list", .type "tuple"] = some true := by
  rcases h with h | h
  · exact ⟨_, tyL h, kitAny_cons (b := true) (kit_ty (by decide +kernel)) (fun z => nomatch z) fun _ => rfl⟩
  · exact ⟨_, tyT h, kitAny_cons (b := false) (kit_ty (by decide +kernel)) (fun _ => kitAny_cons (b := true) (kit_ty (by decide +kernel)) (fun z => nomatch z) fun _ => rfl) fun z => nomatch z⟩
/-- (list, tuple), as isinstance reads it -/
theorem two_cls : Paired ClsV [.ty "list", .ty "tuple"] [.type "list", .type "tuple"] := .cons (.ty "list") (.cons (.ty "tuple") .nil)
theorem lt_of {n m : Nat} (h : n < m) (k : m ≤ 100000) : n ≤ sizeLine := sz (by omega)
section
variable {P : Program} {w : World} {K : PySem.W.Frag} {mg : Str → Option Value} {base : Heap} {f f1 : Addr} {fd fd1 : FuncData}
/-! ### is_names -/
abbrev nNs : List Str := ["value", "item"]
theorem scNs : FnScope nNs ["value"] (defScope (top 25)) := ⟨rfl, rfl, rfl, by decide +kernel, rfl, by decide +kernel, by decide +kernel⟩
/-- names, no two alike -/
structure AreNs (ns : List Str) : Prop where
  nm : ∀ z ∈ ns, IsNm z
  nd : ns.Nodup
  len : ns.length ≤ 7
def preNs (K : PySem.W.Frag) : List V → Hp → Prop := fun vs H => ∃ (a : Addr) (ns : List Str), vs = [.ref a] ∧ SqA K H a (ns.map V.str) ∧ AreNs ns
theorem c_names (B : Blt mg) (C : Cal P w K mg base 2 "is_name" ["value"] (spT preNm) f1 fd1) (D : DefAt K mg "is_names" (top 25) f fd) : Cal P w K mg base 3 "is_names" ["value"] (spT (preNs K)) f fd := by
  refine D.cal scNs (fun _ _ _ _ _ _ us hl => match us, hl with | [_], _ => rfl) (fun vs H Q E h => ?_) (fun cdv A outer s H vs Q E hr h => ?_)
  · obtain ⟨⟨a, ns, rfl, _⟩, _⟩ := h
    rfl
  · obtain ⟨⟨a, ns, rfl, ha, hn⟩, q⟩ := h
    refine ⟨_, pss_cons (ps_if (PW.pt (pw_or (pt_not (pt_val (pe_callB call_isiT (by rfl) B.isinstance (by decide +kernel) (pa_cons (pv 0) (pa_cons (pe_tup (pa_cons (pe_bltn (v := .ty "list") (by rfl) B.list (by decide +kernel) rfl) (pa_cons (pe_bltn (v := .ty "tuple") (by rfl) B.tuple (by decide +kernel) rfl) pa_nil))) pa_nil)))))
        (pw_or1 (pt_not (pt_val (pe_callB (cr_all rfl) (by rfl) B.all (by decide +kernel) (pa_cons
        (pe_lc (own := [("item", 1)]) (g := gName 1) (tt := tYes) rfl scNs.nd (pi_seq (pv 0)) (blkOk_by (N := nNs) (own := [("item", 1)]) (sc := defScope (top 25)) (by decide +kernel)) (fun _ _ _ _ _ => pg_name (i := 1) scNs.nd rfl (Or.inl rfl)) (fun _ _ _ _ _ => pts_nil)
          (fun _ _ _ _ _ => pe_cal C hr (by rfl) (pa_cons (pv 1) pa_nil))) pa_nil))))))) (pss_one (ps_ret pe_bl)) pss_nil)
      (pss_one (ps_ret (pe_cmpR op_eq (pe_setLen rfl (by rfl) B.len (by rfl) B.set (pv 0)) (pe_callB call_len_seq (by rfl) B.len (by decide +kernel) (pa_cons (pv 0) pa_nil)) (by rfl)))), ?_⟩
    refine ⟨_, rfl, by decide +kernel, fun tp htp => ?_⟩
    have s1 : L2.Same H (upd H tp (.tup [.ty "list", .ty "tuple"])) := same_new htp
    have ha1 := ha.same s1
    obtain ⟨t, ht, kt⟩ := ha1.ty
    refine ⟨.ref a, tp, _, t, _, true, rfl, upd_same, two_cls, ht, kt, true, rfl, iteF ?_⟩
    refine seq_var rfl ha1 fun J Kp hK S => ?_
    have hl : (ns.map V.str).length ≤ 1000 := by rw [List.length_map]; have := hn.len; omega
    refine lcV S hl ((List.replicate ns.length true).map V.bl) (by simp) (fun H' sm => hK H' sm) (fun i x y H' hi hR hy sm Y hY => ?_) (fun Dl H' hD sm eD => ?_)
    · obtain ⟨z, hz, rfl⟩ := map_at hR
      obtain ⟨b, hb, rfl⟩ := map_at hy
      have eb := rep_at hb
      subst eb
      exact ⟨rfl, _, rfl, ⟨z, rfl, hn.nm z (List.mem_of_getElem? hz)⟩, fun H4 s4 => hY H4 s4⟩
    · refine ⟨Dl, List.replicate ns.length true, rfl, SqL.of eD, true, ?_, iteF ?_⟩
      · rw [all_rep]
      have ha2 := ha1.same sm
      refine ⟨_, rfl, a, ns, rfl, ha2, hn.nd, by have := hn.len; omega, ⟨_, rfl, a, _, rfl, ha2, ?_⟩⟩
      rw [List.length_map]
      refine ⟨rfl, ?_⟩
      rw [decide_eq_true rfl]
      exact q H' (s1.trans sm)
end
end Kb
/-! enumerate over a tuple, zip of a list and a tuple (the hand layer has them of lists, and of two of a kind). -/
namespace Kb
open PySem PySem.Spec PyProof.Rows L2
set_option maxHeartbeats 1000000 in
theorem meets_enum1 {v : Value} {o : Obj} {H : Heap → Prop} (B : Begins v o H) :
    Meets (Builtin.«enumerate.__new__» ⟨[.type "enumerate", v], []⟩) (fun _ R s => H s.heap ∧
      R (.ok (.ret (.ref (s.heap.push o).objs.size))) { s with heap := (s.heap.push o).push { cls := .type "enumerate", data := .fields #[.none, .bool false, .ref s.heap.objs.size, rawInt 0, .none, .none] } }) :=
  .of_wp fun prog w A R s h => by
    obtain ⟨hp, g, d, tk, os⟩ := s; obtain ⟨h1, h⟩ := h
    have hsub := sub_enumerate
    have q1 : ∀ {A' : Around} {E : Value → Shared → Prop} {Q : Value → Shared → Prop}, Q (.ref hp.objs.size) ⟨hp.push o, g, d, tk, os⟩ → wpAny (model prog w) A' (pyIter v) Q E ⟨hp, g, d, tk, os⟩ :=
      fun q => B.iter prog w _ _ ⟨hp, g, d, tk, os⟩ _ h1 q
    wp_walk using q1
    refine wpAny_stack_any fun st => wpAny_pure ?_
    split
    · rename_i c _ _ _ _ _
      cases (c == Value.type "enumerate")
      · wp_walk using q1
        exact ⟨_, rfl, h⟩
      · wp_walk using q1
        exact ⟨_, rfl, h⟩
    · wp_walk using q1
      exact ⟨_, rfl, h⟩
theorem enum1 {prog : Program} {w : World} {A : Around} {E : Value → Shared → Prop} {s : Shared} {v : Value} {o : Obj} {H : Heap → Prop} {Q : Value → Shared → Prop} (B : Begins v o H) (h1 : H s.heap)
    (h : ∀ h', IsEnum h' (s.heap.objs.size + 1) s.heap.objs.size 0 .none → h'.get? s.heap.objs.size = some o → h'.objs.size = s.heap.objs.size + 2 →
      (∀ b o, s.heap.get? b = some o → h'.get? b = some o) → Q (.ref (s.heap.objs.size + 1)) { s with heap := h' }) :
    wpAny (model prog w) A (call (.type "enumerate") [v]) Q E s := by
  refine callType_new F.called_enumerate (by decide) (F.typeCall_enumerate_1 _) (F.newCall_enumerate_1 _) (fun obj => F.args_object_init_2 obj _) F.entry_enumerate_new
    (meets_enum1 B) ⟨h1, ?_⟩
  have hz : (s.heap.push o).objs.size = s.heap.objs.size + 1 := Heap.size_push ..
  show _ ∧ _
  rw [hz]
  have he : IsEnum ((s.heap.push o).push { cls := .type "enumerate", data := .fields #[.none, .bool false, .ref s.heap.objs.size, rawInt 0, .none, .none] }) (s.heap.objs.size + 1) s.heap.objs.size 0 .none := by
    have := Heap.get?_push_size (s.heap.push o) (o := { cls := .type "enumerate", data := .fields #[.none, .bool false, .ref s.heap.objs.size, rawInt 0, .none, .none] }) rfl
    rw [hz] at this; exact this
  refine ⟨⟨_, he, rfl⟩, h _ he (Heap.get?_push_of_some _ (Heap.get?_push_size _ B.free)) (by rw [Heap.size_push, hz]) fun b o x => Heap.get?_push_of_some _ (Heap.get?_push_of_some _ x)⟩
/-- the tuple at a, each item in a new pair with its place -/
def IteT (K : PySem.W.Frag) (a : Addr) : It :=
  ⟨fun i H => ∃ (xs : List V) (x : V), SqT K H a xs ∧ xs[i]? = some x, fun i H v H' => ∃ T x, v = .ref T ∧ H T = none ∧ H' = upd H T (.tup [.int (i : Nat), x]) ∧ ∀ xs, SqT K H a xs → xs[i]? = some x, fun i H => ∃ xs : List V, SqT K H a xs ∧ xs.length = i⟩
theorem turn_enumT {P : Program} {w : World} {K : PySem.W.Frag} {elts : List Expr} {kk : Nat} {tpos : Pos} (a e it : Addr) (d1 : e ≠ it) (d2 : e ≠ a) (d3 : a ≠ it) :
    Turn P w K (.Tuple elts kk tpos) (IteT K a) [e, it] e (fun i h => (∃ old, IsEnum h e it ((i : Nat) : Int) old) ∧ h.IsTupleIter it a i) where
  mem := by simp
  obj := fun i h st b hb => by
    obtain ⟨⟨old, he⟩, ⟨o, ho, hc, hd⟩⟩ := st
    have e' : b = e ∨ b = it := by simpa using hb
    rcases e' with z | z
    · rw [z]; exact ⟨_, he, fun v q => nomatch q⟩
    · rw [z]; exact ⟨o, ho, fun v q => by rw [hd] at q; cases q⟩
  keep := fun i h h' st k => let ⟨⟨old, he⟩, hi⟩ := st; ⟨⟨old, k e (by simp) _ he⟩, hi.at fun o q => k it (by simp) o q⟩
  item := by
    intro X hP hw hK hc i pins s σ H E I hf st hg
    subst hP hw hK
    obtain ⟨⟨old, he⟩, hit⟩ := st
    obtain ⟨xs, x, hq, hx⟩ := hg
    obtain ⟨its, rv, p, hz⟩ := I.tuple hq
    obtain ⟨u, hu, ru⟩ := rv.get hx
    have hel : e < s.heap.objs.size := Heap.lt_size he
    have hil : it < s.heap.objs.size := by obtain ⟨_, q, _⟩ := hit; exact Heap.lt_size q
    have hlt : i < its.toArray.size := by
      have q := (List.getElem?_eq_some_iff.mp hu).1
      simpa using q
    refine wpAny_pyNext_enum_itemD (Draws.tuple (prog := X.prog) (w := X.w) (A := X.A.in1) (I.ok.hd hc) it a d3 its.toArray) he ⟨hit, p⟩ hlt d1 (by simp [d1, d2]) fun u' h' tk hu' ho st' hT hsz hk => ?_
    obtain ⟨hit', _⟩ := st'
    have eu : u' = u := by
      have q : its.toArray[i]? = some u := by simpa using hu
      rw [q] at hu'
      exact (Option.some.inj hu').symm
    subst eu
    refine ⟨_, rfl, wpAny_letOwnedTupleGo_enum (s := { s with heap := h', toks := tk + 1 }) ho fun h'' he' sb => ?_⟩
    have hT2 : h''.get? s.heap.objs.size = some { cls := .type "tuple", data := .seq #[.int i tk, u'] } := (sb.2 _ (Nat.ne_of_gt hel)).trans hT
    have new : ObjOk X.prog X.w (upd H s.heap.objs.size (.tup [.int (i : Nat), x])) h'' s.heap.objs.size (.tup [.int (i : Nat), x]) :=
      ⟨by show 2 ≤ sizeLine; decide, [.int i tk, u'], .cons ⟨_, rfl⟩ (.cons ru .nil), ⟨_, hT2, rfl, _, rfl⟩⟩
    have I1 : Inv X pins σ (upd H s.heap.objs.size (.tup [.int (i : Nat), x])) { s with heap := h'', toks := tk + 1 } :=
      I.turnedNew (ch := [e, it]) (fun b ob hb q => (sb.2 b (fun z => hb (by simp [z]))).trans (hk b ob (fun z => hb (by simp [z])) (fun z => hb (by simp [z])) q)) hf (Nat.le_refl _) new
    refine ⟨.ref s.heap.objs.size, _, I1, rfl, ⟨_, x, rfl, I.hok.fresh (Nat.le_refl _), rfl, fun ys hy => by rw [I.tuple_inj hy hq]; exact hx⟩, ⟨⟨u', ?_⟩, hit'.at fun o q => (sb.2 it (Ne.symm d1)).trans q⟩, fun b hb => ?_⟩
    · have e1 : ((i + 1 : Nat) : Int) = (i : Int) + 1 := by omega
      rw [e1]; exact he'
    · have hb' : b < s.heap.objs.size := by
        have e' : b = e ∨ b = it := by simpa using hb
        rcases e' with z | z
        · rw [z]; exact hel
        · rw [z]; exact hil
      rw [upd_ne (Nat.ne_of_lt hb')]
      exact (hf b hb).1
  done := by
    intro X hP hw hK hc i pins s σ H E I hf st hg
    subst hP hw hK
    obtain ⟨⟨old, he⟩, hit⟩ := st
    obtain ⟨xs, hq, hx⟩ := hg
    obtain ⟨its, rv, p, hz⟩ := I.tuple hq
    obtain ⟨f0, f1, f2, f3, f4, f5⟩ := hf it (by simp)
    have hl := rv.length
    have en : i = its.toArray.size := by simp; omega
    subst en
    exact wpAny_pyNext_enum_endD (Draws.tuple (prog := X.prog) (w := X.w) (A := X.A.in1) (I.ok.hd hc) it a d3 its.toArray) he ⟨hit, p⟩ fun h' eb => ⟨rfl, I.turned (t' := s.toks) (fun b o hb q => eb b o hb q) f0 f1 f3 f4 f5⟩
  self := fun A i s Q E st h => let ⟨⟨_, he⟩, _⟩ := st; wpAny_pyIter_enum he h
def iEnumT (K : PySem.W.Frag) (ta : TA) : TI := fun σ H R => ta σ H fun vs H1 => ∃ a xs, vs = [.ref a] ∧ SqT K H1 a xs ∧ R (IteT K a) H1
theorem pi_enumT {X : Cx} {e : Expr} {ta : TA} {p pos tpos : Pos} {elts : List Expr} {kk : Nat} (hg : Gl X "enumerate") (hm : X.mg "enumerate" = none) (ha : PA X [e] ta) (hs : starEach [e] X.env = [(false, eval e X.env)] := by rfl) :
    PI X (.Tuple elts kk tpos) (.Call (.Name "enumerate" p) [e] [] pos) (iEnumT X.K ta) := by
  refine ⟨fun pins s σ H R I h => ?_⟩
  refine Call_ (ld_blt I hg hm boot_enumerate (PyProof.Rows.callWith_type1 (thn (ha.run pos pins s σ H _ I h) fun us s1 ⟨vs, H1, I1, r1, q1⟩ => ?_) hs rfl))
  obtain ⟨a, xs, ex, hq, q⟩ := q1
  subst ex
  cases r1 with
  | cons r rr =>
    cases rr
    cases r
    obtain ⟨its, rv, p', hz⟩ := I1.tuple hq
    obtain ⟨o1, ho1, _⟩ := id p'
    have lt : a < s1.heap.objs.size := Heap.lt_size ho1
    refine enum1 (begins_tuple a its.toArray) p' fun h' he hit hsz hk => wpAny_pyIter_enum he ?_
    have I2 : Inv X pins σ H1 { s1 with heap := h' } := I1.kept (t' := s1.toks) hk
    refine ⟨s1.heap.objs.size + 1, [s1.heap.objs.size + 1, s1.heap.objs.size], _, _, H1, rfl, I2, turn_enumT a (s1.heap.objs.size + 1) s1.heap.objs.size (Nat.succ_ne_self _) (Nat.ne_of_gt (Nat.lt_succ_of_lt lt)) (Nat.ne_of_lt lt), ⟨⟨.none, he⟩, ⟨_, hit, rfl, rfl⟩⟩, fun b hb => ?_, q⟩
    have e' : b = s1.heap.objs.size + 1 ∨ b = s1.heap.objs.size := by simpa using hb
    have hle : s1.heap.objs.size ≤ b := by
      rcases e' with z | z
      · rw [z]; exact Nat.le_add_right _ _
      · rw [z]; exact Nat.le_refl _
    exact I1.fpOk hle (I1.hok.fresh hle)
/-- the list at a and the tuple at b, the items in new pairs -/
def ItzM (K : PySem.W.Frag) (a b : Addr) : It :=
  ⟨fun i H => ∃ (xs ys : List V) (x y : V), SqL K H a xs ∧ SqT K H b ys ∧ xs[i]? = some x ∧ ys[i]? = some y,
    fun i H v H' => ∃ T x y, v = .ref T ∧ H T = none ∧ H' = upd H T (.tup [x, y]) ∧ (∀ xs, SqL K H a xs → xs[i]? = some x) ∧ ∀ ys, SqT K H b ys → ys[i]? = some y,
    fun i H => ∃ xs ys : List V, SqL K H a xs ∧ SqT K H b ys ∧ (xs.length = i ∧ ys.length = i)⟩
theorem turn_zipM {P : Program} {w : World} {K : PySem.W.Frag} {elts : List Expr} {kk : Nat} {tpos : Pos} {a b z TI TO i1 i2 : Addr} (D : ZipSep2 z TI TO i1 i2 [i1, a] [i2, b]) :
    Turn P w K (.Tuple elts kk tpos) (ItzM K a b) [z, TI, TO, i1, i2] z (fun i h => IsZip h z TI TO .none ∧ IsTupOf2 h TI (.ref i1) (.ref i2) ∧ (∃ x y, IsTupOf2 h TO x y) ∧ h.IsListIter i1 a i ∧ h.IsTupleIter i2 b i) where
  mem := by simp
  obj := fun i h st c hc => by
    obtain ⟨hz, hTI, ⟨x, y, hTO⟩, ⟨o1, e1, _, d1⟩, ⟨o2, e2, _, d2⟩⟩ := st
    have e' : c = z ∨ c = TI ∨ c = TO ∨ c = i1 ∨ c = i2 := by simpa using hc
    rcases e' with q | q | q | q | q
    · rw [q]; exact ⟨_, hz, fun v q => nomatch q⟩
    · rw [q]; exact ⟨_, hTI, fun v q => nomatch q⟩
    · rw [q]; exact ⟨_, hTO, fun v q => nomatch q⟩
    · rw [q]; exact ⟨o1, e1, fun v q => by rw [d1] at q; cases q⟩
    · rw [q]; exact ⟨o2, e2, fun v q => by rw [d2] at q; cases q⟩
  keep := fun i h h' st k => by
    obtain ⟨hz, hTI, ⟨x, y, hTO⟩, h1, h2⟩ := st
    exact ⟨k z (by simp) _ hz, k TI (by simp) _ hTI, ⟨x, y, k TO (by simp) _ hTO⟩, h1.at fun o q => k i1 (by simp) o q, h2.at fun o q => k i2 (by simp) o q⟩
  item := by
    intro X hP hw hK hc i pins s σ H E I hf st hg
    subst hP hw hK
    obtain ⟨hz, hTI, ⟨x0, y0, hTO⟩, h1, h2⟩ := st
    obtain ⟨xs, ys, x, y, hqx, hqy, hx, hy⟩ := hg
    obtain ⟨its, rv, p, _⟩ := I.list hqx
    obtain ⟨its2, rv2, p2, _⟩ := I.tuple hqy
    obtain ⟨u, hu, ru⟩ := rv.get hx
    obtain ⟨u2, hu2, ru2⟩ := rv2.get hy
    have hzl : z < s.heap.objs.size := Heap.lt_size hz
    have d1 : a ≠ i1 := fun q => by
      obtain ⟨o1, e1, c1, _⟩ := h1
      obtain ⟨o2, e2, c2, _⟩ := p.isList
      rw [q, e1] at e2
      rw [Option.some.inj e2, c2] at c1
      exact absurd c1 (by decide +kernel)
    have d2 : b ≠ i2 := fun q => by
      obtain ⟨o1, e1, c1, _⟩ := h2
      obtain ⟨o2, e2, c2, _⟩ := p2
      rw [q, e1] at e2
      rw [Option.some.inj e2, c2] at c1
      exact absurd c1 (by decide +kernel)
    have hlt1 : i < its.toArray.size := by
      have q := (List.getElem?_eq_some_iff.mp hu).1
      simpa using q
    have hlt2 : i < its2.toArray.size := by
      have q := (List.getElem?_eq_some_iff.mp hu2).1
      simpa using q
    refine wpAny_pyNext_zipD2_item D (Draws.list (prog := X.prog) (w := X.w) (A := X.A.in1) (I.ok.hd hc) i1 a d1 its.toArray) (Draws.tuple (prog := X.prog) (w := X.w) (A := X.A.in1) (I.ok.hd hc) i2 b d2 its2.toArray) hz hTI hTO ⟨h1, p.isList⟩ ⟨h2, p2⟩ hlt1 hlt2 fun v1 v2 h' tk q1 q2 z' TO' st1 st2 hT hsz hk => ?_
    have ev1 : v1 = u := by
      have q : its.toArray[i]? = some u := by simpa using hu
      rw [q] at q1
      exact (Option.some.inj q1).symm
    have ev2 : v2 = u2 := by
      have q : its2.toArray[i]? = some u2 := by simpa using hu2
      rw [q] at q2
      exact (Option.some.inj q2).symm
    subst ev1
    subst ev2
    refine ⟨_, rfl, wpAny_letOwnedTupleGo_zip (s := { s with heap := h', toks := tk }) z' fun h'' z'' sb => ?_⟩
    have hT2 : h''.get? s.heap.objs.size = some { cls := .type "tuple", data := .seq #[v1, v2] } := (sb.2 _ (Nat.ne_of_gt hzl)).trans hT
    have new : ObjOk X.prog X.w (upd H s.heap.objs.size (.tup [x, y])) h'' s.heap.objs.size (.tup [x, y]) :=
      ⟨by show 2 ≤ sizeLine; decide, [v1, v2], .cons ru (.cons ru2 .nil), ⟨_, hT2, rfl, _, rfl⟩⟩
    have I1 : Inv X pins σ (upd H s.heap.objs.size (.tup [x, y])) { s with heap := h'', toks := tk } :=
      I.turnedNew (t' := tk) (ch := [z, TI, TO, i1, i2]) (fun c o hb q => (sb.2 c (fun q' => hb (by simp [q']))).trans (hk c o (fun q' => hb (by simp [q'])) (fun q' => hb (by simp [q'])) (fun q' => hb (by simp [q'])) (fun q' => hb (by simp [q'])) q)) hf (Nat.le_refl _) new
    refine ⟨.ref s.heap.objs.size, _, I1, rfl, ⟨_, x, y, rfl, I.hok.fresh (Nat.le_refl _), rfl, fun l hl => by rw [I.list_inj hl hqx]; exact hx, fun l hl => by rw [I.tuple_inj hl hqy]; exact hy⟩, ⟨z'', ?_, ⟨v1, v2, ?_⟩, ?_, ?_⟩, fun c hcm => ?_⟩
    · exact (sb.2 _ D.TIz).trans (hk _ _ D.TIz D.TITO D.TIi1 D.TIi2 hTI)
    · exact (sb.2 _ D.TOz).trans TO'
    · exact st1.1.at fun o q => (sb.2 _ (Ne.symm D.zi1)).trans q
    · exact st2.1.at fun o q => (sb.2 _ (Ne.symm D.zi2)).trans q
    · have hlt : c < s.heap.objs.size := by
        have e' : c = z ∨ c = TI ∨ c = TO ∨ c = i1 ∨ c = i2 := by simpa using hcm
        rcases e' with q | q | q | q | q
        · rw [q]; exact hzl
        · rw [q]; exact Heap.lt_size hTI
        · rw [q]; exact Heap.lt_size hTO
        · rw [q]; obtain ⟨_, e1, _⟩ := h1; exact Heap.lt_size e1
        · rw [q]; obtain ⟨_, e2, _⟩ := h2; exact Heap.lt_size e2
      rw [upd_ne (Nat.ne_of_lt hlt)]
      exact (hf c hcm).1
  done := by
    intro X hP hw hK hc i pins s σ H E I hf st hg
    subst hP hw hK
    obtain ⟨hz, hTI, ⟨x0, y0, hTO⟩, h1, h2⟩ := st
    obtain ⟨xs, ys, hqx, hqy, n1, n2⟩ := hg
    obtain ⟨its, rv, p, _⟩ := I.list hqx
    obtain ⟨its2, rv2, p2, _⟩ := I.tuple hqy
    have l1 := rv.length
    have l2 := rv2.length
    have d1 : a ≠ i1 := fun q => by
      obtain ⟨o1, e1, c1, _⟩ := h1
      obtain ⟨o2, e2, c2, _⟩ := p.isList
      rw [q, e1] at e2
      rw [Option.some.inj e2, c2] at c1
      exact absurd c1 (by decide +kernel)
    have d2 : b ≠ i2 := fun q => by
      obtain ⟨o1, e1, c1, _⟩ := h2
      obtain ⟨o2, e2, c2, _⟩ := p2
      rw [q, e1] at e2
      rw [Option.some.inj e2, c2] at c1
      exact absurd c1 (by decide +kernel)
    have e1 : i = its.toArray.size := by simp; omega
    have e2 : i = its2.toArray.size := by simp; omega
    exact wpAny_pyNext_zipD2_end D (Draws.list (prog := X.prog) (w := X.w) (A := X.A.in1) (I.ok.hd hc) i1 a d1 its.toArray) (Draws.tuple (prog := X.prog) (w := X.w) (A := X.A.in1) (I.ok.hd hc) i2 b d2 its2.toArray) hz hTI hTO ⟨h1, p.isList⟩ ⟨h2, p2⟩ (by omega) (by omega) (.inl e1) fun h' tk hk => ⟨rfl, I.turnedL (t' := tk) (ch := [z, TI, TO, i1, i2]) (fun c o hb q =>
      hk c o (fun q' => hb (by simp [q'])) (fun q' => hb (by simp [q'])) (fun q' => hb (by simp [q'])) (fun q' => hb (by simp [q'])) q) hf⟩
  self := fun A i s Q E st h => wpAny_pyIter_zip st.1 h
def iZipM (K : PySem.W.Frag) (ta : TA) : TI := fun σ H R => ta σ H fun vs H1 => ∃ a b xs ys, vs = [.ref a, .ref b] ∧ SqL K H1 a xs ∧ SqT K H1 b ys ∧ R (ItzM K a b) H1
theorem pi_zipM {X : Cx} {e e2 : Expr} {ta : TA} {p pos tpos : Pos} {elts : List Expr} {kk : Nat} (hg : Gl X "zip") (hm : X.mg "zip" = none) (ha : PA X [e, e2] ta)
    (hs : starEach [e, e2] X.env = (false, eval e X.env) :: starEach [e2] X.env := by rfl) (hpl : (backTo pos (starEach [e2] X.env)).any (·.1) = false := by rfl) :
    PI X (.Tuple elts kk tpos) (.Call (.Name "zip" p) [e, e2] [] pos) (iZipM X.K ta) := by
  refine ⟨fun pins s σ H R I h => ?_⟩
  refine Call_ (ld_blt I hg hm PyProof.Rows.boot_zip (PyProof.Rows.callWith_type1 (thn (ha.run pos pins s σ H _ I h) fun us s1 ⟨vs, H1, I1, r1, q1⟩ => ?_) hs hpl))
  obtain ⟨a, b, xs, ys, ex, hqx, hqy, q⟩ := q1
  subst ex
  cases r1 with
  | cons r rr =>
    cases rr with
    | cons r' rr =>
      cases rr
      cases r
      cases r'
      have fresh5 : ∀ c, c ∈ [s1.heap.objs.size + 4, s1.heap.objs.size + 2, s1.heap.objs.size + 3, s1.heap.objs.size, s1.heap.objs.size + 1] → FpOk X pins H1 c := fun c hcm => by
        have e' : c = s1.heap.objs.size + 4 ∨ c = s1.heap.objs.size + 2 ∨ c = s1.heap.objs.size + 3 ∨ c = s1.heap.objs.size ∨ c = s1.heap.objs.size + 1 := by simpa using hcm
        have hle : s1.heap.objs.size ≤ c := by
          rcases e' with z | z | z | z | z
          · rw [z]; exact Nat.le_add_right _ _
          · rw [z]; exact Nat.le_add_right _ _
          · rw [z]; exact Nat.le_add_right _ _
          · rw [z]; exact Nat.le_refl _
          · rw [z]; exact Nat.le_add_right _ _
        exact I1.fpOk hle (I1.hok.fresh hle)
      obtain ⟨its, rv, p1, _⟩ := I1.list hqx
      obtain ⟨its2, rv2, p2, _⟩ := I1.tuple hqy
      obtain ⟨o1, ho1, _⟩ := id p1.isList
      obtain ⟨o2, ho2, _⟩ := id p2
      refine zip_begins2 (begins_list a its.toArray) (begins_tuple b its2.toArray) p1.isList p2 fun h' hz hTI hTO h1 h2 hsz hk => wpAny_pyIter_zip hz ?_
      have I2 : Inv X pins σ H1 { s1 with heap := h' } := I1.kept (t' := s1.toks) hk
      refine ⟨s1.heap.objs.size + 4, [s1.heap.objs.size + 4, s1.heap.objs.size + 2, s1.heap.objs.size + 3, s1.heap.objs.size, s1.heap.objs.size + 1], _, _, H1, rfl, I2, turn_zipM (zip_sep2 (fp1 := [a]) (fp2 := [b]) (fun c hc => ?_) (fun c hc => ?_)), ⟨hz, hTI, ⟨_, _, hTO⟩, ⟨_, h1, rfl, rfl⟩, ⟨_, h2, rfl, rfl⟩⟩, fresh5, q⟩
      · rw [List.mem_singleton.mp hc]
        exact Heap.lt_size ho1
      · rw [List.mem_singleton.mp hc]
        exact Heap.lt_size ho2
section
variable {K : PySem.W.Frag}
theorem srcET (a : Addr) (xs : List V) : Src (IteT K a) xs.length (fun H => SqT K H a xs) (fun i v H => ∃ x, xs[i]? = some x ∧ PairAt (.int (i : Nat)) x v H) :=
  ⟨fun i H hi h1 => ⟨xs, xs[i], h1, List.getElem?_eq_getElem hi⟩, fun H h1 => ⟨xs, h1, rfl⟩, fun i H v H' hi h1 ⟨T, x, ev, nT, eH, f1⟩ => by
    subst eH
    exact ⟨same_new nT, x, f1 _ h1, T, ev, upd_same⟩⟩
theorem srcZM (a b : Addr) (xs ys : List V) (h : xs.length = ys.length) : Src (ItzM K a b) xs.length (fun H => SqL K H a xs ∧ SqT K H b ys) (fun i v H => ∃ x y, xs[i]? = some x ∧ ys[i]? = some y ∧ PairAt x y v H) :=
  ⟨fun i H hi ⟨h1, h2⟩ => ⟨xs, ys, xs[i], ys[i], h1, h2, List.getElem?_eq_getElem hi, List.getElem?_eq_getElem _⟩, fun H ⟨h1, h2⟩ => ⟨xs, ys, h1, h2, rfl, h.symm⟩, fun i H v H' hi ⟨h1, h2⟩ ⟨T, x, y, ev, nT, eH, f1, f2⟩ => by
    subst eH
    exact ⟨same_new nT, x, y, f1 _ h1, f2 _ h2, T, ev, upd_same⟩⟩
end
end Kb
/-! The two errors that are raised: InvalidVector, TooMany. -/
namespace Kb
open PySem PySem.Spec PyProof.Rows L2
def meth (C i : Nat) : Stmt := (match top C with
  | .ClassDef (body := b) .. => b
  | _ => []).getD i (.Pass ⟨0, 0, 0, 0⟩)
/-- a def of a class -/
abbrev MetAt (K : PySem.W.Frag) (x q : Str) (st : Stmt) (f : Addr) (fd : FuncData) : Prop := FunD K x q (defArgs st) (defBody st) (defScope st) [] [] f fd
/-- an error of the program: its class, its own __init__ with one field -/
structure ErrC (K : PySem.W.Frag) (mg : Str → Option Value) (x f : Str) (C fI : Addr) : Prop where
  T : OexC K C
  iC : PySem.W.findIn K (.ref C) "__init__" = some (some (.ref fI))
  tI : PySem.W.typeIn K (.ref fI) = some (.type "function")
  nc : PySem.W.findIn K (.ref C) "code" = some none
  nf : PySem.W.findIn K (.ref C) f = some none
  gl : mg x = some (.ref C)
/-- what the __init__ promises -/
def spIni (K : PySem.W.Frag) (x f : Str) : Sp := fun vs H Q _ => ∃ (a : Addr) (y : V) (C : Addr), vs = [.ref a, y] ∧ OexC K C ∧ PySem.W.findIn K (.ref C) "code" = some none ∧ PySem.W.findIn K (.ref C) f = some none ∧ H a = some (exo a C none) ∧
  ∀ dx, H dx = none → dx ≠ a → Q .non (upd (upd (upd H dx (exd dx [("code", .str x)])) a (exo a C (some dx))) dx (exd dx [(f, y), ("code", .str x)]))
section
variable {P : Program} {w : World} {K : PySem.W.Frag} {mg : Str → Option Value} {base : Heap} {f f1 : Addr} {fd fd1 : FuncData}
theorem scIv : FnScope ["self", "at"] ["self", "at"] (defScope (meth 10 0)) := ⟨rfl, rfl, rfl, by decide +kernel, rfl, by decide +kernel, by decide +kernel⟩
theorem scTm : FnScope ["self", "most"] ["self", "most"] (defScope (meth 12 0)) := ⟨rfl, rfl, rfl, by decide +kernel, rfl, by decide +kernel, by decide +kernel⟩
theorem c_iv (D : MetAt K "__init__" "InvalidVector.__init__" (meth 10 0) f fd) : FnOk P w K mg base (L2.CX P w) 1 f fd ["self", "at"] (spIni K "InvalidVector" "at") ∧ Binds K fd ["self", "at"] [] := by
  refine ⟨D.ok scIv (fun vs H Q E h => ?_) (fun cdv A outer s H vs Q E hr h => ?_), D.bindsN (fun _ _ _ _ _ _ us hl => match us, hl with | [_, _], _ => rfl)⟩
  · obtain ⟨a, y, C, rfl, _⟩ := h
    rfl
  · obtain ⟨a, y, C, rfl, T, n1, n2, e, q⟩ := h
    refine ⟨_, pss_cons (ps_ost (pv 0) pe_str) (pss_one (ps_ost (pv 0) (pv 1))), ?_⟩
    refine ⟨_, rfl, a, C, rfl, T, n1, .inl ⟨e, fun dx nx ne => ?_⟩⟩
    refine ⟨_, rfl, _, rfl, a, C, rfl, T, n2, .inr ⟨dx, _, upd_same, ?_, by decide, q dx nx ne⟩⟩
    rw [upd_ne ne, upd_same]
theorem c_tm (D : MetAt K "__init__" "TooMany.__init__" (meth 12 0) f fd) : FnOk P w K mg base (L2.CX P w) 1 f fd ["self", "most"] (spIni K "TooMany" "most") ∧ Binds K fd ["self", "most"] [] := by
  refine ⟨D.ok scTm (fun vs H Q E h => ?_) (fun cdv A outer s H vs Q E hr h => ?_), D.bindsN (fun _ _ _ _ _ _ us hl => match us, hl with | [_, _], _ => rfl)⟩
  · obtain ⟨a, y, C, rfl, _⟩ := h
    rfl
  · obtain ⟨a, y, C, rfl, T, n1, n2, e, q⟩ := h
    refine ⟨_, pss_cons (ps_ost (pv 0) pe_str) (pss_one (ps_ost (pv 0) (pv 1))), ?_⟩
    refine ⟨_, rfl, a, C, rfl, T, n1, .inl ⟨e, fun dx nx ne => ?_⟩⟩
    refine ⟨_, rfl, _, rfl, a, C, rfl, T, n2, .inr ⟨dx, _, upd_same, ?_, by decide, q dx nx ne⟩⟩
    rw [upd_ne ne, upd_same]
end
/-- an error in the air: its class, its fields -/
def Air (C : Addr) (x f : Str) (y : V) (E : XK) (H : Hp) : Prop := ∀ d H', H d = none → L2.Same H H' → H' d = some (.xd [(f, y), ("code", .str x)]) → E (.ref C) (some d) H'
/-- C(e) is made -/
theorem mko {K : PySem.W.Frag} {mg : Str → Option Value} {x f : Str} {C fI : Addr} (G : ErrC K mg x f C fI) {y : V} {Q : XK} {H1 : Hp} (h : Air C x f y Q H1) :
    [y].length ≤ 1000 ∧ ∀ a, H1 a = none → spIni K x f (.ref a :: ([y] ++ [])) (upd H1 a (exo a C none)) (fun v H2 => v = .non ∧ ∃ (d : Addr) (fs : List (Str × V)), H2 a = some (exo a C (some d)) ∧ H2 d = some (exd d fs) ∧ H1 d = none ∧ Q (.ref C) (some d) (upd (del H2 a) d (.xd fs))) (fun _ _ _ => False) := by
  refine ⟨show 1 ≤ 1000 by decide, fun a na => ⟨a, y, C, rfl, G.T, G.nc, G.nf, upd_same, fun dx nx ne => ⟨rfl, dx, _, ?_, upd_same, ?_, ?_⟩⟩⟩
  · rw [upd_ne (Ne.symm ne), upd_same]
  · rw [upd_ne ne] at nx
    exact nx
  · rw [upd_ne ne] at nx
    refine h dx _ nx (fun b o e => ?_) upd_same
    have h1 : b ≠ dx := ne_of_none e nx
    have h2 : b ≠ a := ne_of_none e na
    rw [upd_ne h1, del_ne h2, upd_ne h1, upd_ne h2, upd_ne h1, upd_ne h2]
    exact e
/-- raise C(e) -/
theorem ps_err {X : Cx} {W : WX} {x f : Str} {C fI : Addr} {k : Nat} {fd : FuncData} {ps : List Str} {e : Expr} {ta : TA} {p pos pos2 : Pos} (hc : X.calm = true) (tk : Takes X W) (G : ErrC X.K X.mg x f C fI) (F : FnOk X.prog X.w X.K X.mg X.base (L2.CX X.prog X.w) k fI fd ps (spIni X.K x f) ∧ Binds X.K fd ps [])
    (hr : Room (k + 1) X.A) (hg : Gl X x) (ha : PA X [e] ta) (hdb : (x == ("__debug__" : Str)) = false := by decide) (he : starEach [e] X.env = (false, eval e X.env) :: starEach [] X.env := by rfl) (hpl : (backTo pos (starEach [] X.env)).any (·.1) = false := by rfl) :
    PS X (.Raise (some (.Call (.Name x p) [e] [] pos)) none pos2) (fun _ σ H => tMkO C (spIni X.K x f) [] ta σ H fun cls d H' => W cls d σ H') :=
  ps_raise hc tk (pmk_oex (sp := spIni X.K x f) (dvs := []) G.T G.iC G.tI F.1 hr F.2 .nil passL hg G.gl ha hdb he hpl)
end Kb
/-! Vectors: is_vector, are_counts, check_vectors. -/
namespace Kb
open PySem PySem.Spec PyProof.Rows L2
theorem pi_or {X : Cx} {tg l : Expr} {t u : TI} (h : PI X tg l t) (h' : PI X tg l u) : PI X tg l (fun σ H R => t σ H R ∨ u σ H R) := ⟨fun pins s σ H R I q => q.elim (fun q => h.run pins s σ H R I q) fun q => h'.run pins s σ H R I q⟩
/-- f(e, .., k = v, ..) of a def whose keyword-only parameters have no defaults -/
theorem kbn {K : PySem.W.Frag} {x qual : Str} {params : Arguments} {body : List Stmt} {scope : Scope} {kws : List (Str × V)} {f : Addr} {fd : FuncData} {ps ks : List Str} {n : Nat} {g : List Value → List Value → List Value} {gV : List V → List V → List V} (F : FunD K x qual params body scope [] kws f fd)
    (h : ∀ (kV doc pm : Value) (an : Option Addr) (cdv ct : Value) (us ws : List Value), us.length = n → ws.length = ks.length → bindArgs (PySem.W.fnOf x qual params body scope .none kV doc pm an cdv ct) ⟨us, ks.zip ws⟩ = pure (ps.zip (g us ws)))
    (hrel : ∀ {vs : List V} {us : List Value} {zs : List V} {ws : List Value}, Vals vs us → Vals zs ws → Vals (gV vs zs) (g us ws)) : KBn K fd ps n ks g gV := by
  obtain ⟨oc, od, dV, kV, doc, pm, an, cdv, ct, osl, rfl, lk, hcd, hD, hK⟩ := F.ex
  rcases hD with ⟨_, rfl⟩ | ⟨e, _⟩
  · exact ⟨fun s us ws _ l1 l2 => .of_eq (h kV doc pm an cdv ct us ws l1 l2), hrel⟩
  · exact absurd rfl e
theorem Air.same {C : Addr} {x f : Str} {y : V} {E : XK} {H H1 : Hp} (h : Air C x f y E H) (s : L2.Same H H1) : Air C x f y E H1 := fun d H' n s2 e => h d H' (s.free n) (s.trans s2) e
/-! ### items -/
inductive Cel where
  | i (n : Int)
  | b (k : Bool)
def Cel.v : Cel → V
  | .i n => .int n
  | .b k => .bl k
def Cel.isI : Cel → Bool
  | .i _ => true
  | .b _ => false
def Cel.nz : Cel → Bool
  | .i n => decide (n ≠ 0)
  | .b _ => true
inductive Itm where
  | tup (xs : List Cel)
  | no
def Itm.sm : Itm → Prop
  | .tup xs => xs.length ≤ 100
  | .no => True
def ItAt (K : PySem.W.Frag) (H : Hp) (v : V) : Itm → Prop
  | .tup xs => ∃ a, v = .ref a ∧ SqT K H a (xs.map Cel.v)
  | .no => ∃ ty, TyX K H v (.type ty) ∧ kitB ty "tuple" = some false
theorem ItAt.same {K : PySem.W.Frag} {H H' : Hp} {v : V} {t : Itm} (h : ItAt K H v t) (s : L2.Same H H') : ItAt K H' v t := by
  cases t with
  | tup xs =>
    obtain ⟨a, e, q⟩ := h
    exact ⟨a, e, Kb.Same.tup s q⟩
  | no =>
    obtain ⟨ty, q, e⟩ := h
    exact ⟨ty, Kb.Same.tyX s q, e⟩
def isVec (w : Nat) : Itm → Bool
  | .tup xs => decide (xs.length = w) && (xs.all Cel.isI && xs.any Cel.nz)
  | .no => false
section
variable {P : Program} {w : World} {K : PySem.W.Frag} {mg : Str → Option Value} {base : Heap} {f f1 f2 f3 f4 : Addr} {fd fd1 fd2 fd3 fd4 : FuncData}
/-! ### is_vector -/
abbrev nVe : List Str := ["value", "width", "item"]
theorem scVe : FnScope nVe ["value", "width"] (defScope (top 42)) := ⟨rfl, rfl, rfl, by decide +kernel, rfl, by decide +kernel, by decide +kernel⟩
def spVec (K : PySem.W.Frag) : Sp := fun vs H Q _ => ∃ (v : V) (n : Nat) (t : Itm), vs = [v, .int n] ∧ ItAt K H v t ∧ t.sm ∧ ∀ H', L2.Same H H' → Q (.bl (isVec n t)) H'
theorem whole_of {c : Cel} {H : Hp} {Y : VK} (h : Y (.bl c.isI) H) : spWhole K [c.v] H Y E0 := by
  cases c with
  | i n => exact ⟨_, rfl, .inl ⟨n, rfl, h⟩⟩
  | b k => exact ⟨_, rfl, .inr ⟨k, rfl, h⟩⟩
theorem c_vector (B : Blt mg) (C : Cal P w K mg base 1 "is_whole" ["value"] (spWhole K) f1 fd1) (D : DefAt K mg "is_vector" (top 42) f fd) : Cal P w K mg base 2 "is_vector" ["value", "width"] (spVec K) f fd := by
  refine D.cal scVe (fun _ _ _ _ _ _ us hl => match us, hl with | [_, _], _ => rfl) (fun vs H Q E h => ?_) (fun cdv A outer s H vs Q E hr h => ?_)
  · obtain ⟨v, n, t, rfl, _⟩ := h
    rfl
  · obtain ⟨v, n, t, rfl, ht, hsm, q⟩ := h
    refine ⟨_, pss_cons (ps_if (PW.pt (pw_or (pt_not (pt_val (pe_callB call_isi (by rfl) B.isinstance (by decide +kernel) (pa_cons (pv 0) (pa_cons (pe_bltn (v := .ty "tuple") (by rfl) B.tuple (by decide +kernel) rfl) pa_nil)))))
        (pw_or1 (pt_cmpR op_ne (pe_callB call_len_seq (by rfl) B.len (by decide +kernel) (pa_cons (pv 0) pa_nil)) (pv 1) (by rfl))))) (pss_one (ps_ret pe_bl)) pss_nil)
      (pss_one (ps_ret (pe_and (pe_callB (cr_all rfl) (by rfl) B.all (by decide +kernel) (pa_cons
        (pe_lc (own := [("item", 2)]) (g := gName 2) (tt := tYes) rfl scVe.nd (pi_tup (pv 0)) (blkOk_by (N := nVe) (own := [("item", 2)]) (sc := defScope (top 42)) (by decide +kernel)) (fun _ _ _ _ _ => pg_name (i := 2) scVe.nd rfl (Or.inl rfl)) (fun _ _ _ _ _ => pts_nil)
          (fun _ _ _ _ _ => pe_cal C hr (by rfl) (pa_cons (pv 2) pa_nil))) pa_nil))
        (pe_one (pe_callB (cr_any rfl) (by rfl) B.any (by decide +kernel) (pa_cons
        (pe_lc (own := [("item", 2)]) (g := gName 2) (tt := tYes) rfl scVe.nd (pi_tup (pv 0)) (blkOk_by (N := nVe) (own := [("item", 2)]) (sc := defScope (top 42)) (by decide +kernel)) (fun _ _ _ _ _ => pg_name (i := 2) scVe.nd rfl (Or.inl rfl)) (fun _ _ _ _ _ => pts_nil)
          (fun _ _ _ _ _ => pe_cmpR op_ne (pv 2) pe_int (by rfl))) pa_nil)))))), ?_⟩
    cases t with
    | no =>
      obtain ⟨ty, hty, kt⟩ := ht
      exact ⟨_, rfl, v, .ty "tuple", .type ty, .type "tuple", false, rfl, .ty "tuple", hty, kit_ty kt, false, rfl, iteT (q H (L2.Same.refl _))⟩
    | tup xs =>
      obtain ⟨a, rfl, ha⟩ := ht
      have hx : xs.length ≤ 100 := hsm
      have hxl : (xs.map Cel.v).length ≤ 1000 := by rw [List.length_map]; omega
      refine ⟨_, rfl, .ref a, .ty "tuple", .type "tuple", .type "tuple", true, rfl, .ty "tuple", tyT ha, kit_ty (by decide +kernel), true, rfl, iteF ?_⟩
      refine ⟨_, rfl, a, _, rfl, .inr ha, _, rfl, ?_⟩
      rw [List.length_map]
      refine ⟨rfl, !decide (V.int (xs.length : Nat) = V.int (n : Nat)), rfl, ?_⟩
      have q2 := q
      simp only [isVec] at q2
      by_cases hn : xs.length = n
      · subst hn
        rw [decide_eq_true rfl]
        rw [decide_eq_true rfl, Bool.true_and] at q2
        refine iteF ?_
        refine ⟨_, rfl, a, rfl, ⟨_, ha⟩, lcV (srcT a (xs.map Cel.v)) hxl (xs.map fun c => V.bl c.isI) (by simp) (fun H' sm => Kb.Same.tup sm ha) (fun i x y H' hi hR hy sm Y hY => ?_) (fun Dl H' hD sm eD => ?_)⟩
        · obtain ⟨c, hc, rfl⟩ := map_at hR
          obtain ⟨c2, hc2, rfl⟩ := map_at hy
          rw [hc] at hc2
          cases hc2
          exact ⟨rfl, _, rfl, whole_of (K := K) (hY _ (L2.Same.refl _))⟩
        · refine ⟨Dl, xs.map Cel.isI, rfl, SqL.of (by rw [eD, List.map_map]; rfl), (xs.map Cel.isI).all id, rfl, ?_⟩
          rw [List.all_map]
          show if (xs.all Cel.isI) = true then _ else _
          by_cases hI : xs.all Cel.isI = true
          · rw [hI]
            rw [hI, Bool.true_and] at q2
            refine iteT ?_
            have ha2 := Kb.Same.tup sm ha
            refine ⟨_, rfl, a, rfl, ⟨_, ha2⟩, lcV (srcT a (xs.map Cel.v)) hxl (xs.map fun c => V.bl c.nz) (by simp) (fun H2 sm2 => Kb.Same.tup sm2 ha2) (fun i x y H2 hi hR hy sm2 Y hY => ?_) (fun Dl2 H2 hD2 sm2 eD2 => ?_)⟩
            · obtain ⟨c, hc, rfl⟩ := map_at hR
              obtain ⟨c2, hc2, rfl⟩ := map_at hy
              rw [hc] at hc2
              cases hc2
              have hcI := List.all_eq_true.mp hI c (List.mem_of_getElem? hc)
              cases c with
              | b k => cases hcI
              | i m =>
                refine ⟨rfl, _, rfl, rfl, ?_⟩
                have e : (!decide (V.int m = V.int 0)) = Cel.nz (.i m) := by
                  rw [dec_int]
                  show (!(m == 0)) = decide (m ≠ 0)
                  by_cases z : m = 0
                  · subst z
                    rfl
                  · rw [decide_eq_true z, beq_false_of_ne z]
                    rfl
                show Y (V.bl (!decide (V.int m = V.int 0))) _
                rw [e]
                exact hY _ (L2.Same.refl _)
            · refine ⟨Dl2, xs.map Cel.nz, rfl, SqL.of (by rw [eD2, List.map_map]; rfl), ?_⟩
              rw [List.any_map]
              exact q2 H2 (sm.trans sm2)
          · have hI' : xs.all Cel.isI = false := by simpa using hI
            rw [hI']
            rw [hI', Bool.false_and] at q2
            exact q2 H' sm
      · rw [dec_int, beq_false_of_ne (by omega)]
        rw [decide_eq_false hn, Bool.false_and] at q2
        exact iteT (q2 H (L2.Same.refl _))
/-! ### are_counts -/
abbrev nCo : List Str := ["value", "many", "item"]
theorem scCo : FnScope nCo ["value", "many"] (defScope (top 43)) := ⟨rfl, rfl, rfl, by decide +kernel, rfl, by decide +kernel, by decide +kernel⟩
def preCo (K : PySem.W.Frag) : List V → Hp → Prop := fun vs H => ∃ (a : Addr) (ns : List Int), vs = [.ref a, .int (ns.length : Nat)] ∧ SqT K H a (ns.map V.int) ∧ (∀ n ∈ ns, 0 ≤ n) ∧ ns.length ≤ 100
theorem c_counts (B : Blt mg) (C : Cal P w K mg base 1 "is_whole" ["value"] (spWhole K) f1 fd1) (D : DefAt K mg "are_counts" (top 43) f fd) : Cal P w K mg base 2 "are_counts" ["value", "many"] (spT (preCo K)) f fd := by
  refine D.cal scCo (fun _ _ _ _ _ _ us hl => match us, hl with | [_, _], _ => rfl) (fun vs H Q E h => ?_) (fun cdv A outer s H vs Q E hr h => ?_)
  · obtain ⟨⟨a, ns, rfl, _⟩, _⟩ := h
    rfl
  · obtain ⟨⟨a, ns, rfl, ha, hp, hx⟩, q⟩ := h
    refine ⟨_, pss_cons (ps_if (PW.pt (pw_or (pt_not (pt_val (pe_callB call_isi (by rfl) B.isinstance (by decide +kernel) (pa_cons (pv 0) (pa_cons (pe_bltn (v := .ty "tuple") (by rfl) B.tuple (by decide +kernel) rfl) pa_nil)))))
        (pw_or1 (pt_cmpR op_ne (pe_callB call_len_seq (by rfl) B.len (by decide +kernel) (pa_cons (pv 0) pa_nil)) (pv 1) (by rfl))))) (pss_one (ps_ret pe_bl)) pss_nil)
      (pss_one (ps_ret (pe_callB (cr_all rfl) (by rfl) B.all (by decide +kernel) (pa_cons
        (pe_lc (own := [("item", 2)]) (g := gName 2) (tt := tYes) rfl scCo.nd (pi_tup (pv 0)) (blkOk_by (N := nCo) (own := [("item", 2)]) (sc := defScope (top 43)) (by decide +kernel)) (fun _ _ _ _ _ => pg_name (i := 2) scCo.nd rfl (Or.inl rfl)) (fun _ _ _ _ _ => pts_nil)
          (fun _ _ _ _ _ => pe_and (pe_cal C hr (by rfl) (pa_cons (pv 2) pa_nil)) (pe_one (pe_cmpR op_ge (pv 2) pe_int (by rfl))))) pa_nil)))), ?_⟩
    have hxl : (ns.map V.int).length ≤ 1000 := by rw [List.length_map]; omega
    refine ⟨_, rfl, .ref a, .ty "tuple", .type "tuple", .type "tuple", true, rfl, .ty "tuple", tyT ha, kit_ty (by decide +kernel), true, rfl, iteF ?_⟩
    refine ⟨_, rfl, a, _, rfl, .inr ha, _, rfl, ?_⟩
    rw [List.length_map]
    refine ⟨rfl, _, rfl, ?_⟩
    rw [decide_eq_true rfl]
    refine iteF ?_
    refine ⟨_, rfl, a, rfl, ⟨_, ha⟩, lcV (srcT a (ns.map V.int)) hxl ((List.replicate ns.length true).map V.bl) (by simp) (fun H' sm => Kb.Same.tup sm ha) (fun i x y H' hi hR hy sm Y hY => ?_) (fun Dl H' hD sm eD => ?_)⟩
    · obtain ⟨c, hc, rfl⟩ := map_at hR
      obtain ⟨b, hb, rfl⟩ := map_at hy
      have eb := rep_at hb
      subst eb
      refine ⟨rfl, _, rfl, _, rfl, .inl ⟨c, rfl, true, rfl, iteT ⟨_, rfl, c, 0, rfl, rfl, ?_⟩⟩⟩
      show Y (V.bl (decide (0 ≤ c))) H'
      rw [decide_eq_true (hp c (List.mem_of_getElem? hc))]
      exact hY _ (L2.Same.refl _)
    · refine ⟨Dl, List.replicate ns.length true, rfl, SqL.of eD, ?_⟩
      rw [all_rep]
      exact q H' sm
end
end Kb
/-! check_vectors. -/
namespace Kb
open PySem PySem.Spec PyProof.Rows L2
inductive Giv where
  | its (l : List Itm)
  | no
def GivAt (K : PySem.W.Frag) (H : Hp) (v : V) : Giv → Prop
  | .its l => ∃ a vs, v = .ref a ∧ SqA K H a vs ∧ Paired (ItAt K H) vs l
  | .no => ∃ ty, TyX K H v (.type ty) ∧ kitB ty "list" = some false ∧ kitB ty "tuple" = some false
theorem GivAt.same {K : PySem.W.Frag} {H H' : Hp} {v : V} {g : Giv} (h : GivAt K H v g) (s : L2.Same H H') : GivAt K H' v g := by
  cases g with
  | its l =>
    obtain ⟨a, vs, e, q, p⟩ := h
    exact ⟨a, vs, e, q.same s, Paired.mapP p fun _ _ z => z.same s⟩
  | no =>
    obtain ⟨ty, q, e⟩ := h
    exact ⟨ty, Kb.Same.tyX s q, e⟩
inductive Flt where
  | at (i : Int)
  | many
def Giv.sm : Giv → Prop
  | .its l => l.length ≤ 100 ∧ ∀ t ∈ l, t.sm
  | .no => True
def fault (w : Nat) : Giv → Option Flt
  | .its l => if 12 < l.length then some .many else (l.findIdx? fun t => !isVec w t).map fun i => .at (i : Nat)
  | .no => some (.at (-1))
/-- the error in the air, or the answer -/
def Out (Ci Ct : Addr) (E : XK) (H : Hp) (q : Hp → Prop) : Option Flt → Prop
  | none => ∀ H', L2.Same H H' → q H'
  | some (.at i) => Air Ci "InvalidVector" "at" (.int i) E H
  | some .many => Air Ct "TooMany" "most" (.int 12) E H
theorem Out.same {Ci Ct : Addr} {E : XK} {H H1 : Hp} {q : Hp → Prop} {o : Option Flt} (h : Out Ci Ct E H q o) (s : L2.Same H H1) : Out Ci Ct E H1 q o := by
  cases o with
  | none => exact fun H' s2 => h H' (s.trans s2)
  | some x =>
    cases x with
    | «at» i => exact Air.same h s
    | many => exact Air.same h s
def spChk (K : PySem.W.Frag) (Ci Ct : Addr) : Sp := fun vs H Q E => ∃ (v : V) (n : Nat) (g : Giv), vs = [v, .int n] ∧ GivAt K H v g ∧ g.sm ∧ (1 ≤ n ∧ n ≤ 7) ∧ Out Ci Ct E H (Q .non) (fault n g)
theorem paired_get {α β : Type} {F : α → β → Prop} : ∀ {l : List α} {m : List β} {i : Nat} {x : α}, Paired F l m → l[i]? = some x → ∃ y, m[i]? = some y ∧ F x y
  | _, _, _, _, .nil, e => by simp at e
  | _, _, 0, _, .cons h _, e => ⟨_, rfl, by
    have e' := Option.some.inj e
    rw [← e']
    exact h⟩
  | _, _, i + 1, _, .cons _ t, e => paired_get (i := i) t e
theorem enum_var {K : PySem.W.Frag} {i : Nat} {σ : L2.St} {H : Hp} {a : Addr} {xs : List V} {R : It → Hp → Prop} (e : σ[i]? = some (some (.ref a))) (h : SqA K H a xs)
    (q : ∀ J Kp, (∀ H', L2.Same H H' → Kp H') → Src J xs.length Kp (fun i v H => ∃ x, xs[i]? = some x ∧ PairAt (.int (i : Nat)) x v H) → R J H) : iEnum K (tCons (tVar i) tNil) σ H R ∨ iEnumT K (tCons (tVar i) tNil) σ H R := by
  rcases h with h | h
  · exact .inl ⟨_, e, a, xs, rfl, h, q _ _ (fun H' sm => sm.seq h) (srcE a xs)⟩
  · exact .inr ⟨_, e, a, xs, rfl, h, q _ _ (fun H' sm => Kb.Same.tup sm h) (srcET a xs)⟩
section
variable {P : Program} {w : World} {K : PySem.W.Frag} {mg : Str → Option Value} {base : Heap} {f f1 f2 f3 f4 Ci Ct : Addr} {fd fd1 fd2 fd3 fd4 : FuncData}
abbrev nCh : List Str := ["vectors", "width", "at", "vector"]
theorem scCh : FnScope nCh ["vectors", "width"] (defScope (top 44)) := ⟨rfl, rfl, rfl, by decide +kernel, rfl, by decide +kernel, by decide +kernel⟩
structure CalW (P : Program) (w : World) (K : PySem.W.Frag) (mg : Str → Option Value) (base : Heap) (k : Nat) (x : Str) (ps : List Str) (sp : Sp) (n : Nat) (ks : List Str) (g : List Value → List Value → List Value) (gV : List V → List V → List V) (f : Addr) (fd : FuncData) : Prop where
  ok : FnOk P w K mg base (L2.CX P w) k f fd ps sp
  kp : PySem.W.keepIn K (.ref f) = true
  gl : mg x = some (.ref f)
  kb : KBn K fd ps n ks g gV
theorem CalW.mono {k j n : Nat} {x : Str} {ps ks : List Str} {sp : Sp} {g : List Value → List Value → List Value} {gV : List V → List V → List V} (C : CalW P w K mg base j x ps sp n ks g gV f fd) (h : j ≤ k) : CalW P w K mg base k x ps sp n ks g gV f fd := ⟨C.ok.mono h, C.kp, C.gl, C.kb⟩
theorem c_check (B : Blt mg) (N : Cal P w K mg base 1 "is_number" ["value", "least", "most"] spNum f1 fd1) (C : Cal P w K mg base 2 "is_vector" ["value", "width"] (spVec K) f2 fd2)
    (Gi : ErrC K mg "InvalidVector" "at" Ci f3) (Fi : FnOk P w K mg base (L2.CX P w) 1 f3 fd3 ["self", "at"] (spIni K "InvalidVector" "at") ∧ Binds K fd3 ["self", "at"] [])
    (Gt : ErrC K mg "TooMany" "most" Ct f4) (Ft : FnOk P w K mg base (L2.CX P w) 1 f4 fd4 ["self", "most"] (spIni K "TooMany" "most") ∧ Binds K fd4 ["self", "most"] [])
    (D : DefAt K mg "check_vectors" (top 44) f fd) : CalW P w K mg base 3 "check_vectors" ["vectors", "width"] (spChk K Ci Ct) 1 ["width"] (fun us ws => us ++ ws) (fun us ws => us ++ ws) f fd := by
  refine ⟨D.fn.ok scCh (fun vs H Q E h => ?_) (fun cdv A outer s H vs Q E hr h => ?_), D.fn.kp, D.gl, kbn D.fn (fun kV doc pm an cdv ct us ws l1 l2 => match us, ws, l1, l2 with | [_], [_], _, _ => rfl) fun r1 r2 => r1.append r2⟩
  · obtain ⟨v, n, g, rfl, _⟩ := h
    rfl
  · obtain ⟨v, n, g, rfl, hg, hsm, hn, q⟩ := h
    have tk : Takes (cxOf (L2.CX P w) P w K mg base nCh "check_vectors" (defScope (top 44)) f cdv A outer s H E) (fun cls d _ H' => E cls d H') := takes_of rfl rfl rfl rfl
    have ow : PassesOwn (model P w) (cxOf (L2.CX P w) P w K mg base nCh "check_vectors" (defScope (top 44)) f cdv A outer s H E).A (cxOf (L2.CX P w) P w K mg base nCh "check_vectors" (defScope (top 44)) f cdv A outer s H E).env (cxOf (L2.CX P w) P w K mg base nCh "check_vectors" (defScope (top 44)) f cdv A outer s H E).xe := passes_of (X := cxOf (L2.CX P w) P w K mg base nCh "check_vectors" (defScope (top 44)) f cdv A outer s H E) rfl
    have hr1 : Room 1 (A.deeper (envOfC "check_vectors" (defScope (top 44)) s.heap.objs.size f cdv)) := hr.mono (by omega)
    refine ⟨_, pss_cons (ps_if (pt_not (pt_val (pe_cal N hr1 (by rfl) (pa_cons (pv 1) (pa_cons pe_int (pa_cons pe_int pa_nil)))))) pss_never pss_nil)
      (pss_cons (ps_if (pt_not (pt_val (pe_callB call_isiT (by rfl) B.isinstance (by decide +kernel) (pa_cons (pv 0) (pa_cons (pe_tup (pa_cons (pe_bltn (v := .ty "list") (by rfl) B.list (by decide +kernel) rfl) (pa_cons (pe_bltn (v := .ty "tuple") (by rfl) B.tuple (by decide +kernel) rfl) pa_nil))) pa_nil)))))
          (pss_one (ps_err rfl tk Gi Fi hr (by rfl) (pa_cons (pe_un un_neg pe_int) pa_nil))) pss_nil)
      (pss_cons (ps_if (pt_cmpR op_gt (pe_callB call_len_seq (by rfl) B.len (by decide +kernel) (pa_cons (pv 0) pa_nil)) pe_int (by rfl)) (pss_one (ps_err rfl tk Gt Ft hr (by rfl) (pa_cons pe_int pa_nil))) pss_nil)
      (pss_one (ps_for ow rfl (pi_or (pi_enum (by rfl) B.enumerate (pa_cons (pv 0) pa_nil)) (pi_enumT (by rfl) B.enumerate (pa_cons (pv 0) pa_nil))) (pg_tup rfl (pgs_cons (pg_name (i := 2) scCh.nd rfl (Or.inl rfl)) (pgs_cons (pg_name (i := 3) scCh.nd rfl (Or.inl rfl)) pgs_nil)) (by rfl))
        (pss_one (ps_if (pt_not (pt_val (pe_cal C hr (by rfl) (pa_cons (pv 3) (pa_cons (pv 1) pa_nil))))) (pss_one (ps_err rfl tk Gi Fi hr (by rfl) (pa_cons (pv 2) pa_nil))) pss_nil)))))), ?_⟩
    refine ⟨_, rfl, (n : Int), 1, 7, rfl, true, ?_, iteF ?_⟩
    · rw [decide_eq_true (show (1 : Int) ≤ (n : Int) by omega), decide_eq_true (show (n : Int) ≤ 7 by omega)]
      rfl
    refine ⟨_, rfl, by decide +kernel, fun tp htp => ?_⟩
    have s1 : L2.Same H (upd H tp (.tup [.ty "list", .ty "tuple"])) := same_new htp
    have hg1 := hg.same s1
    have q1 := q.same s1
    cases g with
    | no =>
      obtain ⟨ty, hty, k1, k2⟩ := hg1
      refine ⟨v, tp, _, _, _, false, rfl, upd_same, two_cls, hty, kitAny_cons (b := false) (kit_ty k1) (fun _ => kitAny_cons (b := false) (kit_ty k2) (fun _ => kitAny_nil) fun z => nomatch z) (fun z => nomatch z), false, rfl, iteT ?_⟩
      exact ⟨1, rfl, mko Gi q1⟩
    | its l =>
      obtain ⟨a, vs, rfl, ha, hp⟩ := hg1
      obtain ⟨t, ht, kt⟩ := ha.ty
      refine ⟨.ref a, tp, _, t, _, true, rfl, upd_same, two_cls, ht, kt, true, rfl, iteF ?_⟩
      have hvl : vs.length = l.length := Paired.length hp
      refine ⟨_, rfl, a, _, rfl, ha, ⟨_, _, rfl, rfl, _, rfl, ?_⟩⟩
      show if decide ((12 : Int) < (vs.length : Nat)) = true then _ else _
      by_cases hm : 12 < l.length
      · rw [decide_eq_true (show (12 : Int) < (vs.length : Nat) by omega)]
        refine iteT ?_
        have q2 : Out Ci Ct E (upd H tp (.tup [.ty "list", .ty "tuple"])) (Q .non) (some .many) := by
          have e : fault n (.its l) = some .many := if_pos hm
          rw [e] at q1
          exact q1
        exact mko Gt q2
      · rw [decide_eq_false (show ¬ (12 : Int) < (vs.length : Nat) by omega)]
        refine iteF ?_
        have e0 : fault n (.its l) = (l.findIdx? fun t => !isVec n t).map fun i => Flt.at (i : Nat) := if_neg hm
        rw [e0] at q1
        refine enum_var rfl ha fun J Kp hK S => ?_
        refine forI S (fun i σ H' => (∃ x y, σ = [some (.ref a), some (.int (n : Nat)), x, y]) ∧ L2.Same (upd H tp (.tup [.ty "list", .ty "tuple"])) H' ∧ ∀ j t, j < i → l[j]? = some t → isVec n t = true) ⟨⟨none, none, rfl⟩, L2.Same.refl _, fun j t hj => absurd hj (Nat.not_lt_zero j)⟩ (fun i σ H' _ hP => hK H' hP.2.1) (fun i x σ H2 H3 hi hP s23 hR => ?_) (fun σ H' hP => ?_)
        · obtain ⟨⟨x0, y0, rfl⟩, s2, hb⟩ := hP
          obtain ⟨v, hv, T, rfl, eT⟩ := hR
          have s3 := s2.trans s23
          obtain ⟨t, htl, hit⟩ := paired_get hp hv
          refine ⟨T, _, rfl, SqT.of eT, rfl, _, _, rfl, _, _, rfl, rfl, ?_⟩
          refine ⟨_, rfl, _, rfl, v, n, t, rfl, hit.same s3, hsm.2 t (List.mem_of_getElem? htl), fun H4 s4 => ⟨_, rfl, ?_⟩⟩
          have s5 := s3.trans s4
          by_cases hv2 : isVec n t = true
          · rw [hv2]
            refine iteF ⟨⟨_, _, rfl⟩, s5, fun j t' hj ht' => ?_⟩
            by_cases e : j = i
            · subst e
              rw [htl] at ht'
              rw [← Option.some.inj ht']
              exact hv2
            · exact hb j t' (by omega) ht'
          · have hv3 : isVec n t = false := by simpa using hv2
            rw [hv3]
            refine iteT ?_
            have e1 : l.findIdx? (fun t => !isVec n t) = some i := by
              rw [List.findIdx?_eq_some_iff_getElem]
              obtain ⟨hil, eil⟩ := List.getElem?_eq_some_iff.mp htl
              refine ⟨hil, by rw [eil, hv3]; rfl, fun j hj => ?_⟩
              rw [hb j l[j] hj (List.getElem?_eq_getElem (by omega))]
              simp
            rw [e1] at q1
            have q2 : Air Ci "InvalidVector" "at" (.int (i : Nat)) E (upd H tp (.tup [.ty "list", .ty "tuple"])) := q1
            exact ⟨_, rfl, mko Gi (q2.same s5)⟩
        · obtain ⟨_, s2, hb⟩ := hP
          have e1 : l.findIdx? (fun t => !isVec n t) = none := by
            rw [List.findIdx?_eq_none_iff]
            intro t ht
            obtain ⟨j, hj, ej⟩ := List.mem_iff_getElem.mp ht
            rw [hb j t (by omega) (by rw [List.getElem?_eq_getElem hj, ej])]
            rfl
          rw [e1] at q1
          exact q1 H' s2
end
end Kb
/-! Sorted texts: one sorted order of them. No program here. -/
namespace Kb
open PySem PySem.Spec PyProof.Rows
def sle (a b : Str) : Bool := !ltCps b.cps.toList a.cps.toList
theorem sle_iff {a b : Str} : sle a b = true ↔ a.cps.toList ≤ b.cps.toList := by
  unfold sle
  rw [ltCps_eq]
  simp [List.not_lt]
theorem sle_trans {a b c : Str} (h1 : sle a b = true) (h2 : sle b c = true) : sle a c = true := sle_iff.mpr (List.le_trans (sle_iff.mp h1) (sle_iff.mp h2))
theorem sle_total (a b : Str) : sle a b = true ∨ sle b a = true := (List.le_total a.cps.toList b.cps.toList).imp sle_iff.mpr sle_iff.mpr
theorem sle_anti {a b : Str} (h1 : sle a b = true) (h2 : sle b a = true) : a = b := by
  have e : a.cps.toList = b.cps.toList := List.le_antisymm (sle_iff.mp h1) (sle_iff.mp h2)
  obtain ⟨x⟩ := a
  obtain ⟨y⟩ := b
  have e2 : x = y := Array.toList_inj.mp e
  rw [e2]
theorem rising_pw : ∀ {l : List Str} {p : Str}, risingS p l = true → (p :: l).Pairwise fun a b => sle a b = true
  | [], p, _ => List.pairwise_singleton _ _
  | x :: r, p, h => by
    have h' : sle p x = true ∧ risingS x r = true := by simpa [risingS, sle] using h
    have ih := rising_pw h'.2
    refine .cons (fun c hc => ?_) ih
    rcases List.mem_cons.mp hc with rfl | hc
    · exact h'.1
    · exact sle_trans h'.1 ((List.pairwise_cons.mp ih).1 c hc)
theorem pw_rising : ∀ {l : List Str} {p : Str}, (p :: l).Pairwise (fun a b => sle a b = true) → risingS p l = true
  | [], _, _ => rfl
  | x :: r, p, h => by
    have h' := List.pairwise_cons.mp h
    show (sle p x && risingS x r) = true
    rw [h'.1 x List.mem_cons_self, pw_rising h'.2]
    rfl
theorem sorted_iff {l : List Str} : sortedS l = true ↔ l.Pairwise fun a b => sle a b = true := by
  cases l with
  | nil => exact ⟨fun _ => .nil, fun _ => rfl⟩
  | cons x r => exact ⟨rising_pw, pw_rising⟩
def srt (ns : List Str) : List Str := ns.mergeSort sle
theorem srt_perm (ns : List Str) : (srt ns).Perm ns := List.mergeSort_perm ns sle
theorem srt_pw (ns : List Str) : (srt ns).Pairwise fun a b => sle a b = true := List.pairwise_mergeSort (le := sle) (fun a b c h1 h2 => sle_trans h1 h2) (fun a b => Bool.or_eq_true_iff.mpr (sle_total a b)) ns
theorem pw_uniq {xs ys : List Str} (p : xs.Perm ys) (hx : xs.Pairwise fun a b => sle a b = true) (hy : ys.Pairwise fun a b => sle a b = true) : xs = ys :=
  List.Perm.eq_of_pairwise (le := fun a b => sle a b = true) (fun a b _ _ h h' => sle_anti h h') hx hy p
theorem srt_uniq {ys ns : List Str} (p : ys.Perm ns) (h : sortedS ys = true) : ys = srt ns := pw_uniq (p.trans (srt_perm ns).symm) (sorted_iff.mp h) (srt_pw ns)
theorem srt_of_perm {ns ms : List Str} (p : ns.Perm ms) : srt ns = srt ms := pw_uniq ((srt_perm ns).trans (p.trans (srt_perm ms).symm)) (srt_pw ns) (srt_pw ms)
theorem srt_pw_id {xs : List Str} (h : xs.Pairwise fun a b => sle a b = true) : srt xs = xs := pw_uniq (srt_perm xs) (srt_pw xs) h
theorem srt_srt (ns : List Str) : srt (srt ns) = srt ns := srt_pw_id (srt_pw ns)
theorem srt_filter {ns : List Str} {p : Str → Bool} : srt ((srt ns).filter p) = (srt ns).filter p := srt_pw_id ((srt_pw ns).filter _)
theorem srt_len (ns : List Str) : (srt ns).length = ns.length := (srt_perm ns).length_eq
theorem srt_nd {ns : List Str} (h : ns.Nodup) : (srt ns).Nodup := (srt_perm ns).nodup_iff.mpr h
theorem srt_mem {ns : List Str} {x : Str} : x ∈ srt ns ↔ x ∈ ns := (srt_perm ns).mem_iff
end Kb
/-! Rows. -/
namespace Kb
open PySem PySem.Spec PyProof.Rows L2
/-- tuple(sorted(l)) of a list of texts -/
theorem ts2 {K : PySem.W.Frag} {H : Hp} {l : Addr} {xs : List Str} {Q : VK} (h : SqL K H l (xs.map V.str)) (hl : xs.length < 64) (q : ∀ t H2, L2.Same H H2 → H2 t = some (.tup ((srt xs).map V.str)) → Q (.ref t) H2) :
    rSortedS K [V.ref l] H fun y2 H2 => ∃ p ys, [y2] = [V.ref p] ∧ ((SqL K H2 p ys ∧ ∀ l, H2 l = none → Q (.ref l) (upd H2 l (.tup ys))) ∨ (SqT K H2 p ys ∧ Q (.ref p) H2)) := by
  refine ⟨l, xs, rfl, h, hl, fun ys p py sy np => ⟨p, _, rfl, .inl ⟨SqL.of upd_same, fun t nt => q t _ ?_ ?_⟩⟩⟩
  · exact (same_new np).trans (same_new nt)
  · rw [upd_same, srt_uniq py sy]
/-- tuple(sorted(list(x))) -/
theorem tsl {K : PySem.W.Frag} {σ : L2.St} {i : Nat} {H : Hp} {a : Addr} {xs : List Str} {Q : VK} (e : σ[i]? = some (some (.ref a))) (h : SqA K H a (xs.map V.str)) (hl : xs.length < 64) (q : ∀ t H2, L2.Same H H2 → H2 t = some (.tup ((srt xs).map V.str)) → Q (.ref t) H2) :
    tCB (fun xs H Q => ∃ p ys, xs = [V.ref p] ∧ ((SqL K H p ys ∧ ∀ l, H l = none → Q (.ref l) (upd H l (.tup ys))) ∨ (SqT K H p ys ∧ Q (.ref p) H))) (tCons (tCB (rSortedS K) (tCons (tCB (fun xs H Q => ∃ p ys, xs = [V.ref p] ∧ (SqL K H p ys ∨ SqT K H p ys) ∧ ∀ l, H l = none → Q (.ref l) (upd H l (.lst ys))) (tCons (tVar i) tNil)) tNil)) tNil) σ H Q :=
  ⟨_, e, a, _, rfl, h, fun l nl => ts2 (SqL.of upd_same) hl fun t H2 s e => q t H2 ((same_new nl).trans s) e⟩
theorem inV_strs {z : Str} : ∀ {xs : List Str}, inV (.str z) (xs.map V.str) = decide (z ∈ xs)
  | [] => rfl
  | y :: r => by
    show (eqV (.str y) (.str z) || inV (.str z) (r.map V.str)) = _
    rw [inV_strs (xs := r)]
    have e : eqV (.str y) (.str z) = decide (z = y) := by
      show (y == z) = _
      by_cases h : z = y
      · rw [decide_eq_true h, h]
        simp
      · rw [decide_eq_false h]
        simpa using fun q => h q.symm
    rw [e]
    simp [List.mem_cons, Bool.decide_or]
/-- a row: what it is for, what against -/
def RowAt (K : PySem.W.Frag) (C : Addr) (H : Hp) (v : V) (pro con : List Str) : Prop := ∃ (r dx : Addr) (fs : List (Str × V)) (p c n : Addr), v = .ref r ∧ H r = some (.ins C dx fs) ∧ fs.lookup ("pro" : Str) = some (.ref p) ∧ fs.lookup ("con" : Str) = some (.ref c) ∧ fs.lookup ("named" : Str) = some (.ref n) ∧
  SqT K H p (pro.map V.str) ∧ SqT K H c (con.map V.str) ∧ SqT K H n ((srt (pro ++ con)).map V.str)
theorem RowAt.sameT {K : PySem.W.Frag} {C : Addr} {H H' : Hp} {v : V} {pro con : List Str} (h : RowAt K C H v pro con) (s : SameT H H') : RowAt K C H' v pro con := by
  obtain ⟨r, dx, fs, p, c, n, e, h1, h2, h3, h4, h5, h6, h7⟩ := h
  exact ⟨r, dx, fs, p, c, n, e, s.ins h1, h2, h3, h4, s.sqT h5, s.sqT h6, s.sqT h7⟩
theorem RowAt.same {K : PySem.W.Frag} {C : Addr} {H H' : Hp} {v : V} {pro con : List Str} (h : RowAt K C H v pro con) (s : L2.Same H H') : RowAt K C H' v pro con := h.sameT (SameT.of s)
/-- what the written part says of the class Row -/
structure RowC (K : PySem.W.Frag) (mg : Str → Option Value) (C fI : Addr) : Prop where
  made : Mk K C fI
  cl : Cls K C
  n1 : NoAttr K C "pro"
  n2 : NoAttr K C "con"
  n3 : NoAttr K C "named"
  gl : mg "Row" = some (.ref C)
/-- all but one stand -/
def But (x : Addr) (H H' : Hp) : Prop := ∀ b o, b ≠ x → H b = some o → H' b = some o
theorem But.refl (x : Addr) (H : Hp) : But x H H := fun _ _ _ h => h
theorem But.same {x : Addr} {H H1 H2 : Hp} (a : But x H H1) (s : L2.Same H1 H2) : But x H H2 := fun b o n h => s b o (a b o n h)
theorem But.put {x : Addr} {H H1 : Hp} {o : HO} (a : But x H H1) : But x H (upd H1 x o) := fun b u n h => by
  rw [upd_ne n]
  exact a b u n h
theorem But.sqT {K : PySem.W.Frag} {x : Addr} {H H' : Hp} {a : Addr} {xs : List V} (e : But x H H') (n : ∀ ys, H x ≠ some (.tup ys)) (n2 : ∀ o u, H x ≠ some (.frz o u)) (h : SqT K H a xs) : SqT K H' a xs := by
  rcases h with (h | ⟨o, h⟩) | h
  · exact .inl (.inl (e _ _ (fun z => n _ (by rw [← z]; exact h)) h))
  · exact .inl (.inr ⟨o, e _ _ (fun z => n2 _ _ (by rw [← z]; exact h)) h⟩)
  · exact .inr h
theorem But.sqL {K : PySem.W.Frag} {x : Addr} {H H' : Hp} {a : Addr} {xs : List V} (e : But x H H') (n : ∀ ys, H x ≠ some (.lst ys)) (n2 : ∀ o u, H x ≠ some (.frz o u)) (h : SqL K H a xs) : SqL K H' a xs := by
  rcases h with (h | ⟨o, h⟩) | h
  · exact .inl (.inl (e _ _ (fun z => n _ (by rw [← z]; exact h)) h))
  · exact .inl (.inr ⟨o, e _ _ (fun z => n2 _ _ (by rw [← z]; exact h)) h⟩)
  · exact .inr h
theorem But.sqA {K : PySem.W.Frag} {x C dx : Addr} {fs : List (Str × V)} {H H' : Hp} {a : Addr} {xs : List V} (e : But x H H') (n : H x = some (.ins C dx fs)) (h : SqA K H a xs) : SqA K H' a xs := by
  rcases h with h | h
  · exact .inl (e.sqL (fun _ z => by rw [n] at z; cases z) (fun _ _ z => by rw [n] at z; cases z) h)
  · exact .inr (e.sqT (fun _ z => by rw [n] at z; cases z) (fun _ _ z => by rw [n] at z; cases z) h)
theorem len64 {ns : List Str} (h : AreNs ns) : ns.length < 64 := by have := h.len; omega
section
variable {P : Program} {w : World} {K : PySem.W.Frag} {mg : Str → Option Value} {base : Heap} {f f1 f2 f3 C fI : Addr} {fd fd1 fd2 fd3 : FuncData}
abbrev nRi : List Str := ["self", "pro", "con", "name"]
theorem scRi : FnScope nRi ["self", "pro", "con"] (defScope (meth 29 0)) := ⟨rfl, rfl, rfl, by decide +kernel, rfl, by decide +kernel, by decide +kernel⟩
def spRi (K : PySem.W.Frag) (C : Addr) : Sp := fun vs H Q _ => ∃ (x dx a b : Addr) (ps cs : List Str), vs = [.ref x, .ref a, .ref b] ∧ H x = some (.ins C dx []) ∧ SqA K H a (ps.map V.str) ∧ SqA K H b (cs.map V.str) ∧ AreNs ps ∧ AreNs cs ∧ (∀ z ∈ ps, z ∉ cs) ∧
  ∀ H', But x H H' → RowAt K C H' (.ref x) (srt ps) (srt cs) → Q .non H'
theorem c_row {dvs : List V} {kws : List (Str × V)} (B : Blt mg) (N : Cal P w K mg base 3 "is_names" ["value"] (spT (preNs K)) f1 fd1) (R : RowC K mg C fI)
    (D : FunD K "__init__" "Row.__init__" (defArgs (meth 29 0)) (defBody (meth 29 0)) (defScope (meth 29 0)) dvs kws fI fd) : FnOk P w K mg base (L2.CX P w) 4 fI fd ["self", "pro", "con"] (spRi K C) := by
  refine D.ok scRi (fun vs H Q E h => ?_) (fun cdv A outer s H vs Q E hr h => ?_)
  · obtain ⟨x, dx, a, b, ps, cs, rfl, _⟩ := h
    rfl
  · obtain ⟨x, dx, a, b, ps, cs, rfl, hx, ha, hb, hp, hc, hdj, q⟩ := h
    refine ⟨_, PSs.nox (pss_cons (ps_if (pt_not (pt_val (pe_cal N hr (by rfl) (pa_cons (pv 1) pa_nil)))) pss_never pss_nil)
      (pss_cons (ps_if (pt_not (pt_val (pe_cal N hr (by rfl) (pa_cons (pv 2) pa_nil)))) pss_never pss_nil)
      (pss_cons (ps_if (pt_val (pe_callB (cr_any rfl) (by rfl) B.any (by decide +kernel) (pa_cons
        (pe_lc (own := [("name", 3)]) (g := gName 3) (tt := tYes) rfl scRi.nd (pi_seq (pv 1)) (blkOk_by (N := nRi) (own := [("name", 3)]) (sc := defScope (meth 29 0)) (by decide +kernel)) (fun _ _ _ _ _ => pg_name (i := 3) scRi.nd rfl (Or.inl rfl)) (fun _ _ _ _ _ => pts_nil)
          (fun _ _ _ _ _ => pe_cmpR (r := rIn K false) op_in_seq (pv 3) (pv 2) (by rfl))) pa_nil))) pss_never pss_nil)
      (pss_cons (ps_fld (pv 0) (pe_callTy call_tuple_of (by rfl) B.tuple (by decide +kernel) (pa_cons (pe_callB cr_sortedS (by rfl) B.sorted (by decide +kernel) (pa_cons (pe_callTy call_list_of (by rfl) B.list (by decide +kernel) (pa_cons (pv 1) pa_nil)) pa_nil)) pa_nil)) (by rfl))
      (pss_cons (ps_fld (pv 0) (pe_callTy call_tuple_of (by rfl) B.tuple (by decide +kernel) (pa_cons (pe_callB cr_sortedS (by rfl) B.sorted (by decide +kernel) (pa_cons (pe_callTy call_list_of (by rfl) B.list (by decide +kernel) (pa_cons (pv 2) pa_nil)) pa_nil)) pa_nil)) (by rfl))
      (pss_one (ps_fld (pv 0) (pe_callTy call_tuple_of (by rfl) B.tuple (by decide +kernel) (pa_cons (pe_callB cr_sortedS (by rfl) B.sorted (by decide +kernel) (pa_cons (pe_lst (StX.pa_star (pe_fld (pv 0) (by rfl)) (StX.pa_star (pe_fld (pv 0) (by rfl)) pa_nil))) pa_nil)) pa_nil)) (by rfl)))))))), ?_⟩
    refine ⟨_, rfl, ⟨a, ps, rfl, ha, hp⟩, fun H1 s1 => ⟨_, rfl, iteF ?_⟩⟩
    refine ⟨_, rfl, ⟨b, cs, rfl, hb.same s1, hc⟩, fun H2 s2 => ⟨_, rfl, iteF ?_⟩⟩
    have s12 := s1.trans s2
    have ha2 := ha.same s12
    have hb2 := hb.same s12
    have hl : (ps.map V.str).length ≤ 1000 := by rw [List.length_map]; have := hp.len; omega
    refine seq_var rfl ha2 fun J Kp hK S => ?_
    refine lcV S hl ((List.replicate ps.length false).map V.bl) (by simp) (fun H' sm => hK H' sm) (fun i x y H' hi hR hy sm Y hY => ?_) (fun Dl H3 hD sm eD => ?_)
    · obtain ⟨z, hz, rfl⟩ := map_at hR
      obtain ⟨k, hk, rfl⟩ := map_at hy
      have ek := rep_at hk
      subst ek
      refine ⟨rfl, _, rfl, _, rfl, b, _, rfl, hb2.same sm, rfl, flat_strs cs, ?_⟩
      show Y (.bl (inV (.str z) (cs.map V.str))) H'
      rw [inV_strs, decide_eq_false (hdj z (List.mem_of_getElem? hz))]
      exact hY _ (L2.Same.refl _)
    · refine ⟨Dl, List.replicate ps.length false, rfl, SqL.of eD, false, ?_, iteF ?_⟩
      · simp
      have s3 := s12.trans sm
      dsimp only [tNext, tSeq, sFld]
      refine tsl (σ := start nRi [.ref x, .ref a, .ref b]) (i := 1) rfl (ha.same s3) (len64 hp) fun t1 H4 s4 e4 => ?_
      have s04 := s3.trans s4
      refine ⟨_, rfl, x, C, dx, [], rfl, s04 _ _ hx, R.cl, R.n1, by decide, ?_⟩
      have b4 : But x H (upd H4 x (.ins C dx (putF "pro" (.ref t1) []))) := ((But.refl x H).same s04).put
      have n1 : t1 ≠ x := fun z => by
        rw [z, s04 _ _ hx] at e4
        cases e4
      refine tsl (σ := start nRi [.ref x, .ref a, .ref b]) (i := 2) rfl (b4.sqA hx hb) (len64 hc) fun t2 H5 s5 e5 => ?_
      have hx5 := s5 _ _ (upd_same (H := H4) (a := x) (o := .ins C dx (putF "pro" (.ref t1) [])))
      have n2 : t2 ≠ x := fun z => by
        rw [z, hx5] at e5
        cases e5
      refine ⟨_, rfl, x, C, dx, _, rfl, hx5, R.cl, R.n2, show 1 < 1000 by decide, ?_⟩
      have b5 : But x H (upd H5 x (.ins C dx (putF "con" (.ref t2) (putF "pro" (.ref t1) [])))) := (b4.same s5).put
      have g1 : (upd H5 x (.ins C dx (putF "con" (.ref t2) (putF "pro" (.ref t1) [])))) t1 = some (.tup ((srt ps).map V.str)) := by
        rw [upd_ne n1]
        exact s5 _ _ (by rw [upd_ne n1]; exact e4)
      have g2 : (upd H5 x (.ins C dx (putF "con" (.ref t2) (putF "pro" (.ref t1) [])))) t2 = some (.tup ((srt cs).map V.str)) := by
        rw [upd_ne n2]
        exact e5
      refine ⟨_, rfl, x, C, dx, _, _, rfl, upd_same, R.cl, R.n1, rfl, t1, _, rfl, .inl (SqT.of g1), ⟨_, rfl, x, C, dx, _, _, rfl, upd_same, R.cl, R.n2, rfl, t2, _, rfl, .inl (SqT.of g2), ?_⟩⟩
      have h1 := hp.len
      have h2 := hc.len
      refine ⟨sz (by simp [srt_len]; omega), fun l nl => ?_⟩
      have hl1 : SqL K (upd (upd H5 x (.ins C dx (putF "con" (.ref t2) (putF "pro" (.ref t1) [])))) l (.lst ((srt ps).map V.str ++ ((srt cs).map V.str ++ [])))) l ((srt ps ++ srt cs).map V.str) := SqL.of (by rw [upd_same, List.map_append, List.append_nil])
      refine ⟨l, srt ps ++ srt cs, rfl, hl1, by simp [srt_len]; omega, fun ys p py sy np => ⟨p, _, rfl, .inl ⟨SqL.of upd_same, fun t3 nt => ?_⟩⟩⟩
      have s56 := (same_new nl).trans ((same_new np).trans (same_new (o := .tup (ys.map V.str)) nt))
      generalize eH6 : upd (upd (upd (upd H5 x (.ins C dx (putF "con" (.ref t2) (putF "pro" (.ref t1) [])))) l (.lst ((srt ps).map V.str ++ ((srt cs).map V.str ++ [])))) p (.lst (ys.map V.str))) t3 (.tup (ys.map V.str)) = H6 at s56 ⊢
      have e6 : H6 t3 = some (.tup ((srt (srt ps ++ srt cs)).map V.str)) := by
        rw [← eH6, upd_same, srt_uniq py sy]
      have hx6 := s56 _ _ (upd_same (H := H5) (a := x) (o := .ins C dx (putF "con" (.ref t2) (putF "pro" (.ref t1) []))))
      have n3 : t3 ≠ x := fun z => by
        rw [z, hx6] at e6
        cases e6
      refine ⟨_, rfl, x, C, dx, _, rfl, hx6, R.cl, R.n3, show 2 < 1000 by decide, ?_⟩
      refine q _ (b5.same s56).put ⟨x, dx, _, t1, t2, t3, rfl, upd_same, rfl, rfl, rfl, SqT.of ?_, SqT.of ?_, SqT.of ?_⟩
      · rw [upd_ne n1]
        exact s56 _ _ g1
      · rw [upd_ne n2]
        exact s56 _ _ g2
      · rw [upd_ne n3]
        exact e6
end
end Kb
/-! stranger, nth_mark; Book.__init__, records, book_with. -/
namespace Kb
open PySem PySem.Spec PyProof.Rows L2
/-- a book: its reasons, its rows by mark -/
def BookAt (K : PySem.W.Frag) (C : Addr) (H : Hp) (v : V) (rs : List Str) (es : List (Str × V)) : Prop := ∃ (b dx : Addr) (fs : List (Str × V)) (r d : Addr), v = .ref b ∧ H b = some (.ins C dx fs) ∧ fs.lookup ("reasons" : Str) = some (.ref r) ∧ fs.lookup ("by_mark" : Str) = some (.ref d) ∧
  fs.lookup ("records" : Str) = none ∧ fs.lookup ("grown" : Str) = none ∧ fs.length ≤ 2 ∧ SqT K H r (rs.map V.str) ∧ H d = some (.dK (es.map fun p => (Sum.inr p.1, p.2)))
theorem BookAt.sameT {K : PySem.W.Frag} {C : Addr} {H H' : Hp} {v : V} {rs : List Str} {es : List (Str × V)} (h : BookAt K C H v rs es) (s : SameT H H') : BookAt K C H' v rs es := by
  obtain ⟨b, dx, fs, r, d, e, h1, h2, h3, h4, h5, h6, h7, h8⟩ := h
  exact ⟨b, dx, fs, r, d, e, s.ins h1, h2, h3, h4, h5, h6, s.sqT h7, s _ _ h8 fun _ z => nomatch z⟩
theorem BookAt.same {K : PySem.W.Frag} {C : Addr} {H H' : Hp} {v : V} {rs : List Str} {es : List (Str × V)} (h : BookAt K C H v rs es) (s : L2.Same H H') : BookAt K C H' v rs es := h.sameT (SameT.of s)
/-- what the written part says of the class Book -/
structure BookC (K : PySem.W.Frag) (mg : Str → Option Value) (C fI fR fG : Addr) : Prop where
  made : Mk K C fI
  cl : Cls K C
  n1 : NoAttr K C "reasons"
  n2 : NoAttr K C "by_mark"
  rd : ∃ mc, ClX.CRead K C mc ∧ ∃ u, ClX.CVal K C mc "MOST" (.int 40) u
  mR : Meth K C "records" fR
  mG : Meth K C "grown" fG
  gl : mg "Book" = some (.ref C)
/-- the mark of a place below 26 -/
def mk26 (i : Nat) : Str := ⟨#[97 + i]⟩
theorem abc_at {i : Nat} (h : i < 26) : abc.cps[i]? = some (97 + i) := by
  have e : abc.cps.toList[i]? = some (97 + i) := by
    rw [abc_eq, List.getElem?_range' h]
    simp
  simpa using e
section
variable {P : Program} {w : World} {K : PySem.W.Frag} {mg : Str → Option Value} {base : Heap} {f f1 f2 f3 f4 fR fG C Cr fI : Addr} {fd fd1 fd2 fd3 fd4 : FuncData}
/-! ### stranger -/
abbrev nSt : List Str := ["row", "reasons", "reason"]
theorem scSt : FnScope nSt ["row", "reasons"] (defScope (top 33)) := ⟨rfl, rfl, rfl, by decide +kernel, rfl, by decide +kernel, by decide +kernel⟩
def spSt (K : PySem.W.Frag) (Cr : Addr) : Sp := fun vs H Q _ => ∃ (v : V) (a : Addr) (pro con rs : List Str), vs = [v, .ref a] ∧ RowAt K Cr H v pro con ∧ SqA K H a (rs.map V.str) ∧ (∀ z, z ∈ pro ++ con → z ∈ rs) ∧ ∀ H', L2.Same H H' → Q .non H'
theorem c_stranger {fI0 : Addr} (R : RowC K mg Cr fI0) (D : DefAt K mg "stranger" (top 33) f fd) : Cal P w K mg base 1 "stranger" ["row", "reasons"] (spSt K Cr) f fd := by
  refine D.cal scSt (fun _ _ _ _ _ _ us hl => match us, hl with | [_, _], _ => rfl) (fun vs H Q E h => ?_) (fun cdv A outer s H vs Q E hr h => ?_)
  · obtain ⟨v, a, pro, con, rs, rfl, _⟩ := h
    rfl
  · obtain ⟨v, a, pro, con, rs, rfl, hv, ha, hin, q⟩ := h
    refine ⟨_, pss_cons (ps_for PassesOwn.never rfl (pi_tup (pe_fld (pv 0) (by rfl))) (pg_name (i := 2) scSt.nd rfl (Or.inl rfl)) (pss_one (ps_if (pt_cmpR op_notIn_seq (pv 2) (pv 1) (by rfl)) pss_never pss_nil))) (pss_one (ps_ret pe_non)), ?_⟩
    obtain ⟨r, dx, fs, p, c, n, rfl, h1, h2, h3, h4, h5, h6, h7⟩ := hv
    refine ⟨_, rfl, r, Cr, dx, fs, _, rfl, h1, R.cl, R.n3, h4, n, rfl, ⟨_, h7⟩, ?_⟩
    refine forI (srcT n ((srt (pro ++ con)).map V.str)) (fun i σ H' => (∃ x, σ = [some (.ref r), some (.ref a), x]) ∧ L2.Same H H') ⟨⟨none, rfl⟩, L2.Same.refl _⟩ (fun i σ H' _ hP => Kb.Same.tup hP.2 h7) (fun i x σ H2 H3 hi hP s23 hR => ?_) (fun σ H' hP => ?_)
    · obtain ⟨⟨x0, rfl⟩, s2⟩ := hP
      have s3 := s2.trans s23
      obtain ⟨z, hz, rfl⟩ := map_at hR
      have hz2 : z ∈ rs := hin z (srt_mem.mp (List.mem_of_getElem? hz))
      refine ⟨_, rfl, _, rfl, a, _, rfl, ha.same s3, rfl, flat_strs rs, false, ?_, iteF ⟨⟨_, rfl⟩, s3⟩⟩
      show V.bl (!inV (.str z) (rs.map V.str)) = .bl false
      rw [inV_strs, decide_eq_true hz2]
      rfl
    · exact q H' hP.2
/-! ### nth_mark -/
abbrev nNt : List Str := ["index", "mark", "rest", "letter"]
theorem scNt : FnScope nNt ["index"] (defScope (top 27)) := ⟨rfl, rfl, rfl, by decide +kernel, rfl, by decide +kernel, by decide +kernel⟩
def preNt : List V → Hp → Prop := fun vs _ => ∃ i : Nat, vs = [.int i] ∧ i < 26
def spNt : Sp := fun vs H Q _ => ∃ i : Nat, vs = [.int i] ∧ i < 26 ∧ ∀ H', L2.Same H H' → Q (.str (mk26 i)) H'
theorem c_nth (B : Blt mg) (T : Cst mg) (D : DefAt K mg "nth_mark" (top 27) f fd) : Cal P w K mg base 1 "nth_mark" ["index"] spNt f fd := by
  refine D.cal scNt (fun _ _ _ _ _ _ us hl => match us, hl with | [_], _ => rfl) (fun vs H Q E h => ?_) (fun cdv A outer s H vs Q E hr h => ?_)
  · obtain ⟨i, rfl, _⟩ := h
    rfl
  · obtain ⟨i, rfl, hi, q⟩ := h
    obtain ⟨tl, hL⟩ := T.letters
    refine ⟨_, pss_cons (ps_set (i := 1) scNt.nd rfl (Or.inl rfl) pe_str) (pss_cons (ps_set (i := 2) scNt.nd rfl (Or.inl rfl) (pe_op op_add (pv 0) pe_int))
      (pss_cons (ps_while PassesOwn.never (pt_cmpR op_gt (pv 2) pe_int (by rfl))
        (pss_cons (ps_asg (pe_callB call_divmod (by rfl) B.divmod (by decide +kernel) (pa_cons (pe_op op_sub (pv 2) pe_int) (pa_cons (pe_callB call_len_str (by rfl) B.len (by decide +kernel) (pa_cons (pe_glob (v := .str abc) (by rfl) hL ⟨_, rfl⟩) pa_nil)) pa_nil)))
            (pg_tup rfl (pgs_cons (pg_name (i := 2) scNt.nd rfl (Or.inl rfl)) (pgs_cons (pg_name (i := 3) scNt.nd rfl (Or.inl rfl)) pgs_nil)) (by rfl)))
          (pss_one (ps_set (i := 1) scNt.nd rfl (Or.inl rfl) (pe_joined (.cons (pe_fmt (pe_item_str (pe_glob (v := .str abc) (by rfl) hL ⟨_, rfl⟩) (pv 3) (fun _ _ => rfl))) (.cons (pe_fmt (pv 1)) .nil))))))) (pss_one (ps_ret (pv 1))))), ?_⟩
    refine ⟨_, rfl, _, _, rfl, rfl, fun m σ H' => L2.Same H H' ∧ ((m = 1 ∧ σ = [some (.int i), some (.str Str.empty), some (.int ((i : Int) + 1)), none]) ∨ (m = 0 ∧ σ = [some (.int i), some (.str (mk26 i)), some (.int 0), some (.int i)])), ⟨1, L2.Same.refl _, .inl ⟨rfl, rfl⟩⟩, fun m σ H' hW => ?_⟩
    obtain ⟨s1, ⟨rfl, rfl⟩ | ⟨rfl, rfl⟩⟩ := hW
    · refine ⟨_, rfl, _, _, rfl, rfl, decide ((0 : Int) < (i : Int) + 1), rfl, ?_⟩
      rw [decide_eq_true (by omega)]
      refine iteT ⟨fun σ' H2 => L2.Same H H2 ∧ σ' = [some (.int i), some (.str (mk26 i)), some (.int 0), some (.int i)], fun σ' H2 hN => ⟨0, by decide, hN.1, .inr ⟨rfl, hN.2⟩⟩, ?_⟩
      have el : (abc.length : Nat) = 26 := by decide +kernel
      refine ⟨_, rfl, _, _, rfl, rfl, ⟨abc, rfl, sz (by rw [el]; decide), ⟨_, _, rfl, ?_, fun p np => ?_⟩⟩⟩
      · rw [el]
        exact ⟨by decide, by decide⟩
      have e1 : ((i : Int) + 1 - 1) / ((abc.length : Nat) : Int) = 0 := by rw [el]; omega
      have e2 : ((i : Int) + 1 - 1) % ((abc.length : Nat) : Int) = i := by rw [el]; omega
      rw [e1, e2]
      refine ⟨p, _, rfl, SqT.of upd_same, rfl, _, _, rfl, _, _, rfl, rfl, ?_⟩
      have s2 := s1.trans (same_new (o := .tup [.int 0, .int (i : Int)]) np)
      refine ⟨_, rfl, abc, (i : Int), 97 + i, rfl, rfl, by omega, by omega, ?_, ?_, .inl ⟨_, rfl, sz (show 1 ≤ 100000 by decide), _, rfl, sz ?_, _, rfl, .inl ⟨_, rfl, sz (show 0 ≤ 100000 by decide), _, rfl, sz ?_, ?_⟩⟩⟩
      · rw [el]; omega
      · rw [Int.toNat_natCast]
        exact abc_at hi
      · show 0 + 1 ≤ 100000
        decide
      · show 0 + 1 + 0 ≤ 100000
        decide
      · exact ⟨s2, rfl⟩
    · refine ⟨_, rfl, _, _, rfl, rfl, _, rfl, iteF ?_⟩
      exact ⟨_, rfl, q H' s1⟩
end
end Kb
/-! Book.__init__, records, book_with, grown. -/
namespace Kb
open PySem PySem.Spec PyProof.Rows L2
theorem iteD {c A B : Prop} [Decidable c] (h : c) (a : A) : if decide c = true then A else B := by
  rw [decide_eq_true h]
  exact iteT a
theorem iteDn {c A B : Prop} [Decidable c] (h : ¬ c) (b : B) : if decide c = true then A else B := by
  rw [decide_eq_false h]
  exact iteF b
theorem for0 {J : It} {g : TG} {tb : TS} {D : Ends} {σ : L2.St} {H : Hp} (hs : J.stop 0 H) (hd : D.nx σ H) :
    ∃ W : Nat → Nat → L2.St → Hp → Prop, (∃ m, W 0 m σ H) ∧ ∀ i m σ H, W i m σ H →
      (J.stop i H ∧ D.nx σ H) ∨ (J.go i H ∧ ∃ N : L2.St → Hp → Prop, (∀ σ' H', N σ' H' → ∃ m', m' < m ∧ W (i + 1) m' σ' H') ∧ ∀ x H', J.yld i H x H' → g x σ H' fun σ2 H2 => tb { D with nx := N, ct := N, bk := D.nx } σ2 H2) :=
  ⟨fun i _ σ' H' => i = 0 ∧ σ' = σ ∧ H' = H, ⟨0, rfl, rfl, rfl⟩, fun i _ σ' H' ⟨a, b, c⟩ => by
    subst a b c
    exact .inl ⟨hs, hd⟩⟩
section
variable {P : Program} {w : World} {K : PySem.W.Frag} {mg : Str → Option Value} {base : Heap} {f f1 f2 f3 f4 f5 fR fG C Cr fI : Addr} {fd fd1 fd2 fd3 fd4 fd5 : FuncData}
/-! ### Book.__init__ -/
abbrev nBi : List Str := ["self", "reasons", "records", "at", "record", "by_mark", "mark", "row", "reason"]
theorem scBi : FnScope nBi ["self", "reasons", "records"] (defScope (meth 34 1)) := ⟨rfl, rfl, rfl, by decide +kernel, rfl, by decide +kernel, by decide +kernel⟩
def spBi (K : PySem.W.Frag) (C : Addr) : Sp := fun vs H Q _ => ∃ (x dx a : Addr) (ns : List Str), vs = [.ref x, .ref a] ∧ H x = some (.ins C dx []) ∧ SqA K H a (ns.map V.str) ∧ AreNs ns ∧ 1 ≤ ns.length ∧
  ∀ H', But x H H' → BookAt K C H' (.ref x) (srt ns) [] → Q .non H'
theorem c_bookI (B : Blt mg) (T : Cst mg) (N : Cal P w K mg base 3 "is_names" ["value"] (spT (preNs K)) f1 fd1) (G : BookC K mg C fI fR fG)
    (D : MetAt K "__init__" "Book.__init__" (meth 34 1) fI fd) : FnR P w K mg base (L2.CX P w) 4 fI (spBi K C) := by
  obtain ⟨oc, od, dV, kV, doc, pm, an, cdv, ct, osl, e, lk, hcd, hD, hK⟩ := D.ex
  subst e
  have edV : dV = .none := by
    rcases hD with ⟨_, e⟩ | ⟨e, _⟩
    · exact e
    · exact absurd rfl e
  subst edV
  have F := StX.fn_star (P := P) (w := w) (K := K) (mg := mg) (base := base) (CX := L2.CX P w) (k := 3) (N := nBi) (ps := ["self", "reasons"]) (pv := "records") (sp := fun vs H Q _ => ∃ (x dx a t : Addr) (ns : List Str), vs = [.ref x, .ref a, .ref t] ∧ H x = some (.ins C dx []) ∧ H t = some (.tup []) ∧ SqA K H a (ns.map V.str) ∧ AreNs ns ∧ 1 ≤ ns.length ∧
    ∀ H', But x H H' → BookAt K C H' (.ref x) (srt ns) [] → Q .non H') lk hcd scBi StX.cxUp (StX.bind_star2 (B := fun l => bindArgs (PySem.W.fnOf "__init__" "Book.__init__" (defArgs (meth 34 1)) (defBody (meth 34 1)) (defScope (meth 34 1)) .none kV doc pm an cdv ct) ⟨l, []⟩) (fun a b => rfl) (fun a b r rs => rfl)) ?_
  · intro A outer s H us vs Q E hr e0 r h
    refine F A outer s H us vs Q E hr e0 r ?_
    obtain ⟨x, dx, a, ns, rfl, hx, ha, hn, h1, q⟩ := h
    refine ⟨[.ref x, .ref a], [], rfl, rfl, Nat.zero_le _, fun p np => ⟨x, dx, a, p, ns, rfl, (same_new np) _ _ hx, upd_same, ha.same (same_new np), hn, h1, fun H' b bk => q H' (fun c o n hc => b c o n ((same_new np) _ _ hc)) bk⟩⟩
  · intro A outer s H vs Q E hr h
    obtain ⟨x, dx, a, t, ns, rfl, hx, ht, ha, hn, h1, q⟩ := h
    obtain ⟨tm, hM⟩ := T.mostReasons
    refine ⟨_, PSs.nox (pss_cons (ps_if (PW.pt (pw_or (pt_not (pt_val (pe_cal N hr (by rfl) (pa_cons (pv 1) pa_nil)))) (pw_or1 (pt_not (pt_chain op_le op_le pe_int (pe_callB call_len_seq (by rfl) B.len (by decide +kernel) (pa_cons (pv 1) pa_nil)) (pe_glob (v := .int 7) (by rfl) hM ⟨_, rfl⟩)))))) pss_never pss_nil)
      (pss_cons (ps_for PassesOwn.never rfl (pi_enumT (by rfl) B.enumerate (pa_cons (pv 2) pa_nil)) (pg_tup rfl (pgs_cons (pg_name (i := 3) scBi.nd rfl (Or.inl rfl)) (pgs_cons (pg_name (i := 4) scBi.nd rfl (Or.inl rfl)) pgs_nil)) (by rfl)) pss_never)
      (pss_cons (ps_if (pt_cmpR op_gt (pe_callB call_len_seq (by rfl) B.len (by decide +kernel) (pa_cons (pv 2) pa_nil)) (ClX.pe_cval (pe_glob (v := .ref C) (by rfl) G.gl rfl)) (by rfl)) pss_never pss_nil)
      (pss_cons (ps_set (i := 5) scBi.nd rfl (Or.inl rfl) pe_dnewK)
      (pss_cons (ps_for PassesOwn.never rfl (pi_tup (pv 2)) (pg_tup rfl (pgs_cons (pg_name (i := 6) scBi.nd rfl (Or.inl rfl)) (pgs_cons (pg_name (i := 7) scBi.nd rfl (Or.inl rfl)) pgs_nil)) (by rfl)) pss_never)
      (pss_cons (ps_for PassesOwn.never rfl (pi_tup (pv 2)) (pg_tup rfl (pgs_cons (pg_name (i := 6) scBi.nd rfl (Or.inl rfl)) (pgs_cons (pg_name (i := 7) scBi.nd rfl (Or.inl rfl)) pgs_nil)) (by rfl)) pss_never)
      (pss_cons (ps_fld (pv 0) (pe_callTy call_tuple_of (by rfl) B.tuple (by decide +kernel) (pa_cons (pe_callB cr_sortedS (by rfl) B.sorted (by decide +kernel) (pa_cons (pe_callTy call_list_of (by rfl) B.list (by decide +kernel) (pa_cons (pv 1) pa_nil)) pa_nil)) pa_nil)) (by rfl))
      (pss_one (ps_fld (pv 0) (pv 5) (by rfl)))))))))), ?_⟩
    refine ⟨_, rfl, ⟨a, ns, rfl, ha, hn⟩, fun H1 s1 => ⟨_, rfl, iteF ?_⟩⟩
    refine ⟨_, rfl, a, _, rfl, ha.same s1, _, _, rfl, rfl, _, rfl, ?_⟩
    rw [List.length_map]
    have l7 := hn.len
    refine iteD (by omega) ⟨_, _, rfl, rfl, _, rfl, ?_⟩
    rw [decide_eq_true (show ((ns.length : Nat) : Int) ≤ 7 by omega)]
    refine iteF ?_
    have ht1 := s1 _ _ ht
    refine ⟨_, rfl, t, [], rfl, SqT.of ht1, for0 ⟨[], SqT.of ht1, rfl⟩ ?_⟩
    obtain ⟨mc, cr, u, cv⟩ := G.rd
    refine ⟨_, rfl, t, _, rfl, .inr (SqT.of ht1), C, mc, _, u, rfl, cr, cv, ⟨_, _, rfl, rfl, _, rfl, iteDn (by decide) fun d nd => ?_⟩⟩
    have s2 := s1.trans (same_new (o := .dK []) nd)
    have ht2 := s2 _ _ ht
    refine ⟨_, rfl, t, rfl, ⟨_, SqT.of ht2⟩, for0 ⟨[], SqT.of ht2, Nat.le_refl _⟩ ?_⟩
    refine ⟨_, rfl, t, rfl, ⟨_, SqT.of ht2⟩, for0 ⟨[], SqT.of ht2, Nat.le_refl _⟩ ?_⟩
    dsimp only [tNext, tSeq, sFld]
    refine tsl (σ := (start nBi [.ref x, .ref a, .ref t]).set 5 (some (.ref d))) (i := 1) rfl (ha.same s2) (len64 hn) fun t1 H4 s4 e4 => ?_
    have s04 := s2.trans s4
    refine ⟨_, rfl, x, C, dx, [], rfl, s04 _ _ hx, G.cl, G.n1, by decide, ?_⟩
    have n1 : t1 ≠ x := fun z => by
      rw [z, s04 _ _ hx] at e4
      cases e4
    have hd4 : H4 d = some (.dK []) := s4 _ _ upd_same
    have n2 : d ≠ x := fun z => by
      rw [z, s04 _ _ hx] at hd4
      cases hd4
    refine ⟨_, rfl, _, rfl, x, C, dx, _, rfl, upd_same, G.cl, G.n2, show 1 < 1000 by decide, ?_⟩
    refine q _ (((But.refl x H).same s04).put.put) ⟨x, dx, _, t1, d, rfl, upd_same, rfl, rfl, rfl, rfl, Nat.le_refl 2, SqT.of ?_, ?_⟩
    · rw [upd_ne n1, upd_ne n1]
      exact e4
    · rw [upd_ne n2, upd_ne n2]
      exact hd4
/-! ### records -/
abbrev nRe : List Str := ["self"]
end
end Kb
/-! records, book_with. -/
namespace Kb
open PySem PySem.Spec PyProof.Rows L2
theorem putF_len {f : Str} {v y : V} : ∀ {fs : List (Str × V)}, fs.lookup f = some y → (putF f v fs).length = fs.length
  | [], h => by cases h
  | (g, x) :: r, h => by
    unfold putF
    by_cases e : g = f
    · rw [if_pos e]
      rfl
    · rw [if_neg e]
      have h2 : r.lookup f = some y := by
        have e2 : (f == g) = false := by simpa using fun q => e q.symm
        rw [List.lookup_cons, e2] at h
        exact h
      show (putF f v r).length + 1 = r.length + 1
      rw [putF_len h2]
theorem But.made {H H2 : Hp} {x dx C : Addr} (nx : H x = none) (nd : H dx = none) (b : But x (upd (upd H dx (.own x)) x (.ins C dx [])) H2) : L2.Same H H2 := fun a o e => by
  have n1 := ne_of_none e nx
  have n2 := ne_of_none e nd
  refine b a o n1 ?_
  rw [upd_ne n1, upd_ne n2]
  exact e
theorem putK_new {kvs : List (Key × V)} {k : Key} {v : V} (h : ∀ p ∈ kvs, p.1 ≠ k) : putK kvs k v = kvs ++ [(k, v)] := by
  unfold putK
  rw [if_neg]
  rw [Bool.not_eq_true, List.any_eq_false]
  intro p hp
  simpa using h p hp
/-- entries by text -/
def kvsOf (es : List (Str × V)) : List (Key × V) := es.map fun p => (Sum.inr p.1, p.2)
theorem kvs_snoc {es : List (Str × V)} {e : Str × V} (h : e.1 ∉ es.map (·.1)) : putK (kvsOf es) (Sum.inr e.1) e.2 = kvsOf (es ++ [e]) := by
  rw [putK_new]
  · unfold kvsOf
    rw [List.map_append]
    rfl
  · intro p hp z
    obtain ⟨q, hq, rfl⟩ := List.mem_map.mp hp
    have e2 : q.1 = e.1 := Sum.inr.inj z
    exact h (List.mem_map.mpr ⟨q, hq, e2⟩)
theorem dcV {J : It} {n : Nat} {Kp : Hp → Prop} {R : Nat → V → Hp → Prop} {g : TG} {tk tv : TE} {vs : List Nat} {σ : L2.St} {H1 : Hp} {Q : Addr → Hp → Prop} (S : Src J n Kp R) (hn : n ≤ 1000) (es : List (Str × V)) (hl : es.length = n) (nd : (es.map (·.1)).Nodup) (hK : ∀ H, L2.Same H1 H → Kp H)
    (step : ∀ i x e H, i < n → R i x H → es[i]? = some e → L2.Same H1 H → ∀ (F : V → V → Hp → Prop), (∀ H4, L2.Same H H4 → F (.str e.1) e.2 H4) →
      g x (wipe σ vs) H fun σ2 H2 => wipe σ2 vs = wipe σ vs ∧ tk σ2 H2 fun y H4 => tv σ2 H4 fun z H5 => F y z H5)
    (hq : ∀ D H', H1 D = none → L2.Same H1 H' → H' D = some (.dK (kvsOf es)) → Q D H') :
    ∀ D, H1 D = none → ∃ W : Nat → Nat → Hp → Prop, (∃ m, W 0 m (upd H1 D (.dK []))) ∧ ∀ i m H, W i m H →
      (J.stop i H ∧ Q D H) ∨ (J.go i H ∧ ∃ Nx : Hp → Prop, (∀ H', Nx H' → ∃ m', m' < m ∧ W (i + 1) m' H') ∧ ∀ x H', J.yld i H x H' → g x (wipe σ vs) H' fun σ2 H2 => wipe σ2 vs = wipe σ vs ∧ tYes σ2 H2 fun b H3 =>
        if b = true then tk σ2 H3 fun y H4 => tv σ2 H4 fun z H5 => ∃ kvs k, y = kV k ∧ H5 D = some (.dK kvs) ∧ kvs.length < sizeLine ∧ Nx (upd H5 D (.dK (putK kvs k z))) else Nx H3) := by
  intro D hD
  refine ⟨fun i m H => m = n - i ∧ i ≤ n ∧ L2.Same H1 H ∧ H D = some (.dK (kvsOf (es.take i))), ⟨n, rfl, Nat.zero_le _, same_new hD, upd_same⟩, ?_⟩
  rintro i m H ⟨rfl, hi, sm, eD⟩
  by_cases hlt : i < n
  · refine .inr ⟨S.go i H hlt (hK H sm), fun H' => i + 1 ≤ n ∧ L2.Same H1 H' ∧ H' D = some (.dK (kvsOf (es.take (i + 1)))), fun H' ⟨a, b⟩ => ⟨n - (i + 1), by omega, rfl, a, b⟩, fun x H' hy => ?_⟩
    obtain ⟨s1, hR⟩ := S.yld i H x H' hlt (hK H sm) hy
    have e : es[i]? = some es[i] := List.getElem?_eq_getElem (by omega)
    refine step i x es[i] H' hlt hR e (sm.trans s1) _ fun H4 s4 => ?_
    have e4 : H4 D = some (.dK (kvsOf (es.take i))) := s4 _ _ (s1 _ _ eD)
    refine ⟨_, Sum.inr (es[i]).1, rfl, e4, szl (by unfold kvsOf; rw [List.length_map, List.length_take]; omega), hlt, same_put ((sm.trans s1).trans s4) hD, ?_⟩
    rw [upd_same, take_snoc e, kvs_snoc]
    intro hm
    rw [List.map_take] at hm
    obtain ⟨j, hj, ej⟩ := List.mem_iff_getElem.mp hm
    rw [List.length_take] at hj
    rw [List.getElem_take] at ej
    have l2 : (es.map (·.1)).length = n := by rw [List.length_map, hl]
    have q := L2.nd_ix nd (i := j) (j := i) (x := (es[i]).1) (by rw [List.getElem?_eq_getElem (by omega), ej]) (by rw [List.getElem?_map, e]; rfl)
    omega
  · have e : i = n := by omega
    subst e
    refine .inl ⟨S.stop H (hK H sm), hq D H hD sm ?_⟩
    rw [eD, ← hl, List.take_length]
theorem paired_map {α β γ : Type} {F : α → γ → Prop} {f : β → γ} : ∀ {l : List α} {m : List β}, Paired F l (m.map f) → Paired (fun a b => F a (f b)) l m
  | _, [], .nil => .nil
  | _, _ :: _, .cons h t => .cons h (paired_map t)
section
variable {P : Program} {w : World} {K : PySem.W.Frag} {mg : Str → Option Value} {base : Heap} {f f1 f2 f3 f4 f5 fR fG C Cr fI : Addr} {fd fd1 fd2 fd3 fd4 fd5 : FuncData}
/-! ### records -/
theorem scRe : FnScope ["self"] ["self"] (defScope (meth 34 2)) := ⟨rfl, rfl, rfl, by decide +kernel, rfl, by decide +kernel, by decide +kernel⟩
/-- a list of pairs -/
def PairsAt (H : Hp) (ts : List Addr) (es : List (Str × V)) : Prop := Paired (fun (t : Addr) (e : Str × V) => H t = some (.tup [.str e.1, e.2])) ts es
theorem PairsAt.same {H H' : Hp} {ts : List Addr} {es : List (Str × V)} (h : PairsAt H ts es) (s : L2.Same H H') : PairsAt H' ts es := Paired.mapP h fun _ _ z => s _ _ z
def spRe (K : PySem.W.Frag) (C : Addr) : Sp := fun vs H Q _ => ∃ (v : V) (rs : List Str) (es : List (Str × V)), vs = [v] ∧ BookAt K C H v rs es ∧ ∀ (H' : Hp) (p : Addr) (ts : List Addr), L2.Same H H' → H p = none → p ∉ ts → H' p = some (.lst (ts.map V.ref)) → PairsAt H' ts es → Q (.ref p) H'
theorem c_records (B : Blt mg) (G : BookC K mg C fI fR fG) (D : MetAt K "records" "Book.records" (meth 34 2) fR fd) : FnOk P w K mg base (L2.CX P w) 1 fR fd ["self"] (spRe K C) ∧ Binds K fd ["self"] [] := by
  refine ⟨D.ok scRe (fun vs H Q E h => ?_) (fun cdv A outer s H vs Q E hr h => ?_), D.bindsN (fun _ _ _ _ _ _ us hl => match us, hl with | [_], _ => rfl)⟩
  · obtain ⟨v, rs, es, rfl, _⟩ := h
    rfl
  · obtain ⟨v, rs, es, rfl, hb, q⟩ := h
    refine ⟨_, PSs.nox (pss_one (ps_ret (LiI.pe_listItems rfl (pe_fld (pv 0) (by rfl)) (by rfl) B.list (by decide +kernel)))), ?_⟩
    obtain ⟨b, dx, fs, r, d, rfl, h1, h2, h3, h4, h5, h6, h7, h8⟩ := hb
    exact ⟨_, rfl, b, C, dx, fs, _, rfl, h1, G.cl, G.n2, h3, d, _, rfl, h8, fun H' p ts hs np _ hne hp ht => q H' p ts hs np hne hp (paired_map (F := fun (t : Addr) (q : Key × V) => H' t = some (.tup [kV q.1, q.2])) (f := fun (p : Str × V) => ((Sum.inr p.1 : Key), p.2)) ht)⟩
/-! ### book_with -/
abbrev nBw : List Str := ["reasons", "records", "book", "mark", "row"]
theorem scBw : FnScope nBw ["reasons", "records"] (defScope (top 35)) := ⟨rfl, rfl, rfl, by decide +kernel, rfl, by decide +kernel, by decide +kernel⟩
def spBw (K : PySem.W.Frag) (C : Addr) : Sp := fun vs H Q _ => ∃ (a l : Addr) (rs : List Str) (ts : List Addr) (es : List (Str × V)), vs = [.ref a, .ref l] ∧ SqA K H a (rs.map V.str) ∧ AreNs rs ∧ 1 ≤ rs.length ∧ SqL K H l (ts.map V.ref) ∧ PairsAt H ts es ∧ (es.map (·.1)).Nodup ∧ es.length ≤ 100 ∧
  ∀ (H' : Hp) (v : V), L2.Same H H' → BookAt K C H' v (srt rs) es → Q v H'
theorem c_bookwith (F : FnR P w K mg base (L2.CX P w) 4 fI (spBi K C)) (G : BookC K mg C fI fR fG) (D : DefAt K mg "book_with" (top 35) f fd) : Cal P w K mg base 6 "book_with" ["reasons", "records"] (spBw K C) f fd := by
  refine D.cal scBw (fun _ _ _ _ _ _ us hl => match us, hl with | [_, _], _ => rfl) (fun vs H Q E h => ?_) (fun cdv A outer s H vs Q E hr h => ?_)
  · obtain ⟨a, l, rs, ts, es, rfl, _⟩ := h
    rfl
  · obtain ⟨a, l, rs, ts, es, rfl, ha, hn, h1, hl, hp, nd, hz, q⟩ := h
    refine ⟨_, pss_cons (ps_set (i := 2) scBw.nd rfl (Or.inl rfl) (StX.pe_makeR G.made F hr (by rfl) G.gl passL (pa_cons (pv 0) pa_nil)))
      (pss_cons (ps_fld (pv 2) (pe_dc (own := [("mark", 3), ("row", 4)]) (g := gTup K 2 (gCons (gName 3) (gCons (gName 4) gNil))) (tt := tYes) rfl scBw.nd (pi_list (pv 1)) (blkOk_by (N := nBw) (own := [("mark", 3), ("row", 4)]) (sc := defScope (top 35)) (by decide +kernel))
          (fun _ _ _ _ _ => pg_tup rfl (pgs_cons (pg_name (i := 3) scBw.nd rfl (Or.inl rfl)) (pgs_cons (pg_name (i := 4) scBw.nd rfl (Or.inl rfl)) pgs_nil)) (by rfl)) (fun _ _ _ _ _ => pts_nil) (fun _ _ _ _ _ => pv 3) (fun _ _ _ _ _ => pv 4)) (by rfl))
        (pss_one (ps_ret (pv 2)))), ?_⟩
    refine ⟨_, rfl, fun x dx nx ndx hne => ?_⟩
    have e1 : L2.Same H (upd (upd H dx (.own x)) x (.ins C dx [])) := fun b o e => by
      rw [upd_ne (ne_of_none e nx), upd_ne (ne_of_none e ndx)]
      exact e
    refine ⟨x, dx, a, rs, rfl, upd_same, ha.same e1, hn, h1, fun H2 hb bk => ⟨rfl, ?_⟩⟩
    have s2 := But.made nx ndx hb
    have hl2 := s2.seq hl
    have hp2 := hp.same s2
    have hle : ts.length = es.length := Paired.length hp
    have hsz : (ts.map V.ref).length ≤ 1000 := by rw [List.length_map]; omega
    refine ⟨_, rfl, l, rfl, ⟨_, hl2⟩, dcV (srcL l (ts.map V.ref)) hsz es (by rw [List.length_map, hle]) nd (fun H' sm => sm.seq hl2) (fun i y e H3 hi hR he sm F hF => ?_) (fun Dl H3 hD sm eD => ?_)⟩
    · obtain ⟨t, ht, rfl⟩ := map_at hR
      obtain ⟨e', he', hte⟩ := paired_get hp2 ht
      rw [he] at he'
      cases he'
      exact ⟨t, _, rfl, SqT.of (sm _ _ hte), rfl, _, _, rfl, _, _, rfl, rfl, rfl, _, rfl, _, rfl, hF H3 (L2.Same.refl _)⟩
    · obtain ⟨b, dx', fs, r, d, eb, g1, g2, g3, g4, g5, g6, g7, g8⟩ := bk
      cases eb
      have gx := sm _ _ g1
      refine ⟨_, rfl, x, C, dx', fs, rfl, gx, G.cl, G.n2, by omega, ?_⟩
      have bt : But x H (upd H3 x (.ins C dx' (putF "by_mark" (.ref Dl) fs))) := ((But.refl x H).same (s2.trans sm)).put
      have st : L2.Same H (upd H3 x (.ins C dx' (putF "by_mark" (.ref Dl) fs))) := fun b o e => bt b o (ne_of_none e nx) e
      have nDl : Dl ≠ x := fun z => by
        rw [z, g1] at hD
        cases hD
      have b3 : But x H2 (upd H3 x (.ins C dx' (putF "by_mark" (.ref Dl) fs))) := ((But.refl x H2).same sm).put
      refine ⟨_, rfl, q _ _ st ⟨x, dx', _, r, Dl, rfl, upd_same, ?_, ?_, ?_, ?_, ?_, b3.sqT (fun _ z => by rw [g1] at z; cases z) (fun _ _ z => by rw [g1] at z; cases z) g7, ?_⟩⟩
      · rw [lookup_putF, if_neg (by decide)]
        exact g2
      · rw [lookup_putF, if_pos rfl]
      · rw [lookup_putF, if_neg (by decide)]
        exact g4
      · rw [lookup_putF, if_neg (by decide)]
        exact g5
      · rw [putF_len g3]
        exact g6
      · rw [upd_ne nDl]
        exact eD
end
end Kb
/-! grown. -/
namespace Kb
open PySem PySem.Spec PyProof.Rows L2
/-- rows under their marks -/
def mkd : Nat → List V → List (Str × V)
  | _, [] => []
  | i, v :: r => (mk26 i, v) :: mkd (i + 1) r
theorem mkd_snoc : ∀ {l : List V} {i : Nat} {v : V}, mkd i (l ++ [v]) = mkd i l ++ [(mk26 (i + l.length), v)]
  | [], i, v => rfl
  | x :: r, i, v => by
    show (mk26 i, x) :: mkd (i + 1) (r ++ [v]) = (mk26 i, x) :: (mkd (i + 1) r ++ [(mk26 (i + (r.length + 1)), v)])
    rw [mkd_snoc, show i + 1 + r.length = i + (r.length + 1) by omega]
theorem mkd_len : ∀ {l : List V} {i : Nat}, (mkd i l).length = l.length
  | [], _ => rfl
  | _ :: r, i => by
    show (mkd (i + 1) r).length + 1 = r.length + 1
    rw [mkd_len]
theorem mk26_inj {i j : Nat} (h : mk26 i = mk26 j) : i = j := by
  have h1 : (#[97 + i] : Array Nat) = #[97 + j] := congrArg Str.cps h
  have h2 := Array.singleton_inj.mp h1
  omega
theorem mkd_mem : ∀ {l : List V} {i : Nat} {z : Str}, z ∈ (mkd i l).map (·.1) → ∃ j, i ≤ j ∧ z = mk26 j
  | _ :: r, i, z, h => by
    rcases List.mem_cons.mp h with e | h
    · exact ⟨i, Nat.le_refl _, e⟩
    · obtain ⟨j, hj, e⟩ := mkd_mem h
      exact ⟨j, by omega, e⟩
theorem mkd_nd : ∀ {l : List V} {i : Nat}, ((mkd i l).map (·.1)).Nodup
  | [], _ => .nil
  | _ :: r, i => List.nodup_cons.mpr ⟨fun h => by
    obtain ⟨j, hj, e⟩ := mkd_mem h
    have := mk26_inj e
    omega, mkd_nd⟩
theorem mkd_snd : ∀ {l : List V} {i : Nat}, (mkd i l).map (·.2) = l
  | [], _ => rfl
  | x :: r, i => by
    show x :: (mkd (i + 1) r).map (·.2) = x :: r
    rw [mkd_snd]
theorem hu1 {k : Nat} {A : Around} (r : Room k A) : A.units + 1 < cLine := by have := r.units; omega
theorem paired_app {α β : Type} {F : α → β → Prop} : ∀ {l : List α} {m : List β} {l2 : List α} {m2 : List β}, Paired F l m → Paired F l2 m2 → Paired F (l ++ l2) (m ++ m2)
  | _, _, _, _, .nil, h => h
  | _, _, _, _, .cons h t, h2 => .cons h (paired_app t h2)
section
variable {P : Program} {w : World} {K : PySem.W.Frag} {mg : Str → Option Value} {base : Heap} {f f1 f2 f3 f4 f5 fR fG C Cr fI : Addr} {fd fd1 fd2 fd3 fd4 fd5 : FuncData}
abbrev nGr : List Str := ["self", "rows", "row", "reason", "records", "index"]
theorem scGr : FnScope nGr ["self", "rows"] (defScope (meth 34 8)) := ⟨rfl, rfl, rfl, by decide +kernel, rfl, by decide +kernel, by decide +kernel⟩
def RowsAt (K : PySem.W.Frag) (Cr : Addr) (H : Hp) (rvs : List V) (rcs : List (List Str × List Str)) : Prop := Paired (fun v (p : List Str × List Str) => RowAt K Cr H v p.1 p.2) rvs rcs
theorem RowsAt.same {H H' : Hp} {rvs : List V} {rcs : List (List Str × List Str)} (h : RowsAt K Cr H rvs rcs) (s : L2.Same H H') : RowsAt K Cr H' rvs rcs := Paired.mapP h fun _ _ z => z.same s
def spGr (K : PySem.W.Frag) (C Cr : Addr) : Sp := fun vs H Q _ => ∃ (v : V) (l : Addr) (rs : List Str) (rvs : List V) (rcs : List (List Str × List Str)), vs = [v, .ref l] ∧ BookAt K C H v rs [] ∧ AreNs rs ∧ 1 ≤ rs.length ∧ SqL K H l rvs ∧ RowsAt K Cr H rvs rcs ∧ (∀ p ∈ rcs, ∀ z, z ∈ p.1 ++ p.2 → z ∈ rs) ∧ rvs.length ≤ 26 ∧
  ∀ (H' : Hp) (v' : V), L2.Same H H' → BookAt K C H' v' (srt rs) (mkd 0 rvs) → Q v' H'
theorem c_grown {fI0 : Addr} (B : Blt mg) (R : RowC K mg Cr fI0) (G : BookC K mg C fI fR fG) (S : Cal P w K mg base 1 "stranger" ["row", "reasons"] (spSt K Cr) f1 fd1) (M : Cal P w K mg base 1 "nth_mark" ["index"] spNt f2 fd2) (W : Cal P w K mg base 6 "book_with" ["reasons", "records"] (spBw K C) f3 fd3)
    (Re : FnOk P w K mg base (L2.CX P w) 1 fR fd4 ["self"] (spRe K C) ∧ Binds K fd4 ["self"] []) (D : MetAt K "grown" "Book.grown" (meth 34 8) fG fd) : FnOk P w K mg base (L2.CX P w) 7 fG fd ["self", "rows"] (spGr K C Cr) ∧ Binds K fd ["self", "rows"] [] := by
  refine ⟨D.ok scGr (fun vs H Q E h => ?_) (fun cdv A outer s H vs Q E hr h => ?_), D.bindsN (fun _ _ _ _ _ _ us hl => match us, hl with | [_, _], _ => rfl)⟩
  · obtain ⟨v, l, rs, rvs, rcs, rfl, _⟩ := h
    rfl
  · obtain ⟨v, l, rs, rvs, rcs, rfl, hb, hn, h1, hl, hrs, hin, hz, q⟩ := h
    have hr1 : Room 1 (A.deeper (envOfC "Book.grown" (defScope (meth 34 8)) s.heap.objs.size fG cdv)) := hr.mono (by omega)
    refine ⟨_, PSs.nox (pss_cons (ps_for PassesOwn.never rfl (pi_list (pv 1)) (pg_name (i := 2) scGr.nd rfl (Or.inl rfl))
        (pss_cons (ps_set (i := 3) scGr.nd rfl (Or.inl rfl) (pe_cal S hr1 (by rfl) (pa_cons (pv 2) (pa_cons (pe_fld (pv 0) (by rfl)) pa_nil)))) (pss_one (ps_if (pt_cmpR op_notN (pv 3) pe_non (by rfl)) pss_never pss_nil))))
      (pss_cons (ps_set (i := 4) scGr.nd rfl (Or.inl rfl) (pe_meth0 (E := E0) (pl := _) (pv 0) G.cl G.mR Re.1 hr1 Re.2 .nil passL))
      (pss_cons (ps_set (i := 5) scGr.nd rfl (Or.inl rfl) pe_int)
      (pss_cons (ps_for PassesOwn.never rfl (pi_list (pv 1)) (pg_name (i := 2) scGr.nd rfl (Or.inl rfl))
        (pss_cons (ps_while PassesOwn.never (pt_cmp (pc_din (hu1 hr) (pe_cal M hr1 (by rfl) (pa_cons (pv 5) pa_nil)) (pe_fld (pv 0) (by rfl)))) pss_never)
        (pss_cons (ps_expr (pe_bm PySem.F.plainAttrs_list PySem.F.slot_list_append PySem.F.type_list_append mt_append (pv 4) (pa_cons (pe_tup (pa_cons (pe_cal M hr1 (by rfl) (pa_cons (pv 5) pa_nil)) (pa_cons (pv 2) pa_nil))) pa_nil)))
        (pss_one (ps_aug (i := 5) scGr.nd rfl (Or.inl rfl) pe_int ip_add)))))
      (pss_one (ps_ret (pe_cal W hr (by rfl) (pa_cons (pe_fld (pv 0) (by rfl)) (pa_cons (pv 4) pa_nil))))))))), ?_⟩
    obtain ⟨b, dx, fs, r, d, rfl, g1, g2, g3, g4, g5, g6, g7, g8⟩ := hb
    refine ⟨_, rfl, l, rfl, ⟨_, hl⟩, ?_⟩
    refine forI (srcL l rvs) (fun i σ H' => (∃ x y, σ = [some (.ref b), some (.ref l), x, y, none, none]) ∧ L2.Same H H') ⟨⟨none, none, rfl⟩, L2.Same.refl _⟩ (fun i σ H' _ hP => hP.2.seq hl) (fun i x σ H2 H3 hi hP s23 hR => ?_) (fun σ H2 hP => ?_)
    · obtain ⟨⟨x0, y0, rfl⟩, s2⟩ := hP
      have s3 := s2.trans s23
      obtain ⟨pc, hpc, hrow⟩ := paired_get hrs hR
      refine ⟨_, rfl, _, rfl, b, C, dx, fs, _, rfl, s3 _ _ g1, G.cl, G.n1, g2, x, r, pc.1, pc.2, rs, rfl, hrow.same s3, .inr (Kb.Same.tup s3 g7), hin pc (List.mem_of_getElem? hpc), fun H4 s4 => ?_⟩
      exact ⟨_, rfl, rfl, false, rfl, iteF ⟨⟨_, _, rfl⟩, s3.trans s4⟩⟩
    · obtain ⟨⟨x0, y0, rfl⟩, s2⟩ := hP
      refine ⟨_, rfl, b, dx, fs, rfl, s2 _ _ g1, g4, ?_⟩
      refine ⟨.ref b, rs, [], rfl, ⟨b, dx, fs, r, d, rfl, s2 _ _ g1, g2, g3, g4, g5, g6, Kb.Same.tup s2 g7, s2 _ _ g8⟩, fun H3 p ts s3 np _ hp ht => ?_⟩
      cases ht
      have s03 := s2.trans s3
      have np0 : H p = none := s2.free np
      refine ⟨_, rfl, l, rfl, ⟨_, s03.seq hl⟩, ?_⟩
      refine forI (srcL l rvs) (fun i σ H' => (∃ x y, σ = [some (.ref b), some (.ref l), x, y, some (.ref p), some (.int (i : Nat))]) ∧ L2.Same H H' ∧ ∃ ts : List Addr, H' p = some (.lst (ts.map V.ref)) ∧ PairsAt H' ts (mkd 0 (rvs.take i))) ⟨⟨_, _, rfl⟩, s03, [], hp, .nil⟩ (fun i σ H' _ hP => hP.2.1.seq hl) (fun i x σ H4 H5 hi hP s45 hR => ?_) (fun σ H4 hP => ?_)
      · obtain ⟨⟨x1, y1, rfl⟩, s4, ts, ep, hts⟩ := hP
        have hi26 : i < 26 := by omega
        refine ⟨fun m σ' H' => σ' = [some (.ref b), some (.ref l), some x, y1, some (.ref p), some (.int (i : Nat))] ∧ L2.Same H5 H', ⟨0, rfl, L2.Same.refl _⟩, fun m σ' H6 hW => ?_⟩
        obtain ⟨rfl, s56⟩ := hW
        have s6 := (s4.trans s45).trans s56
        refine ⟨_, rfl, i, rfl, hi26, fun H7 s67 => ?_⟩
        have s7 := s6.trans s67
        refine ⟨_, rfl, b, C, dx, fs, _, rfl, s7 _ _ g1, G.cl, G.n2, g3, d, _, rfl, DGet.k (k := Sum.inr (mk26 i)) (s7 _ _ g8), false, rfl, iteF ?_⟩
        have ep7 : H7 p = some (.lst (ts.map V.ref)) := s67 _ _ (s56 _ _ (s45 _ _ ep))
        refine ⟨_, rfl, .inl ⟨rfl, _, SqL.of ep7⟩, ⟨_, rfl, i, rfl, hi26, fun H8 s78 => ?_⟩⟩
        have s8 := s7.trans s78
        have ep8 := s78 _ _ ep7
        refine ⟨_, rfl, sz (show 2 ≤ 100000 by decide), fun t nt => ?_⟩
        have tl : ts.length = i := by
          rw [Paired.length hts, mkd_len, List.length_take]
          omega
        have ep9 : (upd H8 t (.tup [.str (mk26 i), x])) p = some (.lst (ts.map V.ref)) := by
          rw [upd_ne (ne_of_none ep8 nt)]
          exact ep8
        refine ⟨p, _, _, rfl, rfl, ep9, szl (by rw [List.length_map]; omega), ?_⟩
        have st : L2.Same H8 (upd H8 t (.tup [.str (mk26 i), x])) := same_new nt
        have s49 : L2.Same H4 (upd H8 t (.tup [.str (mk26 i), x])) := (((s45.trans s56).trans s67).trans s78).trans st
        refine ⟨_, rfl, _, _, rfl, rfl, ⟨⟨_, _, rfl⟩, same_put (s8.trans st) np0, ts ++ [t], ?_, ?_⟩⟩
        · rw [upd_same, List.map_append]
          rfl
        · have hx : rvs[i]? = some x := hR
          rw [take_snoc hx, mkd_snoc]
          have el : 0 + (rvs.take i).length = i := by rw [List.length_take]; omega
          rw [el]
          refine paired_app (Paired.mapP hts fun t' e' z => ?_) (.cons ?_ .nil)
          · have z9 := s49 _ _ z
            have n9 : t' ≠ p := fun q9 => by
              rw [q9, ep9] at z9
              cases z9
            rw [upd_ne n9]
            exact z9
          · have n9 : t ≠ p := fun q9 => by
              rw [q9, ep8] at nt
              cases nt
            rw [upd_ne n9, upd_same]
      · obtain ⟨⟨x1, y1, rfl⟩, s4, ts, ep, hts⟩ := hP
        rw [List.take_length] at hts
        refine ⟨_, rfl, b, C, dx, fs, _, rfl, s4 _ _ g1, G.cl, G.n1, g2, ⟨_, rfl, r, p, rs, ts, _, rfl, .inr (Kb.Same.tup s4 g7), hn, h1, SqL.of ep, hts, mkd_nd, by rw [mkd_len]; omega, fun H5 v' s5 bk => q H5 v' (s4.trans s5) bk⟩⟩
end
end Kb
/-! C.m(e, ..), m a staticmethod; C(*e). -/
namespace Kb
open PySem PySem.Spec PyProof.Rows L2
/-- C.m is a staticmethod: its record at p, its def at g -/
structure SMet (K : PySem.W.Frag) (C : Addr) (mc : Value) (m : Str) (p g : Addr) : Prop where
  at_ : PySem.W.findCls K (.ref C) mc m = some (.get (.builtin "staticmethod.__get__") (.ref p) .none (.ref C))
  rc : ∃ rest, PySem.W.recIn K p "staticmethod" = some (.ref g :: rest)
  kp : PySem.W.keepIn K (.ref g) = true
section
variable {X : Cx} {CX : CXT} {k : Nat} {g C p f : Addr} {mc : Value} {fd : FuncData} {ps : List Str} {sp : Sp} {E : XK} {x m : Str} {o e : Expr} {es : List Expr} {te ta : TE} {t : TA} {apos pos pn sp_ : Pos} {pl : Sem Bool}
theorem pe_smeth (he : PE X o ta) (r : ClX.CRead X.K C mc) (c : SMet X.K C mc m p g) (F : FnOk X.prog X.w X.K X.mg X.base CX k g fd ps sp) (hr : Room k X.A) (hb : Binds X.K fd ps []) (hx : Passes CX X E) (ha : PA X (e :: es) t)
    (hst : starEach (e :: es) X.env = (false, eval e X.env) :: starEach es X.env := by rfl) (hpl : (backTo pos (starEach es X.env)).any (·.1) = false := by rfl)
    (ht : eval (.Call (.Attribute o m apos) (e :: es) [] pos) X.env = (do
      let ov ← eval o X.env
      standAt apos.atName
      let (f, first) ← holding [ov] (getMethod ov m pl)
      callWith pos f first (backTo pos (starEach (e :: es) X.env)) (backToKw pos (keywordEach [] X.env))) := by rfl) :
    PE X (.Call (.Attribute o m apos) (e :: es) [] pos) (fun σ H Q => ta σ H fun x H1 => x = .ref C ∧ t σ H1 fun vs H2 => sp (vs ++ []) H2 Q E) := by
  refine ⟨fun pins s σ H Q I h => ?_⟩
  refine PySem.W.methodCall_KW (pl := pl) (thn (he.run pins s σ H _ I h) fun u s1 ⟨x, H1, I1, rx, ex, q⟩ => ?_) ht
  subst ex
  obtain rfl : u = Value.ref C := rx
  obtain ⟨rest, hp⟩ := c.rc
  refine PySem.W.method_cls I1.kIn r.ga (PySem.W.cls_bind I1.kIn r.rd c.at_ ?_)
  refine wpAny_call (PySem.W.sm_get (s := { s1 with toks := s1.toks + 1 }) I1.kIn hp (PySem.W.handed_on (handed_of (v := .ref g) (u := .ref g) rfl) ?_))
  have I2 := I1.tok (s1.toks + 1)
  refine PySem.W.callWith_K (h₀ := X.base) I.ok.mod.kin c.kp (thn (ha.run pos pins { s1 with toks := s1.toks + 1 } σ H1 _ I2 q) fun us s2 ⟨vs, H2, I3, r2, q2⟩ => ⟨I3.kIn, ?_⟩) hst hpl
  exact run_fn F hr hb .nil hx I3 r2 q2
/-- C(*y) -/
theorem pe_makeS (M : Mk X.K C f) (F : FnR X.prog X.w X.K X.mg X.base CX k f sp) (hr : Room (k + 1) X.A) (hg : Gl X x) (hm : X.mg x = some (.ref C)) (hx : Passes CX X E) (he : PE X e te) (hd : (x == ("__debug__" : Str)) = false := by decide)
    (hst : starEach [.Starred e sp_] X.env = [(true, eval e X.env)] := by rfl) :
    PE X (.Call (.Name x pn) [.Starred e sp_] [] pos) (fun σ H Q => te σ H fun y H1 => ∃ a xs, y = V.ref a ∧ (SqT X.K H1 a xs ∨ SqL X.K H1 a xs) ∧ ∀ x dx, H1 x = Option.none → H1 dx = Option.none → dx ≠ x →
      sp (V.ref x :: xs) (upd (upd H1 dx (.own x)) x (.ins C dx [])) (fun v H2 => v = .non ∧ Q (.ref x) H2) E) := by
  refine ⟨fun pins s σ H Q I h => ?_⟩
  refine wpAny_Call_Name_kw (ld_glob I hg hm ?_ hd)
  refine PySem.W.callWith_S (h₀ := X.base) I.ok.mod.kin M.kp (thn (he.run pins s σ H _ I h) fun v s1 ⟨y, H1, I1, ry, a, xs, ey, hxs, q⟩ => ?_) hst
  subst ey
  obtain rfl : v = Value.ref a := ry
  exact StX.star_any I1 hxs fun us s2 I2 rv => ⟨I2.kIn, StX.run_makeR M F hr hx I2 rv q⟩
end
/-! ### tuples as objects without a dict -/
/-- a tuple known to be bare -/
def FzT (H : Hp) (a : Addr) (xs : List V) : Prop := ∃ o : Obj, o.dict = none ∧ H a = some (.frz o (.tup xs))
theorem FzT.sq {K : PySem.W.Frag} {H : Hp} {a : Addr} {xs : List V} (h : FzT H a xs) : SqT K H a xs := .inl (.inr ⟨h.choose, h.choose_spec.2⟩)
theorem FzT.same {H H' : Hp} {a : Addr} {xs : List V} (h : FzT H a xs) (s : L2.Same H H') : FzT H' a xs := ⟨h.choose, h.choose_spec.1, s _ _ h.choose_spec.2⟩
def rTupF (K : PySem.W.Frag) : List V → Hp → VK → Prop := fun xs H Q => ∃ p ys, xs = [.ref p] ∧ SqL K H p ys ∧ ∀ (l : Addr) (o : Obj), o.dict = none → H l = none → Q (.ref l) (upd H l (.frz o (.tup ys)))
theorem call_tuple_fz {X : Cx} : CallR X (.type "tuple") (rTupF X.K) := by
  intro pins s σ H xs us Q I r h
  obtain ⟨p, ys, rfl, hq, q⟩ := h
  obtain ⟨u, rfl, rx⟩ := vals1 r
  cases rx
  obtain ⟨its, r', pl, hz⟩ := I.list hq
  have hlen := r'.length
  refine call_tuple_list pl.isList (fun h' kp => ?_) (by simp only [List.size_toArray] <;> omega)
  have I1 : Inv X pins σ H { s with heap := h' } := I.kept (t' := s.toks) kp
  have I2 : Inv X pins σ (upd H h'.objs.size (.frz { cls := .type "tuple", data := .seq its.toArray } (.tup ys))) { s with heap := h'.push { cls := .type "tuple", data := .seq its.toArray } } :=
    I1.laid (t' := s.toks) (fun b o e => Heap.get?_push_of_some _ e) (Nat.le_refl _) (show ObjOk X.prog X.w _ _ _ (.frz _ (.tup ys)) from ⟨Heap.get?_push_size _ rfl, hz, its, r', IsTup.new _ _⟩)
  exact ⟨.ref h'.objs.size, _, I2, rfl, q _ _ rfl (I1.hok.fresh (Nat.le_refl _))⟩
def tBMt (r : V → List V → Hp → VK → Prop) (to : TE) (t : TA) : TE := fun σ H Q => to σ H fun x H1 => (∃ p ys, x = .ref p ∧ FzT H1 p ys) ∧ t σ H1 fun xs H2 => r x xs H2 Q
theorem pe_bmT {X : Cx} {name : Str} {id : String} {r : V → List V → Hp → VK → Prop} {o e : Expr} {es : List Expr} {to : TE} {t : TA} {apos cpos : Pos} (slot : Slot "tuple" name id) (hty : typeOf (.builtin id) = pure (.type "method_descriptor")) (hm : MtR X id r) (ho : PE X o to) (ha : PA X (e :: es) t)
    (hbase : attributeBase o name X.env (eval o X.env) = eval o X.env := by rfl)
    (hfew : ((backTo cpos (starEach (e :: es) X.env)).all (fun x => !x.1) && (backToKw cpos (keywordEach [] X.env)).all (fun x => x.1.isSome)
      && decide ((e :: es).length + ([] : List Keyword).length + (if ([] : List Keyword).isEmpty then 0 else 1) < 30)) = true := by rfl)
    (hline : (apos.endLine == cpos.line) = true := by rfl) (hs : starEach (e :: es) X.env = (false, eval e X.env) :: starEach es X.env := by rfl) (hplain : (backTo cpos (starEach es X.env)).any (·.1) = false := by rfl) :
    PE X (.Call (.Attribute o name apos) (e :: es) [] cpos) (tBMt r to t) := by
  refine ⟨fun pins s σ H Q I h => ?_⟩
  refine wpAny_Call_method_late hbase hfew hline rfl (thn (ho.run pins s σ H _ I h) fun v s1 ⟨x, H1, I1, r1, ty, q1⟩ => ?_)
  obtain ⟨p, ys, rfl, ob, hd, hp⟩ := ty
  obtain rfl : v = Value.ref p := r1
  obtain ⟨e1, e2⟩ := (show ObjOk X.prog X.w H1 s1.heap p (.frz ob (.tup ys)) from I1.hok p _ hp)
  obtain ⟨_, its, _, o2, e3, e4, _⟩ := (show ObjOk X.prog X.w H1 s1.heap p (.tup ys) from e2)
  refine ⟨"tuple", id, PySem.F.plainAttrs_tuple, slot, hty, ⟨o2, e3, e4⟩, fun a ea => ?_, ?_⟩
  · cases ea
    exact ⟨ob, e1, hd⟩
  have hA := ha.run cpos pins s1 σ H1 _ I1 q1
  rw [hs] at hA ⊢
  refine Calls.callWith_builtin (by show (false || (backTo cpos (starEach es X.env)).any (·.1)) = false; rw [hplain] <;> rfl) (Calls.evalArgs_plain ?_)
  exact thn hA fun us s2 ⟨vs, H2, I2, r2, q2⟩ => hm pins s2 σ H2 (.ref p) vs (.ref p) us Q I2 rfl r2 q2
end Kb
/-! Orders. -/
namespace Kb
open PySem PySem.Spec PyProof.Rows L2
/-- names by their places -/
def spo : Nat → List Str → List (Str × V)
  | _, [] => []
  | i, z :: r => (z, .int (i : Nat)) :: spo (i + 1) r
theorem spo_snoc : ∀ {l : List Str} {i : Nat} {z : Str}, spo i (l ++ [z]) = spo i l ++ [(z, .int ((i + l.length : Nat) : Int))]
  | [], i, z => rfl
  | x :: r, i, z => by
    show (x, V.int (i : Nat)) :: spo (i + 1) (r ++ [z]) = (x, V.int (i : Nat)) :: (spo (i + 1) r ++ [(z, .int ((i + (r.length + 1) : Nat) : Int))])
    rw [spo_snoc, show i + 1 + r.length = i + (r.length + 1) by omega]
theorem spo_fst : ∀ {l : List Str} {i : Nat}, (spo i l).map (·.1) = l
  | [], _ => rfl
  | x :: r, i => by
    show x :: (spo (i + 1) r).map (·.1) = x :: r
    rw [spo_fst]
theorem val_in {es : List (Str × V)} {z : Str} : (valV (kvsOf es) (Sum.inr z)).isSome = decide (z ∈ es.map (·.1)) := by
  rw [← valV_any]
  induction es with
  | nil => rfl
  | cons p r ih =>
    show (decide ((Sum.inr p.1 : Key) = Sum.inr z) || (kvsOf r).any fun kv => decide (kv.1 = Sum.inr z)) = _
    rw [ih]
    by_cases h : p.1 = z
    · simp [h]
    · have h2 : ¬ z = p.1 := fun q => h q.symm
      simp [h, h2]
/-- tuple(sorted(list(x))), known to be bare -/
theorem tslF {K : PySem.W.Frag} {σ : L2.St} {i : Nat} {H : Hp} {a : Addr} {xs : List Str} {Q : VK} (e : σ[i]? = some (some (.ref a))) (h : SqA K H a (xs.map V.str)) (hl : xs.length < 64) (q : ∀ t H2, L2.Same H H2 → ∀ o : Obj, o.dict = none → H2 t = some (.frz o (.tup ((srt xs).map V.str))) → Q (.ref t) H2) :
    tCB (rTupF K) (tCons (tCB (rSortedS K) (tCons (tCB (fun xs H Q => ∃ p ys, xs = [V.ref p] ∧ (SqL K H p ys ∨ SqT K H p ys) ∧ ∀ l, H l = none → Q (.ref l) (upd H l (.lst ys))) (tCons (tVar i) tNil)) tNil)) tNil) σ H Q :=
  ⟨_, e, a, _, rfl, h, fun l nl => ⟨l, xs, rfl, SqL.of upd_same, hl, fun ys p py sy np => ⟨p, _, rfl, SqL.of upd_same, fun t o ho nt => q t _ ((same_new nl).trans ((same_new np).trans (same_new nt))) o ho (by rw [upd_same, srt_uniq py sy])⟩⟩⟩
/-- an order -/
def OrderAt (K : PySem.W.Frag) (C : Addr) (H : Hp) (v : V) (ns : List Str) : Prop := ∃ (o dx : Addr) (fs : List (Str × V)) (k p r : Addr), v = .ref o ∧ H o = some (.ins C dx fs) ∧ fs.lookup ("ranked" : Str) = some (.ref k) ∧ fs.lookup ("spots" : Str) = some (.ref p) ∧ fs.lookup ("reasons" : Str) = some (.ref r) ∧
  fs.lookup ("names" : Str) = none ∧ fs.lookup ("decides" : Str) = none ∧ fs.lookup ("bears" : Str) = none ∧ H k = some (.lst (ns.map V.str)) ∧ H p = some (.dK (kvsOf (spo 0 ns))) ∧ FzT H r ((srt ns).map V.str)
theorem OrderAt.same {K : PySem.W.Frag} {C : Addr} {H H' : Hp} {v : V} {ns : List Str} (h : OrderAt K C H v ns) (s : L2.Same H H') : OrderAt K C H' v ns := by
  obtain ⟨o, dx, fs, k, p, r, e, h1, h2, h3, h4, h5, h6, h7, h8, h9, h10⟩ := h
  exact ⟨o, dx, fs, k, p, r, e, s _ _ h1, h2, h3, h4, h5, h6, h7, s _ _ h8, s _ _ h9, h10.same s⟩
structure OrdC (K : PySem.W.Frag) (mg : Str → Option Value) (C fI fN fD fB : Addr) : Prop where
  made : Mk K C fI
  cl : Cls K C
  n1 : NoAttr K C "ranked"
  n2 : NoAttr K C "spots"
  n3 : NoAttr K C "reasons"
  mN : Meth K C "names" fN
  mD : Meth K C "decides" fD
  mB : Meth K C "bears" fB
  gl : mg "Order" = some (.ref C)
section
variable {P : Program} {w : World} {K : PySem.W.Frag} {mg : Str → Option Value} {base : Heap} {f f1 f2 f3 f4 f5 fN fD fB C Cr fI : Addr} {fd fd1 fd2 fd3 fd4 fd5 : FuncData}
/-! ### Order.__init__ -/
abbrev nOi : List Str := ["self", "reasons", "spots", "at", "reason"]
theorem scOi : FnScope nOi ["self", "reasons"] (defScope (meth 51 0)) := ⟨rfl, rfl, rfl, by decide +kernel, rfl, by decide +kernel, by decide +kernel⟩
def spOi (K : PySem.W.Frag) (C : Addr) : Sp := fun vs H Q _ => ∃ (x dx : Addr) (ns : List Str), vs = .ref x :: ns.map V.str ∧ H x = some (.ins C dx []) ∧ AreNs ns ∧ 1 ≤ ns.length ∧
  ∀ H', But x H H' → OrderAt K C H' (.ref x) ns → Q .non H'
theorem c_orderI (B : Blt mg) (T : Cst mg) (N : Cal P w K mg base 2 "is_name" ["value"] (spT preNm) f1 fd1) (G : OrdC K mg C fI fN fD fB)
    (D : MetAt K "__init__" "Order.__init__" (meth 51 0) fI fd) : FnR P w K mg base (L2.CX P w) 3 fI (spOi K C) := by
  obtain ⟨oc, od, dV, kV, doc, pm, an, cdv, ct, osl, e, lk, hcd, hD, hK⟩ := D.ex
  subst e
  have edV : dV = .none := by
    rcases hD with ⟨_, e⟩ | ⟨e, _⟩
    · exact e
    · exact absurd rfl e
  subst edV
  have F := StX.fn_star (P := P) (w := w) (K := K) (mg := mg) (base := base) (CX := L2.CX P w) (k := 2) (N := nOi) (ps := ["self"]) (pv := "reasons") (sp := fun vs H Q _ => ∃ (x dx t : Addr) (ns : List Str), vs = [.ref x, .ref t] ∧ H x = some (.ins C dx []) ∧ H t = some (.tup (ns.map V.str)) ∧ AreNs ns ∧ 1 ≤ ns.length ∧
    ∀ H', But x H H' → OrderAt K C H' (.ref x) ns → Q .non H') lk hcd scOi StX.cxUp (StX.bind_star1 (B := fun l => bindArgs (PySem.W.fnOf "__init__" "Order.__init__" (defArgs (meth 51 0)) (defBody (meth 51 0)) (defScope (meth 51 0)) .none kV doc pm an cdv ct) ⟨l, []⟩) (fun a => rfl) (fun a r rs => rfl)) ?_
  · intro A outer s H us vs Q E hr e0 r h
    refine F A outer s H us vs Q E hr e0 r ?_
    obtain ⟨x, dx, ns, rfl, hx, hn, h1, q⟩ := h
    refine ⟨[.ref x], ns.map V.str, rfl, rfl, sz (by rw [List.length_map]; have := hn.len; omega), fun p np => ⟨x, dx, p, ns, rfl, (same_new np) _ _ hx, upd_same, hn, h1, fun H' b bk => q H' (fun c o n hc => b c o n ((same_new np) _ _ hc)) bk⟩⟩
  · intro A outer s H vs Q E hr h
    obtain ⟨x, dx, t, ns, rfl, hx, ht, hn, h1, q⟩ := h
    obtain ⟨tm, hM⟩ := T.mostRanked
    refine ⟨_, PSs.nox (pss_cons (ps_if (pt_cmpR op_eq (pe_callB call_len_seq (by rfl) B.len (by decide +kernel) (pa_cons (pv 1) pa_nil)) pe_int (by rfl)) pss_never pss_nil)
      (pss_cons (ps_set (i := 2) scOi.nd rfl (Or.inl rfl) pe_dnewK)
      (pss_cons (ps_for PassesOwn.never rfl (pi_enumT (by rfl) B.enumerate (pa_cons (pv 1) pa_nil)) (pg_tup rfl (pgs_cons (pg_name (i := 3) scOi.nd rfl (Or.inl rfl)) (pgs_cons (pg_name (i := 4) scOi.nd rfl (Or.inl rfl)) pgs_nil)) (by rfl))
        (pss_cons (ps_if (PW.pt (pw_or (pt_not (pt_val (pe_cal N hr (by rfl) (pa_cons (pv 4) pa_nil)))) (pw_or (pt_cmp (pc_din (hu1 hr) (pv 4) (pv 2))) (pw_or1 (pt_cmpR op_eq (pv 3) (pe_glob (v := .int 7) (by rfl) hM ⟨_, rfl⟩) (by rfl)))))) pss_never pss_nil)
          (pss_one (ps_dput (hu1 hr) (pv 2) (pv 4) (pv 3) (by rfl)))))
      (pss_cons (ps_fld (pv 0) (pe_callTy call_list_of (by rfl) B.list (by decide +kernel) (pa_cons (pv 1) pa_nil)) (by rfl))
      (pss_cons (ps_fld (pv 0) (pv 2) (by rfl))
      (pss_one (ps_fld (pv 0) (pe_callTy (call_tuple_fz) (by rfl) B.tuple (by decide +kernel) (pa_cons (pe_callB cr_sortedS (by rfl) B.sorted (by decide +kernel) (pa_cons (pe_callTy call_list_of (by rfl) B.list (by decide +kernel) (pa_cons (pv 1) pa_nil)) pa_nil)) pa_nil)) (by rfl)))))))), ?_⟩
    have l7 := hn.len
    refine ⟨_, rfl, t, _, rfl, .inr (SqT.of ht), rfl, _, rfl, ?_⟩
    rw [List.length_map, dec_int, beq_false_of_ne (by omega)]
    refine iteF fun d nd => ?_
    have s1 : L2.Same H (upd H d (.dK [])) := same_new nd
    have nx : d ≠ x := fun z => by
      rw [z, hx] at nd
      cases nd
    refine ⟨_, rfl, t, _, rfl, SqT.of (s1 _ _ ht), ?_⟩
    refine forI (srcET t (ns.map V.str)) (fun i σ H' => (∃ y z, σ = [some (.ref x), some (.ref t), some (.ref d), y, z]) ∧ L2.Same H H' ∧ H' d = some (.dK (kvsOf (spo 0 (ns.take i))))) ⟨⟨none, none, rfl⟩, s1, upd_same⟩ (fun i σ H' _ hP => SqT.of (hP.2.1 _ _ ht)) (fun i y σ H2 H3 hi hP s23 hR => ?_) (fun σ H2 hP => ?_)
    · obtain ⟨⟨y0, z0, rfl⟩, s2, ed⟩ := hP
      obtain ⟨v, hv, T', rfl, eT⟩ := hR
      obtain ⟨z, hz, rfl⟩ := map_at hv
      have s3 := s2.trans s23
      have hil : i < ns.length := by rw [List.length_map] at hi; exact hi
      refine ⟨T', _, rfl, SqT.of eT, rfl, _, _, rfl, _, _, rfl, rfl, ?_⟩
      refine ⟨_, rfl, ⟨z, rfl, hn.nm z (List.mem_of_getElem? hz)⟩, fun H4 s4 => ⟨_, rfl, iteF ?_⟩⟩
      have ed4 : H4 d = some (.dK (kvsOf (spo 0 (ns.take i)))) := s4 _ _ (s23 _ _ ed)
      have hnot : z ∉ ns.take i := fun hm => by
        obtain ⟨j, hj, ej⟩ := List.mem_iff_getElem.mp hm
        rw [List.length_take] at hj
        rw [List.getElem_take] at ej
        have q9 := L2.nd_ix hn.nd (i := j) (j := i) (x := z) (by rw [List.getElem?_eq_getElem (by omega), ej]) hz
        omega
      refine ⟨_, rfl, _, rfl, d, _, rfl, DGet.k (k := Sum.inr z) ed4, _, rfl, ?_⟩
      rw [val_in, spo_fst, decide_eq_false hnot]
      refine iteF ⟨_, rfl, rfl, _, rfl, ?_⟩
      rw [dec_int, beq_false_of_ne (by omega)]
      refine iteF ⟨_, rfl, _, rfl, _, rfl, d, _, rfl, .inl ⟨_, Sum.inr z, ed4, rfl, szl ?_, rfl⟩, ⟨⟨_, _, rfl⟩, same_put (s3.trans s4) nd, ?_⟩⟩
      · unfold kvsOf
        have e9 : (spo 0 (ns.take i)).length = (ns.take i).length := by
          have e8 := congrArg List.length (spo_fst (l := ns.take i) (i := 0))
          rw [List.length_map] at e8
          exact e8
        rw [List.length_map, e9, List.length_take]
        omega
      · rw [upd_same, take_snoc hz, spo_snoc]
        have el : 0 + (ns.take i).length = i := by rw [List.length_take]; omega
        rw [el]
        have q9 := kvs_snoc (es := spo 0 (ns.take i)) (e := (z, V.int (i : Nat))) (by rw [spo_fst]; exact hnot)
        rw [← q9]
    · obtain ⟨⟨y0, z0, rfl⟩, s2, ed⟩ := hP
      rw [List.length_map, List.take_length] at ed
      have ht2 := s2 _ _ ht
      refine ⟨_, rfl, t, _, rfl, .inr (SqT.of ht2), fun l nl => ?_⟩
      have s3 : L2.Same H2 (upd H2 l (.lst (ns.map V.str))) := same_new nl
      have s03 := s2.trans s3
      have hx3 := s03 _ _ hx
      have nlx : l ≠ x := fun z => by
        rw [z, s2 _ _ hx] at nl
        cases nl
      refine ⟨_, rfl, x, C, dx, [], rfl, hx3, G.cl, G.n1, by decide, ?_⟩
      refine ⟨_, rfl, _, rfl, x, C, dx, _, rfl, upd_same, G.cl, G.n2, show 1 < 1000 by decide, ?_⟩
      have b5 : But x H (upd (upd (upd H2 l (.lst (ns.map V.str))) x (.ins C dx (putF "ranked" (.ref l) []))) x (.ins C dx (putF "spots" (.ref d) (putF "ranked" (.ref l) [])))) := (((But.refl x H).same s03).put).put
      dsimp only [tNext, tSeq, sFld]
      refine tslF (σ := [some (.ref x), some (.ref t), some (.ref d), y0, z0]) (i := 1) rfl (b5.sqA hx (.inr (SqT.of ht))) (len64 hn) fun t1 H4 s4 ob hob e4 => ?_
      have hx4 := s4 _ _ (upd_same (H := upd (upd H2 l (.lst (ns.map V.str))) x (.ins C dx (putF "ranked" (.ref l) []))) (a := x) (o := .ins C dx (putF "spots" (.ref d) (putF "ranked" (.ref l) []))))
      have n1 : t1 ≠ x := fun z => by
        rw [z, hx4] at e4
        cases e4
      refine ⟨_, rfl, x, C, dx, _, rfl, hx4, G.cl, G.n3, show 2 < 1000 by decide, ?_⟩
      refine q _ (b5.same s4).put ⟨x, dx, _, l, d, t1, rfl, upd_same, rfl, rfl, rfl, rfl, rfl, rfl, ?_, ?_, ?_⟩
      · rw [upd_ne nlx]
        exact s4 _ _ (by rw [upd_ne nlx, upd_ne nlx, upd_same])
      · rw [upd_ne nx]
        exact s4 _ _ (by rw [upd_ne nx, upd_ne nx]; exact s3 _ _ ed)
      · refine ⟨ob, hob, ?_⟩
        rw [upd_ne n1]
        exact e4
end
end Kb
/-! names, decides, bears, read of Order. -/
namespace Kb
open PySem PySem.Spec PyProof.Rows L2
/-- the first name of the order that the row has -/
def dec (ns nm : List Str) : Option Str := ns.find? fun z => decide (z ∈ nm)
def optV : Option Str → V
  | none => .non
  | some z => .str z
/-- whether the order bears the row -/
def bear (ns pro con : List Str) : Bool := match dec ns (pro ++ con) with
  | none => true
  | some z => decide (z ∈ pro)
section
variable {P : Program} {w : World} {K : PySem.W.Frag} {mg : Str → Option Value} {base : Heap} {f f1 f2 f3 f4 f5 fN fD fB C Cr fI : Addr} {fd fd1 fd2 fd3 fd4 fd5 : FuncData}
/-! ### names -/
theorem scNa : FnScope ["self"] ["self"] (defScope (meth 51 1)) := ⟨rfl, rfl, rfl, by decide +kernel, rfl, by decide +kernel, by decide +kernel⟩
def spNa (K : PySem.W.Frag) (C : Addr) : Sp := fun vs H Q _ => ∃ (v : V) (ns : List Str), vs = [v] ∧ OrderAt K C H v ns ∧ ns.length ≤ 7 ∧ ∀ (H' : Hp) (p : Addr), L2.Same H H' → H p = none → H' p = some (.lst (ns.map V.str)) → Q (.ref p) H'
theorem c_onames (B : Blt mg) (G : OrdC K mg C fI fN fD fB) (D : MetAt K "names" "Order.names" (meth 51 1) fN fd) : FnOk P w K mg base (L2.CX P w) 1 fN fd ["self"] (spNa K C) ∧ Binds K fd ["self"] [] := by
  refine ⟨D.ok scNa (fun vs H Q E h => ?_) (fun cdv A outer s H vs Q E hr h => ?_), D.bindsN (fun _ _ _ _ _ _ us hl => match us, hl with | [_], _ => rfl)⟩
  · obtain ⟨v, ns, rfl, _⟩ := h
    rfl
  · obtain ⟨v, ns, rfl, hb, hl, q⟩ := h
    refine ⟨_, PSs.nox (pss_one (ps_ret (pe_callTy call_list_of (by rfl) B.list (by decide +kernel) (pa_cons (pe_fld (pv 0) (by rfl)) pa_nil)))), ?_⟩
    obtain ⟨o, dx, fs, k, p, r, rfl, g1, g2, g3, g4, g5, g6, g7, g8, g9, g10⟩ := hb
    exact ⟨_, rfl, o, C, dx, fs, _, rfl, g1, G.cl, G.n1, g2, k, _, rfl, .inl (SqL.of g8), fun l nl => q _ l (same_new nl) nl upd_same⟩
/-! ### decides -/
abbrev nDe : List Str := ["self", "row", "reason"]
theorem scDe : FnScope nDe ["self", "row"] (defScope (meth 51 4)) := ⟨rfl, rfl, rfl, by decide +kernel, rfl, by decide +kernel, by decide +kernel⟩
def spDe (K : PySem.W.Frag) (C Cr : Addr) : Sp := fun vs H Q _ => ∃ (v u : V) (ns pro con : List Str), vs = [v, u] ∧ OrderAt K C H v ns ∧ RowAt K Cr H u pro con ∧ (∀ z, z ∈ pro ++ con → z ∈ ns) ∧ ∀ H', L2.Same H H' → Q (optV (dec ns (pro ++ con))) H'
theorem c_decides {fI0 : Addr} (R : RowC K mg Cr fI0) (G : OrdC K mg C fI fN fD fB) (D : MetAt K "decides" "Order.decides" (meth 51 4) fD fd) : FnOk P w K mg base (L2.CX P w) 1 fD fd ["self", "row"] (spDe K C Cr) ∧ Binds K fd ["self", "row"] [] := by
  refine ⟨D.ok scDe (fun vs H Q E h => ?_) (fun cdv A outer s H vs Q E hr h => ?_), D.bindsN (fun _ _ _ _ _ _ us hl => match us, hl with | [_, _], _ => rfl)⟩
  · obtain ⟨v, u, ns, pro, con, rfl, _⟩ := h
    rfl
  · obtain ⟨v, u, ns, pro, con, rfl, hb, hw, hin, q⟩ := h
    refine ⟨_, PSs.nox (pss_cons (ps_for PassesOwn.never rfl (pi_tup (pe_fld (pv 1) (by rfl))) (pg_name (i := 2) scDe.nd rfl (Or.inl rfl)) (pss_one (ps_if (pt_cmp (pc_dnotin (hu1 hr) (pv 2) (pe_fld (pv 0) (by rfl)))) pss_never pss_nil)))
      (pss_cons (ps_for PassesOwn.never rfl (pi_list (pe_fld (pv 0) (by rfl))) (pg_name (i := 2) scDe.nd rfl (Or.inl rfl)) (pss_one (ps_if (pt_cmpR op_in_seq (pv 2) (pe_fld (pv 1) (by rfl)) (by rfl)) (pss_one (ps_ret (pv 2))) pss_nil))) (pss_one (ps_ret pe_non)))), ?_⟩
    obtain ⟨o, dx, fs, k, p, r, rfl, g1, g2, g3, g4, g5, g6, g7, g8, g9, g10⟩ := hb
    obtain ⟨x, dx2, fs2, pp, pc, pn, rfl, h1, h2, h3, h4, h5, h6, h7⟩ := hw
    refine ⟨_, rfl, x, Cr, dx2, fs2, _, rfl, h1, R.cl, R.n3, h4, pn, rfl, ⟨_, h7⟩, ?_⟩
    refine forI (srcT pn ((srt (pro ++ con)).map V.str)) (fun i σ H' => (∃ y, σ = [some (.ref o), some (.ref x), y]) ∧ L2.Same H H') ⟨⟨none, rfl⟩, L2.Same.refl _⟩ (fun i σ H' _ hP => Kb.Same.tup hP.2 h7) (fun i y σ H2 H3 hi hP s23 hR => ?_) (fun σ H2 hP => ?_)
    · obtain ⟨⟨y0, rfl⟩, s2⟩ := hP
      have s3 := s2.trans s23
      obtain ⟨z, hz, rfl⟩ := map_at hR
      have hz2 : z ∈ ns := hin z (srt_mem.mp (List.mem_of_getElem? hz))
      refine ⟨_, rfl, _, rfl, o, C, dx, fs, _, rfl, s3 _ _ g1, G.cl, G.n2, g3, p, _, rfl, DGet.k (k := Sum.inr z) (s3 _ _ g9), _, rfl, ?_⟩
      rw [val_in, spo_fst, decide_eq_true hz2]
      exact iteF ⟨⟨_, rfl⟩, s3⟩
    · obtain ⟨⟨y0, rfl⟩, s2⟩ := hP
      refine ⟨_, rfl, o, C, dx, fs, _, rfl, s2 _ _ g1, G.cl, G.n1, g2, k, rfl, ⟨_, SqL.of (s2 _ _ g8)⟩, ?_⟩
      refine forI (srcL k (ns.map V.str)) (fun i σ H' => (∃ y, σ = [some (.ref o), some (.ref x), y]) ∧ L2.Same H H' ∧ ∀ j z, j < i → ns[j]? = some z → z ∉ pro ++ con) ⟨⟨_, rfl⟩, s2, fun j z hj => absurd hj (Nat.not_lt_zero j)⟩ (fun i σ H' _ hP => SqL.of (hP.2.1 _ _ g8)) (fun i y σ H3 H4 hi hP s34 hR => ?_) (fun σ H3 hP => ?_)
      · obtain ⟨⟨y1, rfl⟩, s3, hb⟩ := hP
        have s4 := s3.trans s34
        obtain ⟨z, hz, rfl⟩ := map_at hR
        refine ⟨_, rfl, _, rfl, x, Cr, dx2, fs2, _, rfl, s4 _ _ h1, R.cl, R.n3, h4, pn, _, rfl, .inr (Kb.Same.tup s4 h7), rfl, flat_strs _, _, rfl, ?_⟩
        show if inV (.str z) ((srt (pro ++ con)).map V.str) = true then _ else _
        rw [inV_strs]
        by_cases hm : z ∈ pro ++ con
        · rw [decide_eq_true (srt_mem.mpr hm)]
          refine iteT ⟨_, rfl, ?_⟩
          have e : dec ns (pro ++ con) = some z := by
            unfold dec
            rw [List.find?_eq_some_iff_getElem]
            obtain ⟨hil, eil⟩ := List.getElem?_eq_some_iff.mp hz
            refine ⟨decide_eq_true hm, i, hil, eil, fun j hj => ?_⟩
            have q9 := hb j ns[j] hj (List.getElem?_eq_getElem (by omega))
            rw [decide_eq_false q9]
            rfl
          have q9 := q H4 s4
          rw [e] at q9
          exact q9
        · rw [decide_eq_false (fun q9 => hm (srt_mem.mp q9))]
          refine iteF ⟨⟨_, rfl⟩, s4, fun j z' hj hz' => ?_⟩
          by_cases e : j = i
          · subst e
            rw [hz] at hz'
            rw [← Option.some.inj hz']
            exact hm
          · exact hb j z' (by omega) hz'
      · obtain ⟨_, s3, hb⟩ := hP
        rw [List.length_map] at hb
        have e : dec ns (pro ++ con) = none := by
          unfold dec
          rw [List.find?_eq_none]
          intro z hz
          obtain ⟨j, hj, ej⟩ := List.mem_iff_getElem.mp hz
          have q9 := hb j z hj (by rw [List.getElem?_eq_getElem hj, ej])
          simpa using q9
        have q9 := q H3 s3
        rw [e] at q9
        exact q9
/-! ### bears -/
theorem scBe : FnScope nDe ["self", "row"] (defScope (meth 51 5)) := ⟨rfl, rfl, rfl, by decide +kernel, rfl, by decide +kernel, by decide +kernel⟩
def spBe (K : PySem.W.Frag) (C Cr : Addr) : Sp := fun vs H Q _ => ∃ (v u : V) (ns pro con : List Str), vs = [v, u] ∧ OrderAt K C H v ns ∧ RowAt K Cr H u pro con ∧ (∀ z, z ∈ pro ++ con → z ∈ ns) ∧ ∀ H', L2.Same H H' → Q (.bl (bear ns pro con)) H'
theorem c_bears {fI0 : Addr} (R : RowC K mg Cr fI0) (G : OrdC K mg C fI fN fD fB) (F : FnOk P w K mg base (L2.CX P w) 1 fD fd1 ["self", "row"] (spDe K C Cr) ∧ Binds K fd1 ["self", "row"] []) (D : MetAt K "bears" "Order.bears" (meth 51 5) fB fd) : FnOk P w K mg base (L2.CX P w) 2 fB fd ["self", "row"] (spBe K C Cr) ∧ Binds K fd ["self", "row"] [] := by
  refine ⟨D.ok scBe (fun vs H Q E h => ?_) (fun cdv A outer s H vs Q E hr h => ?_), D.bindsN (fun _ _ _ _ _ _ us hl => match us, hl with | [_, _], _ => rfl)⟩
  · obtain ⟨v, u, ns, pro, con, rfl, _⟩ := h
    rfl
  · obtain ⟨v, u, ns, pro, con, rfl, hb, hw, hin, q⟩ := h
    refine ⟨_, PSs.nox (pss_cons (ps_set (i := 2) scBe.nd rfl (Or.inl rfl) (pe_meth (E := E0) (pl := _) (pv 0) G.cl G.mD F.1 hr F.2 .nil passL (pa_cons (pv 1) pa_nil)))
      (pss_one (ps_ret (pe_or (pe_cmpR op_isN (pv 2) pe_non (by rfl)) (pe_one (pe_cmpR op_in_seq (pv 2) (pe_fld (pv 1) (by rfl)) (by rfl))))))), ?_⟩
    have hb0 := hb
    have hw0 := hw
    obtain ⟨o, dx, fs, k, p, r, rfl, g1, g2, g3, g4, g5, g6, g7, g8, g9, g10⟩ := hb
    obtain ⟨x, dx2, fs2, pp, pc, pn, rfl, h1, h2, h3, h4, h5, h6, h7⟩ := hw
    refine ⟨_, rfl, o, dx, fs, rfl, g1, g6, _, rfl, _, _, ns, pro, con, rfl, hb0, hw0, hin, fun H2 s2 => ?_⟩
    have q2 := q H2 s2
    unfold bear at q2
    cases e : dec ns (pro ++ con) with
    | none =>
      rw [e] at q2
      exact ⟨_, rfl, rfl, true, rfl, iteT q2⟩
    | some z =>
      rw [e] at q2
      refine ⟨_, rfl, rfl, false, rfl, iteF ⟨_, rfl, _, rfl, x, Cr, dx2, fs2, _, rfl, s2 _ _ h1, R.cl, R.n1, h2, pp, _, rfl, .inr (Kb.Same.tup s2 h5), rfl, flat_strs _, ?_⟩⟩
      show Q (.bl (inV (.str z) (pro.map V.str))) H2
      rw [inV_strs]
      exact q2
/-! ### read -/
abbrev nRd : List Str := ["text", "reasons"]
theorem scRd : FnScope nRd ["text"] (defScope (meth 51 8)) := ⟨rfl, rfl, rfl, by decide +kernel, rfl, by decide +kernel, by decide +kernel⟩
def gt3 : Str := " > "
def spRd (K : PySem.W.Frag) (C : Addr) : Sp := fun vs H Q _ => ∃ ns : List Str, vs = [.str (Txt.join gt3 ns)] ∧ AreNs ns ∧ 1 ≤ ns.length ∧ ∀ H' v, L2.Same H H' → OrderAt K C H' v ns → Q v H'
theorem split_ns {ns : List Str} (h : AreNs ns) (h1 : 1 ≤ ns.length) : Txt.split (Txt.join gt3 ns) gt3 = ns := by
  refine TL.split_join (y := gt3) (s := 32) (S := [62, 32]) (by decide +kernel) (by decide +kernel) (fun e => by rw [e] at h1; exact absurd h1 (by decide)) fun p hp hm => ?_
  have q := (h.nm p hp).small 32 hm
  omega
theorem joinL_len {S : List Nat} {k : Nat} : ∀ {l : List (List Nat)}, (∀ p ∈ l, p.length ≤ k) → (TL.joinL S l).length ≤ l.length * (k + S.length)
  | [], _ => Nat.zero_le _
  | [p], h => by
    have := h p List.mem_cons_self
    show p.length ≤ 1 * (k + S.length)
    omega
  | p :: q :: r, h => by
    have h1 := h p List.mem_cons_self
    have h2 := joinL_len (S := S) (l := q :: r) fun z hz => h z (List.mem_cons_of_mem _ hz)
    show (p ++ (S ++ TL.joinL S (q :: r))).length ≤ ((q :: r).length + 1) * (k + S.length)
    rw [List.length_append, List.length_append, Nat.add_mul, Nat.one_mul]
    omega
theorem join_len {ns : List Str} (h : AreNs ns) : (Txt.join gt3 ns).length ≤ 1000 := by
  have e : (Txt.join gt3 ns).length = (TL.tl (Txt.join gt3 ns)).length := by
    show (Txt.join gt3 ns).cps.size = (Txt.join gt3 ns).cps.toList.length
    rw [Array.length_toList]
  rw [e, TL.join_eq, TL.tl_join]
  have q := joinL_len (S := TL.tl gt3) (k := 6) (l := ns.map TL.tl) fun p hp => by
    obtain ⟨z, hz, rfl⟩ := List.mem_map.mp hp
    have := (h.nm z hz).hi
    show z.cps.toList.length ≤ 6
    rw [Array.length_toList]
    exact this
  have e3 : (TL.tl gt3).length = 3 := by decide +kernel
  rw [e3, List.length_map] at q
  have := h.len
  omega
theorem c_read (B : Blt mg) (T : Cst mg) (N : Cal P w K mg base 3 "is_names" ["value"] (spT (preNs K)) f1 fd1) (G : OrdC K mg C fI fN fD fB) (F : FnR P w K mg base (L2.CX P w) 3 fI (spOi K C))
    (D : MetAt K "read" "Order.read" (meth 51 8) f fd) : FnOk P w K mg base (L2.CX P w) 5 f fd ["text"] (spRd K C) ∧ Binds K fd ["text"] [] := by
  refine ⟨D.ok scRd (fun vs H Q E h => ?_) (fun cdv A outer s H vs Q E hr h => ?_), D.bindsN (fun _ _ _ _ _ _ us hl => match us, hl with | [_], _ => rfl)⟩
  · obtain ⟨ns, rfl, _⟩ := h
    rfl
  · obtain ⟨ns, rfl, hn, h1, q⟩ := h
    obtain ⟨tm, hM⟩ := T.mostRanked
    have hr3 : Room 3 (A.deeper (envOfC "Order.read" (defScope (meth 51 8)) s.heap.objs.size f cdv)) := hr.mono (by omega)
    refine ⟨_, PSs.nox (pss_cons (ps_if (pt_not (pt_val (pe_callB call_isi (by rfl) B.isinstance (by decide +kernel) (pa_cons (pv 0) (pa_cons (pe_bltn (v := .ty "str") (by rfl) B.str (by decide +kernel) rfl) pa_nil))))) pss_never pss_nil)
      (pss_cons (ps_set (i := 1) scRd.nd rfl (Or.inl rfl) (pe_split (pv 0) pe_str))
      (pss_cons (ps_if (PW.pt (pw_or (pt_cmpR op_gt (pe_callB call_len_seq (by rfl) B.len (by decide +kernel) (pa_cons (pv 1) pa_nil)) (pe_glob (v := .int 7) (by rfl) hM ⟨_, rfl⟩) (by rfl)) (pw_or1 (pt_not (pt_val (pe_cal N hr3 (by rfl) (pa_cons (pv 1) pa_nil))))))) pss_never pss_nil)
      (pss_one (ps_ret (pe_makeS G.made F (hr.mono (by omega)) (by rfl) G.gl passL (pv 1))))))), ?_⟩
    refine ⟨_, rfl, .str _, .ty "str", .type "str", .type "str", true, rfl, .ty "str", .base (.str _), kit_ty (by decide +kernel), true, rfl, iteF ?_⟩
    have l7 := hn.len
    refine ⟨_, rfl, ⟨_, rfl⟩, _, gt3, rfl, rfl, by decide +kernel, sz (by have := join_len hn; omega), fun l nl => ?_⟩
    rw [split_ns hn h1]
    refine ⟨_, rfl, l, _, rfl, .inl (SqL.of upd_same), _, _, rfl, rfl, _, rfl, ?_⟩
    rw [List.length_map]
    refine iteDn (by omega) ⟨_, rfl, ⟨l, ns, rfl, .inl (SqL.of upd_same), hn⟩, fun H2 s2 => ⟨_, rfl, iteF ?_⟩⟩
    have s1 : L2.Same H (upd H l (.lst (ns.map V.str))) := same_new nl
    have s02 := s1.trans s2
    have el := s2 _ _ (upd_same (H := H) (a := l) (o := .lst (ns.map V.str)))
    refine ⟨_, rfl, l, _, rfl, .inr (SqL.of el), fun x dx nx ndx hne => ⟨x, dx, ns, rfl, upd_same, hn, h1, fun H3 hb bk => ⟨rfl, q H3 _ (s02.trans (But.made nx ndx hb)) bk⟩⟩⟩
end
end Kb
/-! max with a default; vectors as numbers of names. -/
namespace Kb
open PySem PySem.Spec PyProof.Rows L2
/-- the greatest of numbers, 0 of none -/
def mx (l : List Int) : Int := l.foldl max 0
theorem fold_le : ∀ {l : List Int} {a : Int}, a ≤ l.foldl max a ∧ ∀ y ∈ l, y ≤ l.foldl max a
  | [], a => ⟨Int.le_refl _, fun y hy => by cases hy⟩
  | x :: r, a => by
    obtain ⟨h1, h2⟩ := fold_le (l := r) (a := max a x)
    refine ⟨Int.le_trans (Int.le_max_left a x) h1, fun y hy => ?_⟩
    rcases List.mem_cons.mp hy with e | hy
    · rw [e]
      exact Int.le_trans (Int.le_max_right a x) h1
    · exact h2 y hy
theorem fold_in : ∀ {l : List Int} {a : Int}, l.foldl max a = a ∨ l.foldl max a ∈ l
  | [], _ => .inl rfl
  | x :: r, a => by
    rcases fold_in (l := r) (a := max a x) with h | h
    · rcases (show max a x = a ∨ max a x = x by omega) with e | e
      · exact .inl (h.trans e)
      · exact .inr (by
          show r.foldl max (max a x) ∈ x :: r
          rw [h, e]
          exact List.mem_cons_self)
    · exact .inr (List.mem_cons_of_mem _ h)
theorem mx_nn (l : List Int) : 0 ≤ mx l := (fold_le (l := l) (a := 0)).1
theorem mx_le {l : List Int} {y : Int} (h : y ∈ l) : y ≤ mx l := (fold_le (l := l) (a := 0)).2 y h
theorem mx_lt {l : List Int} {b : Int} (h0 : 0 < b) (h : ∀ y ∈ l, y < b) : mx l < b := by
  rcases fold_in (l := l) (a := 0) with e | e
  · show l.foldl max 0 < b
    rw [e]
    exact h0
  · exact h _ e
theorem mx_uniq {l : List Int} {m : Int} (h : m ∈ 0 :: l) (h2 : ∀ y, y ∈ 0 :: l → y ≤ m) : m = mx l := by
  have a : mx l ≤ m := by
    rcases fold_in (l := l) (a := 0) with e | e
    · show l.foldl max 0 ≤ m
      rw [e]
      exact h2 0 List.mem_cons_self
    · exact h2 _ (List.mem_cons_of_mem _ e)
  have b : m ≤ mx l := by
    rcases List.mem_cons.mp h with e | e
    · rw [e]
      exact mx_nn l
    · exact mx_le e
  omega
theorem mx_cons {k : Int} {r : List Int} (h : 0 ≤ k) : r.foldl max k = mx (k :: r) := by
  show _ = r.foldl max (max 0 k)
  rw [show max 0 k = k by omega]
/-! ### max(xs, default=0) -/
def rMaxD (K : PySem.W.Frag) : List V → List V → Hp → VK → Prop := fun vs zs H Q => ∃ (a : Addr) (ns : List Int), vs = [.ref a] ∧ zs = [.int 0] ∧ SqL K H a (ns.map V.int) ∧ (∀ n ∈ ns, 0 ≤ n) ∧ Q (.int (mx ns)) H
theorem dp_ints {K : PySem.W.Frag} {H : Hp} : ∀ ns : List Int, DpAll K H (ns.map V.int) (ns.map PyData.int)
  | [] => .nil
  | n :: r => .cons (.int n) (dp_ints r)
theorem alike_ints (ns : List Int) : PySem.W.AlikeAll (ns.map PyData.int) := ⟨fun x hx y hy => by
  obtain ⟨i, _, rfl⟩ := List.mem_map.mp hx
  obtain ⟨j, _, rfl⟩ := List.mem_map.mp hy
  rfl, fun x hx => by
  obtain ⟨i, _, rfl⟩ := List.mem_map.mp hx
  exact fun z => nomatch z⟩
theorem depth_ints : ∀ ns : List Int, PyData.depthAll (ns.map PyData.int) ≤ 1
  | [] => Nat.zero_le _
  | n :: r => Nat.max_le.mpr ⟨by unfold PyData.depth; omega, depth_ints r⟩
theorem cr_maxD {X : Cx} (hc : X.calm = true) (hu : X.A.units + 64 < cLine) : CallRK X (.builtin "max") [Str.ofString "default"] (rMaxD X.K) := by
  intro pins s σ H vs zs us ws Q I r rz h
  obtain ⟨a, ns, rfl, rfl, hs, hnn, q⟩ := h
  obtain ⟨its, rv, hl, _⟩ := I.list hs
  rw [Vals.ref1 r]
  obtain ⟨d, rfl, t0, rfl⟩ := Vals.one rz
  obtain ⟨as, hR⟩ := Dp.readsAll I _ _ _ (dp_ints (K := X.K) (H := H) ns) rv
  refine PySem.W.max_list_default (I.ok.hd hc) hl.isList (xs := ns.map PyData.int) (as := as) (by simpa using hR) (alike_ints ns) (by have := depth_ints ns; omega) (fun e h' tk hk => ?_) (fun y ys i v h' tk bs e hv hr hk => ?_)
  · have e2 : ns = [] := List.map_eq_nil_iff.mp e
    subst e2
    exact ⟨.int 0, H, I.kept hk, ⟨_, rfl⟩, q⟩
  · cases ns with
    | nil => cases e
    | cons k rr =>
      injection e with e1 e2
      subst e1
      subst e2
      rw [PySem.W.maxD_ints, mx_cons (hnn k List.mem_cons_self)] at hr
      cases hr with
      | int i t => exact ⟨.int _, H, I.kept hk, ⟨_, rfl⟩, q⟩
/-! ### bounds -/
theorem bl_lt : ∀ {l : List Int}, (∀ m ∈ l, 0 ≤ m ∧ m < 2 ^ 30) → 1 + bl l ≤ 2 ^ (31 * l.length)
  | [], _ => by decide
  | m :: r, h => by
    have h1 := bl_lt (l := r) fun z hz => h z (List.mem_cons_of_mem _ hz)
    obtain ⟨h2, h3⟩ := h m List.mem_cons_self
    have h0 : 0 ≤ bl r := bl_nonneg fun z hz => (h z (List.mem_cons_of_mem _ hz)).1
    have e : 1 + bl (m :: r) = (1 + bl r) * (1 + m) := by
      show 1 + (bl r + (1 + bl r) * m) = _
      rw [Int.mul_add, Int.mul_one]
      omega
    rw [e]
    have e2 : (2 : Int) ^ (31 * (m :: r).length) = 2 ^ (31 * r.length) * 2 ^ 31 := by
      rw [← Int.pow_add]
      rfl
    rw [e2]
    exact Int.mul_le_mul h1 (by omega) (by omega) (by
      have : (0 : Int) < 2 ^ (31 * r.length) := Int.pow_pos (by decide)
      omega)
/-! ### vectors as numbers of names -/
def ab (i : Int) : Int := if i < 0 then -i else i
theorem ab_nn (i : Int) : 0 ≤ ab i := by unfold ab; split <;> omega
theorem ab_le (i : Int) : -(ab i) ≤ i ∧ i ≤ ab i := by unfold ab; split <;> omega
theorem ab_neg (i : Int) : ab (-i) = ab i := by unfold ab; split <;> split <;> omega
def VecAt (K : PySem.W.Frag) (H : Hp) (ss : List Str) (v : V) (f : Str → Int) : Prop := ∃ a, v = .ref a ∧ SqT K H a ((ss.map f).map V.int)
theorem VecAt.same {K : PySem.W.Frag} {H H' : Hp} {ss : List Str} {v : V} {f : Str → Int} (h : VecAt K H ss v f) (s : L2.Same H H') : VecAt K H' ss v f := by
  obtain ⟨a, e, q⟩ := h
  exact ⟨a, e, Kb.Same.tup s q⟩
/-- numbers that are no idle row, of known size -/
structure Okf (ss : List Str) (f : Str → Int) : Prop where
  nz : ∃ z ∈ ss, f z ≠ 0
  lt : ∀ z ∈ ss, ab (f z) < 2 ^ 30
def VecsAt (K : PySem.W.Frag) (H : Hp) (ss : List Str) (v : V) (fs : List (Str → Int)) : Prop := ∃ a vs, v = .ref a ∧ SqA K H a vs ∧ Paired (VecAt K H ss) vs fs
theorem VecsAt.same {K : PySem.W.Frag} {H H' : Hp} {ss : List Str} {v : V} {fs : List (Str → Int)} (h : VecsAt K H ss v fs) (s : L2.Same H H') : VecsAt K H' ss v fs := by
  obtain ⟨a, vs, e, q, p⟩ := h
  exact ⟨a, vs, e, q.same s, Paired.mapP p fun _ _ z => z.same s⟩
def itmOf (ss : List Str) (f : Str → Int) : Itm := .tup (ss.map fun z => .i (f z))
theorem itm_at {K : PySem.W.Frag} {H : Hp} {ss : List Str} {v : V} {f : Str → Int} (h : VecAt K H ss v f) : ItAt K H v (itmOf ss f) := by
  obtain ⟨a, e, q⟩ := h
  refine ⟨a, e, ?_⟩
  rw [List.map_map] at q ⊢
  exact q
theorem itm_ok {ss : List Str} {f : Str → Int} (h : Okf ss f) : isVec ss.length (itmOf ss f) = true := by
  show (decide ((ss.map fun z => Cel.i (f z)).length = ss.length) && ((ss.map fun z => Cel.i (f z)).all Cel.isI && (ss.map fun z => Cel.i (f z)).any Cel.nz)) = true
  rw [List.length_map, decide_eq_true rfl, List.all_map, List.any_map]
  obtain ⟨z, hz, nz⟩ := h.nz
  have e1 : (ss.all (Cel.isI ∘ fun z => Cel.i (f z))) = true := List.all_eq_true.mpr fun _ _ => rfl
  have e2 : (ss.any (Cel.nz ∘ fun z => Cel.i (f z))) = true := List.any_eq_true.mpr ⟨z, hz, decide_eq_true nz⟩
  rw [e1, e2]
  rfl
theorem paired_mapr {α β γ : Type} {F : α → γ → Prop} {f : β → γ} : ∀ {l : List α} {m : List β}, Paired (fun a b => F a (f b)) l m → Paired F l (m.map f)
  | _, _, .nil => .nil
  | _, _, .cons h t => .cons h (paired_mapr t)
theorem giv_at {K : PySem.W.Frag} {H : Hp} {ss : List Str} {v : V} {fs : List (Str → Int)} (h : VecsAt K H ss v fs) : GivAt K H v (.its (fs.map (itmOf ss))) := by
  obtain ⟨a, vs, e, q, p⟩ := h
  exact ⟨a, vs, e, q, paired_mapr (Paired.mapP p fun _ _ z => itm_at z)⟩
theorem giv_sm {ss : List Str} {fs : List (Str → Int)} (h7 : ss.length ≤ 7) (h : fs.length ≤ 12) : Giv.sm (.its (fs.map (itmOf ss))) := by
  refine ⟨by rw [List.length_map]; omega, fun t ht => ?_⟩
  obtain ⟨f, _, rfl⟩ := List.mem_map.mp ht
  show (ss.map fun z => Cel.i (f z)).length ≤ 100
  rw [List.length_map]
  omega
theorem giv_ok {ss : List Str} {fs : List (Str → Int)} (h : fs.length ≤ 12) (hf : ∀ f ∈ fs, Okf ss f) : fault ss.length (.its (fs.map (itmOf ss))) = none := by
  show (if 12 < (fs.map (itmOf ss)).length then some Flt.many else ((fs.map (itmOf ss)).findIdx? fun t => !isVec ss.length t).map fun i => Flt.at (i : Nat)) = none
  rw [if_neg (by rw [List.length_map]; omega)]
  have e : ((fs.map (itmOf ss)).findIdx? fun t => !isVec ss.length t) = none := by
    rw [List.findIdx?_eq_none_iff]
    intro t ht
    obtain ⟨f, hm, rfl⟩ := List.mem_map.mp ht
    rw [itm_ok (hf f hm)]
    rfl
  rw [e]
  rfl
/-- the greatest size at a name -/
def mgf (fs : List (Str → Int)) (z : Str) : Int := mx (fs.map fun f => ab (f z))
theorem mgf_nn (fs : List (Str → Int)) (z : Str) : 0 ≤ mgf fs z := mx_nn _
theorem mgf_lt {ss : List Str} {fs : List (Str → Int)} (h : ∀ f ∈ fs, Okf ss f) {z : Str} (hz : z ∈ ss) : mgf fs z < 2 ^ 30 := mx_lt (by decide) fun y hy => by
  obtain ⟨f, hf, rfl⟩ := List.mem_map.mp hy
  exact (h f hf).lt z hz
theorem mgf_le {fs : List (Str → Int)} {f : Str → Int} (h : f ∈ fs) (z : Str) : -(mgf fs z) ≤ f z ∧ f z ≤ mgf fs z := by
  have h1 : ab (f z) ≤ mgf fs z := mx_le (List.mem_map.mpr ⟨f, h, rfl⟩)
  have h2 := ab_le (f z)
  omega
end Kb
/-! order_weights. -/
namespace Kb
open PySem PySem.Spec PyProof.Rows L2
def rsum (l : List Str) (fs : List (Str → Int)) : Int := bl (l.map (mgf fs))
theorem wt_rev {ns : List Str} (nd : ns.Nodup) {fs : List (Str → Int)} {i : Nat} {z : Str} (h : ns.reverse[i]? = some z) : wt (mgf fs) ns z = 1 + rsum ((ns.reverse.take i).reverse) fs := by
  have e : ns = (ns.reverse.drop (i + 1)).reverse ++ z :: (ns.reverse.take i).reverse := by
    have e1 : ns.reverse = ns.reverse.take i ++ z :: ns.reverse.drop (i + 1) := by
      obtain ⟨hi, hz⟩ := List.getElem?_eq_some_iff.mp h
      rw [← hz, List.getElem_cons_drop hi, List.take_append_drop]
    have e2 := congrArg List.reverse e1
    rw [List.reverse_reverse, List.reverse_append, List.reverse_cons, List.append_assoc] at e2
    exact e2
  have hx : ¬ z ∈ (ns.reverse.drop (i + 1)).reverse := fun m => by
    rw [e] at nd
    exact (List.nodup_append.mp nd).2.2 z m z List.mem_cons_self rfl
  have q := wt_at (mg := mgf fs) (r := (ns.reverse.take i).reverse) hx
  rw [← e] at q
  exact q
theorem rsum_lt {ss l : List Str} {fs : List (Str → Int)} (h : ∀ f ∈ fs, Okf ss f) (hl : ∀ z ∈ l, z ∈ ss) (n : l.length ≤ 7) : 0 ≤ rsum l fs ∧ 1 + rsum l fs < 2 ^ 218 := by
  have h1 : ∀ m ∈ l.map (mgf fs), 0 ≤ m ∧ m < 2 ^ 30 := fun m hm => by
    obtain ⟨z, hz, rfl⟩ := List.mem_map.mp hm
    exact ⟨mgf_nn _ _, mgf_lt h (hl z hz)⟩
  have h2 := bl_lt h1
  have h3 : 0 ≤ bl (l.map (mgf fs)) := bl_nonneg fun m hm => (h1 m hm).1
  refine ⟨h3, Int.lt_of_le_of_lt h2 ?_⟩
  rw [List.length_map]
  have e : (2 : Int) ^ (31 * l.length) ≤ 2 ^ 217 := by
    have q : (2 : Nat) ^ (31 * l.length) ≤ 2 ^ 217 := Nat.pow_le_pow_right (by decide) (by omega)
    exact_mod_cast q
  have e2 : (2 : Int) ^ 217 < 2 ^ 218 := by decide +kernel
  omega
theorem wt_lt {ss ns : List Str} {fs : List (Str → Int)} (h : ∀ f ∈ fs, Okf ss f) (hp : ss.Perm ns) (n : ns.length ≤ 7) (z : Str) : 1 ≤ wt (mgf fs) ns z ∧ wt (mgf fs) ns z < 2 ^ 218 := by
  have q := rsum_lt (l := ns.drop (ns.idxOf z + 1)) h (fun y hy => hp.mem_iff.mpr (List.mem_of_mem_drop hy)) (by rw [List.length_drop]; omega)
  unfold rsum at q
  unfold wt
  omega
/-- the weights of names, in the sorted names' order -/
def wts (ns : List Str) (fs : List (Str → Int)) : List Int := (srt ns).map (wt (mgf fs) ns)
theorem idx_nd {ss : List Str} (nd : ss.Nodup) {z : Str} (h : z ∈ ss) : ∃ j, ss[j]? = some z ∧ j < ss.length ∧ ∀ m, m < j → ss[m]? ≠ some z := by
  obtain ⟨j, hj, ej⟩ := List.mem_iff_getElem.mp h
  refine ⟨j, by rw [List.getElem?_eq_getElem hj, ej], hj, fun m hm e => ?_⟩
  have q := L2.nd_ix nd e (by rw [List.getElem?_eq_getElem hj, ej])
  omega
theorem val_at {es : List (Str × V)} (nd : (es.map (·.1)).Nodup) {z : Str} {v : V} (h : (z, v) ∈ es) : valV (kvsOf es) (Sum.inr z) = some v := by
  induction es with
  | nil => cases h
  | cons p r ih =>
    have nd' := List.nodup_cons.mp nd
    rcases List.mem_cons.mp h with e | h
    · rw [← e]
      exact valV_pos (p := ((Sum.inr z : Key), v)) rfl
    · have hne : ¬ p.1 = z := fun q => nd'.1 (List.mem_map.mpr ⟨(z, v), h, q.symm⟩)
      show valV (((Sum.inr p.1 : Key), p.2) :: kvsOf r) (Sum.inr z) = some v
      rw [valV_neg (p := ((Sum.inr p.1 : Key), p.2)) (fun q => hne (Sum.inr.inj q))]
      exact ih nd'.2 h
theorem Out.any {Ci Ct : Addr} {E : XK} {H : Hp} {q q' : Hp → Prop} {x : Flt} (h : Out Ci Ct E H q (some x)) : Out Ci Ct E H q' (some x) := by
  cases x with
  | «at» i => exact h
  | many => exact h
section
variable {P : Program} {w : World} {K : PySem.W.Frag} {mg : Str → Option Value} {base : Heap} {f f1 f2 f3 f4 f5 fN fD fB C Cr Ci Ct Co fI : Addr} {fd fd1 fd2 fd3 fd4 fd5 : FuncData}
abbrev nOw : List Str := ["order", "vectors", "weights", "below", "name", "at", "vector"]
theorem scOw : FnScope nOw ["order", "vectors"] (defScope (top 48)) := ⟨rfl, rfl, rfl, by decide +kernel, rfl, by decide +kernel, by decide +kernel⟩
def spOw (K : PySem.W.Frag) (Co Ci Ct : Addr) : Sp := fun vs H Q E => ∃ (vo vv : V) (ns : List Str), vs = [vo, vv] ∧ OrderAt K Co H vo ns ∧ AreNs ns ∧ 1 ≤ ns.length ∧
  ((∃ g x, GivAt K H vv g ∧ g.sm ∧ fault ns.length g = some x ∧ Out Ci Ct E H (fun _ => False) (some x)) ∨
   (∃ fs, VecsAt K H (srt ns) vv fs ∧ fs.length ≤ 12 ∧ (∀ f ∈ fs, Okf (srt ns) f) ∧ ∀ (H' : Hp) (t : Addr), L2.Same H H' → H' t = some (.tup ((wts ns fs).map V.int)) → Q (.ref t) H'))
theorem c_oweights (B : Blt mg) (G : OrdC K mg Co fI fN fD fB) (Fn : FnOk P w K mg base (L2.CX P w) 1 fN fd1 ["self"] (spNa K Co) ∧ Binds K fd1 ["self"] [])
    (Ck : CalW P w K mg base 3 "check_vectors" ["vectors", "width"] (spChk K Ci Ct) 1 ["width"] (fun us ws => us ++ ws) (fun us ws => us ++ ws) f2 fd2)
    (D : DefAt K mg "order_weights" (top 48) f fd) : Cal P w K mg base 4 "order_weights" ["order", "vectors"] (spOw K Co Ci Ct) f fd := by
  refine D.calX scOw (fun _ _ _ _ _ _ us hl => match us, hl with | [_, _], _ => rfl) (fun vs H Q E h => ?_) (fun cdv A outer s H vs Q E hr h => ?_)
  · obtain ⟨vo, vv, ns, rfl, _⟩ := h
    rfl
  · obtain ⟨vo, vv, ns, rfl, ho, hn, h1, h⟩ := h
    have tk : Takes (cxOf (L2.CX P w) P w K mg base nOw "order_weights" (defScope (top 48)) f cdv A outer s H E) (fun cls d _ H' => E cls d H') := takes_of rfl rfl rfl rfl
    have ow : PassesOwn (model P w) (cxOf (L2.CX P w) P w K mg base nOw "order_weights" (defScope (top 48)) f cdv A outer s H E).A (cxOf (L2.CX P w) P w K mg base nOw "order_weights" (defScope (top 48)) f cdv A outer s H E).env (cxOf (L2.CX P w) P w K mg base nOw "order_weights" (defScope (top 48)) f cdv A outer s H E).xe := passes_of (X := cxOf (L2.CX P w) P w K mg base nOw "order_weights" (defScope (top 48)) f cdv A outer s H E) rfl
    have hr1 : Room 1 (A.deeper (envOfC "order_weights" (defScope (top 48)) s.heap.objs.size f cdv)) := hr.mono (by omega)
    refine ⟨_, pss_cons (ps_expr (pe_callN (E := E) Ck.ok hr (by rfl) Ck.gl Ck.kp Ck.kb (passes_call tk fun _ _ _ _ h => h) (pa_cons (pv 1) pa_nil) (pk_cons (pe_callB call_len_seq (by rfl) B.len (by decide +kernel) (pa_cons (pe_fld (pv 0) (by rfl)) pa_nil)) pk_nil)))
      (pss_cons (ps_set (i := 2) scOw.nd rfl (Or.inr rfl) pe_dnewK)
      (pss_cons (ps_set (i := 3) scOw.nd rfl (Or.inl rfl) pe_int)
      (pss_cons (ps_for ow rfl (pi_list (pe_revL (pe_meth0 (E := E0) (pl := _) (pv 0) G.cl G.mN Fn.1 hr1 Fn.2 .nil passL))) (pg_name (i := 4) scOw.nd rfl (Or.inl rfl))
        (pss_cons (ps_set (i := 5) scOw.nd rfl (Or.inr rfl) (pe_bmT PySem.F.slot_tuple_index PySem.F.type_tuple_index mt_tup_index (pe_fld (pv 0) (by rfl)) (pa_cons (pv 4) pa_nil)))
        (pss_cons (ps_dput (hu1 hr) (pv 2) (pv 4) (pe_op op_add pe_int (pv 3)) (by rfl))
        (pss_one (ps_aug (i := 3) scOw.nd rfl (Or.inl rfl) (pe_op op_mulW (pe_dget (hu1 hr) (pv 2) (pv 4) (fun _ _ => rfl)) (pe_callBK (cr_maxD rfl hr.units) (by rfl) B.max (by decide +kernel) (pa_cons
            (pe_lc (own := [("vector", 6)]) (g := gName 6) (tt := tYes) rfl scOw.nd (pi_seq (pv 1)) (blkOk_by (N := nOw) (own := [("vector", 6)]) (sc := defScope (top 48)) (by decide +kernel)) (fun _ _ _ _ _ => pg_name (i := 6) scOw.nd rfl (Or.inl rfl)) (fun _ _ _ _ _ => pts_nil)
              (fun _ _ _ _ _ => pe_callB call_abs (by rfl) B.abs (by decide +kernel) (pa_cons (pe_ix (r := rIxT K) ix_tup (pv 6) (pv 5) (fun _ _ => rfl)) pa_nil))) pa_nil) (pk_cons pe_int pk_nil))) ip_add)))))
      (pss_one (ps_ret (pe_callTy call_tuple_of (by rfl) B.tuple (by decide +kernel) (pa_cons
        (pe_lc (own := [("name", 4)]) (g := gName 4) (tt := tYes) rfl scOw.nd (pi_tup (pe_fld (pv 0) (by rfl))) (blkOk_by (N := nOw) (own := [("name", 4)]) (sc := defScope (top 48)) (by decide +kernel)) (fun _ _ _ _ _ => pg_name (i := 4) scOw.nd rfl (Or.inl rfl)) (fun _ _ _ _ _ => pts_nil)
          (fun _ _ _ _ _ => pe_dget (hu1 hr) (pv 2) (pv 4) (fun _ _ => rfl))) pa_nil))))))), ?_⟩
    have ho0 := ho
    obtain ⟨o, dx, fl, k, p, r, rfl, g1, g2, g3, g4, g5, g6, g7, g8, g9, g10⟩ := ho
    have l7 := hn.len
    have lss : (srt ns).length = ns.length := srt_len ns
    refine ⟨vv, rfl, _, rfl, o, Co, dx, fl, _, rfl, g1, G.cl, G.n3, g4, r, _, rfl, .inr g10.sq, rfl, rfl, ?_⟩
    rw [List.length_map, lss]
    rcases h with ⟨g, x, hg, hsm, hf, hx⟩ | ⟨fs, hv, hfl, hfs, q⟩
    · refine ⟨vv, ns.length, g, rfl, hg, hsm, ⟨h1, l7⟩, ?_⟩
      rw [hf]
      exact hx.any
    · refine ⟨vv, ns.length, _, rfl, giv_at hv, giv_sm (by omega) hfl, ⟨h1, l7⟩, ?_⟩
      rw [← lss, giv_ok hfl hfs]
      intro H1 s1 d nd
      have s2 := s1.trans (same_new (o := .dK []) nd)
      have nd0 : H d = none := s1.free nd
      refine ⟨_, rfl, o, dx, fl, rfl, s2 _ _ g1, g5, ?_⟩
      refine ⟨.ref o, ns, rfl, ho0.same s2, l7, fun H3 p3 s3 np3 e3 => ?_⟩
      refine ⟨p3, _, rfl, SqL.of e3, fun q3 nq3 => ⟨q3, rfl, ⟨_, SqL.of upd_same⟩, ?_⟩⟩
      have s4 : L2.Same H3 (upd H3 q3 (.lst (ns.map V.str).reverse)) := same_new nq3
      have s04 := (s2.trans s3).trans s4
      have erev : (ns.map V.str).reverse = ns.reverse.map V.str := List.map_reverse.symm
      obtain ⟨a, vs, rfl, ha, hp⟩ := hv
      refine forI (srcL q3 (ns.reverse.map V.str)) (fun i σ H' => (∃ y z u, σ = [some (.ref o), some (.ref a), some (.ref d), some (.int (rsum (ns.reverse.take i).reverse fs)), y, z, u]) ∧ L2.Same H H' ∧ H' q3 = some (.lst (ns.reverse.map V.str)) ∧ H' d = some (.dK (kvsOf ((ns.reverse.take i).map fun z => (z, V.int (wt (mgf fs) ns z))))))
        ⟨⟨none, none, none, rfl⟩, s04, by rw [upd_same, erev], s4 _ _ (s3 _ _ upd_same)⟩ (fun i σ H' _ hP => SqL.of hP.2.2.1) (fun i y σ H5 H6 hi hP s56 hR => ?_) (fun σ H5 hP => ?_)
      · obtain ⟨⟨y0, z0, u0, rfl⟩, s5, eq5, ed5⟩ := hP
        obtain ⟨z, hz, rfl⟩ := map_at hR
        have s6 := s5.trans s56
        have eq6 := s56 _ _ eq5
        have ed6 := s56 _ _ ed5
        have hil : i < ns.reverse.length := by rw [List.length_map] at hi; exact hi
        have hzn : z ∈ ns := List.mem_reverse.mp (List.mem_of_getElem? hz)
        have hzs : z ∈ srt ns := srt_mem.mpr hzn
        have ndr : ns.reverse.Nodup := (List.reverse_perm ns).nodup_iff.mpr hn.nd
        obtain ⟨j, hj, hjl, hjm⟩ := idx_nd (srt_nd hn.nd) hzs
        refine ⟨_, rfl, o, Co, dx, fl, _, rfl, s6 _ _ g1, G.cl, G.n3, g4, ⟨r, _, rfl, g10.same s6⟩, _, rfl, r, srt ns, z, j, rfl, rfl, (g10.same s6).sq, hj, hjm, ?_⟩
        have hw : wt (mgf fs) ns z = 1 + rsum (ns.reverse.take i).reverse fs := wt_rev hn.nd hz
        have hnot : z ∉ ns.reverse.take i := fun hm => by
          obtain ⟨j2, hj2, ej⟩ := List.mem_iff_getElem.mp hm
          rw [List.length_take] at hj2
          rw [List.getElem_take] at ej
          have q9 := L2.nd_ix ndr (i := j2) (j := i) (x := z) (by rw [List.getElem?_eq_getElem (by omega), ej]) hz
          omega
        have efst : ((ns.reverse.take i).map fun z => (z, V.int (wt (mgf fs) ns z))).map (·.1) = ns.reverse.take i := by
          rw [List.map_map]
          exact List.map_id'' (fun _ => rfl) _
        have eput : putK (kvsOf ((ns.reverse.take i).map fun z => (z, V.int (wt (mgf fs) ns z)))) (Sum.inr z) (V.int (1 + rsum (ns.reverse.take i).reverse fs)) = kvsOf ((ns.reverse.take (i + 1)).map fun z => (z, V.int (wt (mgf fs) ns z))) := by
          rw [← hw, take_snoc hz, List.map_append]
          exact kvs_snoc (es := (ns.reverse.take i).map fun z => (z, V.int (wt (mgf fs) ns z))) (e := (z, V.int (wt (mgf fs) ns z))) (by rw [efst]; exact hnot)
        refine ⟨_, rfl, 1, _, rfl, rfl, _, rfl, _, rfl, d, _, rfl, .inl ⟨_, Sum.inr z, ed6, rfl, szl (by unfold kvsOf; rw [List.length_map, List.length_map, List.length_take]; rw [List.length_reverse] at hil; omega), rfl⟩, ?_⟩
        rw [eput]
        have ed7 : (upd H6 d (.dK (kvsOf ((ns.reverse.take (i + 1)).map fun z => (z, V.int (wt (mgf fs) ns z)))))) d = some (.dK (kvsOf ((ns.reverse.take (i + 1)).map fun z => (z, V.int (wt (mgf fs) ns z))))) := upd_same
        have s7 : L2.Same H (upd H6 d (.dK (kvsOf ((ns.reverse.take (i + 1)).map fun z => (z, V.int (wt (mgf fs) ns z)))))) := same_put s6 nd0
        have nq : q3 ≠ d := fun z9 => by
          rw [z9, ed6] at eq6
          cases eq6
        have eq7 : (upd H6 d (.dK (kvsOf ((ns.reverse.take (i + 1)).map fun z => (z, V.int (wt (mgf fs) ns z)))))) q3 = some (.lst (ns.reverse.map V.str)) := by
          rw [upd_ne nq]
          exact eq6
        generalize eH7 : upd H6 d (.dK (kvsOf ((ns.reverse.take (i + 1)).map fun z => (z, V.int (wt (mgf fs) ns z))))) = H7 at ed7 s7 eq7 ⊢
        have eval : valV (kvsOf ((ns.reverse.take (i + 1)).map fun z => (z, V.int (wt (mgf fs) ns z)))) (Sum.inr z) = some (V.int (wt (mgf fs) ns z)) := by
          refine val_at ?_ (List.mem_map.mpr ⟨z, ?_, rfl⟩)
          · rw [List.map_map]
            have e9 : ((fun x : Str × V => x.1) ∘ fun z => (z, V.int (wt (mgf fs) ns z))) = id := rfl
            rw [e9, List.map_id]
            exact List.Nodup.sublist (List.take_sublist _ _) ndr
          · rw [take_snoc hz]
            simp
        refine ⟨_, rfl, _, rfl, _, rfl, d, _, rfl, .inl ⟨_, Sum.inr z, .inl ed7, rfl, eval.symm⟩, ?_⟩
        have hvl : vs.length = fs.length := Paired.length hp
        refine seq_var rfl (ha.same s7) fun J Kp hK S => ?_
        refine lcV S (by omega) (fs.map fun f => V.int (ab (f z))) (by rw [List.length_map, hvl]) (fun H' sm => hK H' sm) (fun i2 x2 y2 H8 hi2 hR2 hy2 sm Y hY => ?_) (fun Dl H8 hD sm eD => ?_)
        · obtain ⟨g, hg, rfl⟩ := map_at hy2
          obtain ⟨g', hg', b, rfl, hb⟩ := paired_get hp hR2
          rw [hg] at hg'
          cases hg'
          refine ⟨rfl, _, rfl, _, rfl, b, _, (j : Int), V.int (g z), rfl, rfl, Kb.Same.tup (s7.trans sm) hb, atI_nat (by rw [List.getElem?_map, List.getElem?_map, hj]; rfl), _, rfl, hY _ (L2.Same.refl _)⟩
        · have em : mx (fs.map fun f => ab (f z)) = mgf fs z := rfl
          refine ⟨Dl, fs.map fun f => ab (f z), rfl, rfl, SqL.of (by rw [eD, List.map_map]; rfl), fun n hn2 => ?_, ?_⟩
          · obtain ⟨g, _, rfl⟩ := List.mem_map.mp hn2
            exact ab_nn _
          rw [em]
          have hwl := wt_lt hfs (srt_perm ns) l7 z
          have hml := mgf_lt hfs hzs
          have hmn := mgf_nn fs z
          refine ⟨_, _, rfl, rfl, wide_mul (a := 218) (b := 30) (by omega) (by omega) (by decide) (by decide) (by decide), ⟨_, _, rfl, rfl, ⟨⟨some (.str z), some (.int (j : Nat)), u0, ?_⟩, s7.trans sm, sm _ _ eq7, sm _ _ ed7⟩⟩⟩
          have er : rsum (ns.reverse.take (i + 1)).reverse fs = rsum (ns.reverse.take i).reverse fs + wt (mgf fs) ns z * mgf fs z := by
            rw [hw, take_snoc hz, List.reverse_append]
            rfl
          rw [er]
          rfl
      · obtain ⟨⟨y0, z0, u0, rfl⟩, s5, eq5, ed5⟩ := hP
        rw [List.length_map, List.take_length] at ed5
        refine ⟨_, rfl, o, Co, dx, fl, _, rfl, s5 _ _ g1, G.cl, G.n3, g4, r, rfl, ⟨_, (g10.same s5).sq⟩, ?_⟩
        refine lcV (srcT r ((srt ns).map V.str)) (by rw [List.length_map, lss]; omega) ((wts ns fs).map V.int) (by unfold wts; simp) (fun H' sm => (g10.same (s5.trans sm)).sq) (fun i2 x2 y2 H8 hi2 hR2 hy2 sm Y hY => ?_) (fun Dl H8 hD sm eD => ?_)
        · obtain ⟨z, hz, rfl⟩ := map_at hR2
          obtain ⟨wz, hwz, rfl⟩ := map_at hy2
          have hwz2 : wz = wt (mgf fs) ns z := by
            unfold wts at hwz
            rw [List.getElem?_map, hz] at hwz
            exact (Option.some.inj hwz).symm
          subst hwz2
          have hzn : z ∈ ns.reverse := List.mem_reverse.mpr (srt_mem.mp (List.mem_of_getElem? hz))
          have eval : valV (kvsOf (ns.reverse.map fun z => (z, V.int (wt (mgf fs) ns z)))) (Sum.inr z) = some (V.int (wt (mgf fs) ns z)) := by
            refine val_at ?_ (List.mem_map.mpr ⟨z, hzn, rfl⟩)
            rw [List.map_map]
            have e9 : ((fun x : Str × V => x.1) ∘ fun z => (z, V.int (wt (mgf fs) ns z))) = id := rfl
            rw [e9, List.map_id]
            exact (List.reverse_perm ns).nodup_iff.mpr hn.nd
          exact ⟨rfl, _, rfl, _, rfl, d, _, rfl, .inl ⟨_, Sum.inr z, .inl (sm _ _ ed5), rfl, eval.symm⟩, hY _ (L2.Same.refl _)⟩
        · exact ⟨Dl, _, rfl, .inl ⟨SqL.of eD, fun t nt => q _ t ((s5.trans sm).trans (same_new nt)) upd_same⟩⟩
end
end Kb
/-! row_of_vector, vector_book. -/
namespace Kb
open PySem PySem.Spec PyProof.Rows L2
/-- a comprehension that keeps some of its turns -/
theorem lcF {J : It} {n : Nat} {Kp : Hp → Prop} {R : Nat → V → Hp → Prop} {g : TG} {tt : TT} {te : TE} {vs : List Nat} {σ : L2.St} {H1 : Hp} {Q : Addr → Hp → Prop} (S : Src J n Kp R) (hn : n ≤ 1000) (ks : List (Option V)) (hl : ks.length = n) (hK : ∀ H, L2.Same H1 H → Kp H)
    (step : ∀ i x k H, i < n → R i x H → ks[i]? = some k → L2.Same H1 H → ∀ (Y : VK) (Z : Hp → Prop), (∀ y, k = some y → ∀ H4, L2.Same H H4 → Y y H4) → (k = none → ∀ H4, L2.Same H H4 → Z H4) →
      g x (wipe σ vs) H fun σ2 H2 => wipe σ2 vs = wipe σ vs ∧ tt σ2 H2 fun b H3 => if b = true then te σ2 H3 Y else Z H3)
    (hq : ∀ D H', H1 D = none → L2.Same H1 H' → H' D = some (.lst (ks.filterMap id)) → Q D H') :
    ∀ D, H1 D = none → ∃ W : Nat → Nat → Hp → Prop, (∃ m, W 0 m (upd H1 D (.lst []))) ∧ ∀ i m H, W i m H →
      (J.stop i H ∧ Q D H) ∨ (J.go i H ∧ ∃ Nx : Hp → Prop, (∀ H', Nx H' → ∃ m', m' < m ∧ W (i + 1) m' H') ∧ ∀ x H', J.yld i H x H' → g x (wipe σ vs) H' fun σ2 H2 => wipe σ2 vs = wipe σ vs ∧ tt σ2 H2 fun b H3 =>
        if b = true then te σ2 H3 fun y H4 => ∃ acc, H4 D = some (.lst acc) ∧ acc.length < sizeLine ∧ Nx (upd H4 D (.lst (acc ++ [y]))) else Nx H3) := by
  refine lcI S hn (fun i acc _ => acc = (ks.take i).filterMap id) (fun _ _ _ _ _ h => h) rfl hK (fun i x acc H hi hR sm hI Y Z hY hZ => ?_) (fun D acc H' hD sm eD hI => hq D H' hD sm ?_)
  · have e : ks[i]? = some ks[i] := List.getElem?_eq_getElem (by omega)
    refine step i x ks[i] H hi hR e sm Y Z (fun y ey H4 s4 => hY _ H4 s4 ?_) (fun en H4 s4 => hZ H4 s4 ?_)
    · rw [hI, take_snoc e, List.filterMap_append, ey]
      rfl
    · rw [hI, take_snoc e, List.filterMap_append, en]
      exact (List.append_nil _).symm
  · rw [eD, hI, ← hl, List.take_length]
def posN (ss : List Str) (f : Str → Int) : List Str := ss.filter fun z => decide (0 < f z)
def negN (ss : List Str) (f : Str → Int) : List Str := ss.filter fun z => decide (f z < 0)
theorem kept {p : Str → Bool} : ∀ {ss : List Str}, (ss.map fun z => if p z = true then some (V.str z) else none).filterMap id = (ss.filter p).map V.str
  | [] => rfl
  | z :: r => by
    have ih := kept (p := p) (ss := r)
    by_cases h : p z = true
    · simp only [List.map_cons, List.filterMap_cons, List.filter_cons, h, if_true, id]
      rw [ih]
    · simp only [List.map_cons, List.filterMap_cons, List.filter_cons, h, id]
      exact ih
theorem pos_ns {ns : List Str} (h : AreNs ns) (f : Str → Int) : AreNs (posN (srt ns) f) ∧ AreNs (negN (srt ns) f) := by
  have a : ∀ p : Str → Bool, AreNs ((srt ns).filter p) := fun p => ⟨fun z hz => h.nm z (srt_mem.mp (List.mem_filter.mp hz).1), List.Nodup.sublist List.filter_sublist (srt_nd h.nd), by
    have q := List.length_filter_le p (srt ns)
    have q2 := srt_len ns
    have := h.len
    omega⟩
  exact ⟨a _, a _⟩
section
variable {P : Program} {w : World} {K : PySem.W.Frag} {mg : Str → Option Value} {base : Heap} {f f1 f2 f3 f4 f5 fN fD fB fR fG C Cr Ci Ct Co fI fI2 : Addr} {fd fd1 fd2 fd3 fd4 fd5 : FuncData}
/-! ### row_of_vector -/
abbrev nRv : List Str := ["reasons", "vector", "group", "pro", "con", "reason", "number"]
theorem scRv : FnScope nRv ["reasons", "vector"] (defScope (top 46)) := ⟨rfl, rfl, rfl, by decide +kernel, rfl, by decide +kernel, by decide +kernel⟩
def spRv (K : PySem.W.Frag) (Cr : Addr) : Sp := fun vs H Q _ => ∃ (a : Addr) (v : V) (ns : List Str) (f : Str → Int), vs = [.ref a, v] ∧ SqA K H a (ns.map V.str) ∧ AreNs ns ∧ 1 ≤ ns.length ∧ VecAt K H (srt ns) v f ∧ Okf (srt ns) f ∧
  ∀ (H' : Hp) (u : V), L2.Same H H' → RowAt K Cr H' u (posN (srt ns) f) (negN (srt ns) f) → Q u H'
theorem c_rowof {dvs : List V} {kws : List (Str × V)} (B : Blt mg) (G : BookC K mg C fI fR fG) (FB : FnR P w K mg base (L2.CX P w) 4 fI (spBi K C)) (R : RowC K mg Cr fI2) (FR : FnOk P w K mg base (L2.CX P w) 4 fI2 fd1 ["self", "pro", "con"] (spRi K Cr)) (bR : Binds K fd1 ["self", "pro", "con"] [])
    (Vc : Cal P w K mg base 2 "is_vector" ["value", "width"] (spVec K) f2 fd2) (D : DefAt K mg "row_of_vector" (top 46) f fd) : Cal P w K mg base 6 "row_of_vector" ["reasons", "vector"] (spRv K Cr) f fd := by
  refine D.cal scRv (fun _ _ _ _ _ _ us hl => match us, hl with | [_, _], _ => rfl) (fun vs H Q E h => ?_) (fun cdv A outer s H vs Q E hr h => ?_)
  · obtain ⟨a, v, ns, f, rfl, _⟩ := h
    rfl
  · obtain ⟨a, v, ns, f, rfl, ha, hn, h1, hv, hf, q⟩ := h
    have hr2 : Room 2 (A.deeper (envOfC "row_of_vector" (defScope (top 46)) s.heap.objs.size f2 cdv)) := ⟨hr.hd, by have := hr.dp; exact Nat.lt_of_le_of_lt (Nat.add_le_add_right (Nat.add_le_add_left (by decide) _) _) this, by have := hr.un; exact Nat.lt_of_le_of_lt (Nat.add_le_add_right (Nat.add_le_add_left (by decide) _) _) this⟩
    refine ⟨_, pss_cons (ps_set (i := 2) scRv.nd rfl (Or.inl rfl) (pe_fld (StX.pe_makeR G.made FB hr (by rfl) G.gl passL (pa_cons (pv 0) pa_nil)) (by rfl)))
      (pss_cons (ps_if (pt_not (pt_val (pe_cal Vc (hr.mono (by omega)) (by rfl) (pa_cons (pv 1) (pa_cons (pe_callB call_len_seq (by rfl) B.len (by decide +kernel) (pa_cons (pv 2) pa_nil)) pa_nil))))) pss_never pss_nil)
      (pss_cons (ps_setLc (i := 3) (own := [("reason", 5), ("number", 6)]) (g := gTup K 2 (gCons (gName 5) (gCons (gName 6) gNil))) (tt := tTest (tOp (rI0 fun i j => .bl (decide (j < i))) (tVar 6) (tC (.int 0)))) rfl scRv.nd rfl rfl (sw_true rfl rfl rfl (by decide +kernel)) (RZ.pi_zipA (by rfl) B.zip (pa_cons (pv 2) (pa_cons (pv 1) pa_nil))) (blkOk_by (N := nRv) (own := [("reason", 5), ("number", 6)]) (sc := defScope (top 46)) (by decide +kernel))
          (fun _ _ _ _ _ => pg_tup rfl (pgs_cons (pg_name (i := 5) scRv.nd rfl (Or.inl rfl)) (pgs_cons (pg_name (i := 6) scRv.nd rfl (Or.inl rfl)) pgs_nil)) (by rfl)) (fun _ _ _ _ _ => pts_one (pt_cmpR op_gt (pv 6) pe_int (by rfl))) (fun _ _ _ _ _ => pv 5))
      (pss_cons (ps_setLc (i := 4) (own := [("reason", 5), ("number", 6)]) (g := gTup K 2 (gCons (gName 5) (gCons (gName 6) gNil))) (tt := tTest (tOp (rI0 fun i j => .bl (decide (i < j))) (tVar 6) (tC (.int 0)))) rfl scRv.nd rfl rfl (sw_true rfl rfl rfl (by decide +kernel)) (RZ.pi_zipA (by rfl) B.zip (pa_cons (pv 2) (pa_cons (pv 1) pa_nil))) (blkOk_by (N := nRv) (own := [("reason", 5), ("number", 6)]) (sc := defScope (top 46)) (by decide +kernel))
          (fun _ _ _ _ _ => pg_tup rfl (pgs_cons (pg_name (i := 5) scRv.nd rfl (Or.inl rfl)) (pgs_cons (pg_name (i := 6) scRv.nd rfl (Or.inl rfl)) pgs_nil)) (by rfl)) (fun _ _ _ _ _ => pts_one (pt_cmpR op_lt (pv 6) pe_int (by rfl))) (fun _ _ _ _ _ => pv 5))
      (pss_one (ps_ret (pe_make (E := E0) R.made FR hr (by rfl) R.gl bR .nil passL (pa_cons (pv 3) (pa_cons (pv 4) pa_nil)))))))), ?_⟩
    have l7 := hn.len
    have lss : (srt ns).length = ns.length := srt_len ns
    refine ⟨_, rfl, fun x dx nx ndx hne => ?_⟩
    have e1 : L2.Same H (upd (upd H dx (.own x)) x (.ins C dx [])) := fun b o e => by
      rw [upd_ne (ne_of_none e nx), upd_ne (ne_of_none e ndx)]
      exact e
    refine ⟨x, dx, a, ns, rfl, upd_same, ha.same e1, hn, h1, fun H2 hb bk => ⟨rfl, ?_⟩⟩
    have s2 := But.made nx ndx hb
    obtain ⟨b, dx', fs, r, d, eb, g1, g2, g3, g4, g5, g6, g7, g8⟩ := bk
    cases eb
    refine ⟨x, C, dx', fs, _, rfl, g1, G.cl, G.n1, g2, ?_⟩
    have hv2 := hv.same s2
    refine ⟨_, rfl, _, rfl, r, _, rfl, .inr g7, ?_⟩
    rw [List.length_map]
    refine ⟨v, (srt ns).length, itmOf (srt ns) f, rfl, itm_at hv2, ?_, fun H3 s3 => ⟨_, rfl, ?_⟩⟩
    · show ((srt ns).map fun z => Cel.i (f z)).length ≤ 100
      rw [List.length_map]
      omega
    rw [itm_ok hf]
    refine iteF ?_
    have s03 := s2.trans s3
    obtain ⟨va, rfl, hva⟩ := hv.same s03
    have hr7 := Kb.Same.tup s3 g7
    have hlz : ((srt ns).map V.str).length = (((srt ns).map f).map V.int).length := by simp
    have hl1 : ((srt ns).map V.str).length ≤ 1000 := by rw [List.length_map]; omega
    refine ⟨_, rfl, _, rfl, r, va, _, _, rfl, .inr ⟨hr7, hva, ?_⟩⟩
    refine lcF (srcZT r va _ _ hlz) hl1 ((srt ns).map fun z => if decide (0 < f z) = true then some (V.str z) else none) (by simp) (fun H' sm => ⟨Kb.Same.tup sm hr7, Kb.Same.tup sm hva⟩) (fun i y k H4 hi hR hk sm Y Z hY hZ => ?_) (fun Dl H4 hD sm eD => ?_)
    · obtain ⟨p, q1, hp, hq1, T, rfl, eT⟩ := hR
      obtain ⟨z, hz, rfl⟩ := map_at hp
      obtain ⟨m, hm, rfl⟩ := map_at hq1
      obtain ⟨z2, hz2, rfl⟩ := map_at hm
      rw [hz] at hz2
      cases hz2
      obtain ⟨z3, hz3, rfl⟩ := map_at hk
      rw [hz] at hz3
      cases hz3
      refine ⟨T, _, rfl, SqT.of eT, rfl, _, _, rfl, _, _, rfl, rfl, rfl, _, rfl, _, _, rfl, rfl, _, rfl, ?_⟩
      by_cases hc : 0 < f z
      · rw [decide_eq_true hc]
        exact iteT ⟨_, rfl, hY _ (by simp [hc]) H4 (L2.Same.refl _)⟩
      · rw [decide_eq_false hc]
        exact iteF (hZ (by simp [hc]) H4 (L2.Same.refl _))
    rw [kept] at eD
    have s04 := s03.trans sm
    have hr8 := Kb.Same.tup sm hr7
    have hva8 := Kb.Same.tup sm hva
    refine ⟨_, rfl, _, rfl, r, va, _, _, rfl, .inr ⟨hr8, hva8, ?_⟩⟩
    refine lcF (srcZT r va _ _ hlz) hl1 ((srt ns).map fun z => if decide (f z < 0) = true then some (V.str z) else none) (by simp) (fun H' sm => ⟨Kb.Same.tup sm hr8, Kb.Same.tup sm hva8⟩) (fun i y k H5 hi hR hk sm Y Z hY hZ => ?_) (fun Dl2 H5 hD2 sm2 eD2 => ?_)
    · obtain ⟨p, q1, hp, hq1, T, rfl, eT⟩ := hR
      obtain ⟨z, hz, rfl⟩ := map_at hp
      obtain ⟨m, hm, rfl⟩ := map_at hq1
      obtain ⟨z2, hz2, rfl⟩ := map_at hm
      rw [hz] at hz2
      cases hz2
      obtain ⟨z3, hz3, rfl⟩ := map_at hk
      rw [hz] at hz3
      cases hz3
      refine ⟨T, _, rfl, SqT.of eT, rfl, _, _, rfl, _, _, rfl, rfl, rfl, _, rfl, _, _, rfl, rfl, _, rfl, ?_⟩
      by_cases hc : f z < 0
      · rw [decide_eq_true hc]
        exact iteT ⟨_, rfl, hY _ (by simp [hc]) H5 (L2.Same.refl _)⟩
      · rw [decide_eq_false hc]
        exact iteF (hZ (by simp [hc]) H5 (L2.Same.refl _))
    rw [kept] at eD2
    have s05 := s04.trans sm2
    refine ⟨_, rfl, _, rfl, fun x2 dx2 nx2 ndx2 hne2 => ?_⟩
    have e5 : L2.Same H5 (upd (upd H5 dx2 (.own x2)) x2 (.ins Cr dx2 [])) := fun b o e => by
      rw [upd_ne (ne_of_none e nx2), upd_ne (ne_of_none e ndx2)]
      exact e
    have hpn := pos_ns hn f
    refine ⟨x2, dx2, Dl, Dl2, posN (srt ns) f, negN (srt ns) f, rfl, upd_same, .inl (SqL.of (e5 _ _ (sm2 _ _ eD))), .inl (SqL.of (e5 _ _ eD2)), hpn.1, hpn.2, fun z h1 h2 => ?_, fun H6 hb6 rk => ⟨rfl, ?_⟩⟩
    · have q1 := of_decide_eq_true (List.mem_filter.mp h1).2
      have q2 := of_decide_eq_true (List.mem_filter.mp h2).2
      omega
    · unfold posN negN at rk
      rw [srt_filter, srt_filter] at rk
      exact q H6 _ (s05.trans (But.made nx2 ndx2 hb6)) rk
end
end Kb
/-! vector_book, unborne, fits, is_weights. -/
namespace Kb
open PySem PySem.Spec PyProof.Rows L2
theorem AreNs.srt {ns : List Str} (h : AreNs ns) : AreNs (srt ns) := ⟨fun z hz => h.nm z (srt_mem.mp hz), srt_nd h.nd, by rw [srt_len]; exact h.len⟩
def rowsOf (ss : List Str) (fs : List (Str → Int)) : List (List Str × List Str) := fs.map fun f => (posN ss f, negN ss f)
theorem rows_in {ss : List Str} {fs : List (Str → Int)} : ∀ p ∈ rowsOf ss fs, ∀ z, z ∈ p.1 ++ p.2 → z ∈ ss := fun p hp z hz => by
  obtain ⟨f, _, rfl⟩ := List.mem_map.mp hp
  rcases List.mem_append.mp hz with h | h
  · exact (List.mem_filter.mp h).1
  · exact (List.mem_filter.mp h).1
theorem dp_strs {K : PySem.W.Frag} {H : Hp} : ∀ ns : List Str, DpAll K H (ns.map V.str) (ns.map PyData.str)
  | [] => .nil
  | n :: r => .cons (.str n) (dp_strs r)
theorem nm_ok {z : Str} (h : IsNm z) : PyData.strOk z = true := by
  unfold PyData.strOk
  rw [Array.all_eq_true']
  intro c hc
  have := h.small c (Array.mem_toList_iff.mpr hc)
  exact decide_eq_true (by omega)
theorem lay_strs : ∀ {ns : List Str}, (∀ z ∈ ns, IsNm z) → PyData.canLayAll0 (ns.map PyData.str) = true
  | [], _ => by simp [PyData.canLayAll0]
  | n :: r, h => by
    have ih := lay_strs (ns := r) fun z hz => h z (List.mem_cons_of_mem _ hz)
    have h1 := nm_ok (h n List.mem_cons_self)
    simp [PyData.canLayAll0, PyData.canLay0, ih, h1]
theorem dep_strs : ∀ ns : List Str, PyData.depthAll (ns.map PyData.str) ≤ 1
  | [] => Nat.zero_le _
  | n :: r => Nat.max_le.mpr ⟨by unfold PyData.depth; omega, dep_strs r⟩
theorem shaped_strs {ns : List Str} (h : ∀ z ∈ ns, IsNm z) : SeqAt.shaped (.tuple (ns.map PyData.str)) = true := by
  unfold SeqAt.shaped
  have h1 := lay_strs h
  have h2 := dep_strs ns
  have e : (PyData.tuple (ns.map PyData.str)).canLay0 = PyData.canLayAll0 (ns.map PyData.str) := by simp [PyData.canLay0]
  have e2 : (PyData.tuple (ns.map PyData.str)).depth = PyData.depthAll (ns.map PyData.str) + 1 := by simp [PyData.depth]
  rw [e, e2, h1, decide_eq_true (by omega)]
  rfl
section
variable {P : Program} {w : World} {K : PySem.W.Frag} {mg : Str → Option Value} {base : Heap} {f f1 f2 f3 f4 f5 fN fD fB fR fG C Cr Ci Ct Co fI fI2 : Addr} {fd fd1 fd2 fd3 fd4 fd5 : FuncData}
/-! ### vector_book -/
abbrev nVb : List Str := ["reasons", "vectors", "book", "vector"]
theorem scVb : FnScope nVb ["reasons", "vectors"] (defScope (top 47)) := ⟨rfl, rfl, rfl, by decide +kernel, rfl, by decide +kernel, by decide +kernel⟩
def spVb (K : PySem.W.Frag) (C Cr : Addr) : Sp := fun vs H Q _ => ∃ (a : Addr) (vv : V) (ns : List Str) (fs : List (Str → Int)), vs = [.ref a, vv] ∧ SqA K H a (ns.map V.str) ∧ AreNs ns ∧ 1 ≤ ns.length ∧ VecsAt K H (srt ns) vv fs ∧ fs.length ≤ 12 ∧ (∀ f ∈ fs, Okf (srt ns) f) ∧
  ∀ (H' : Hp) (v' : V) (rvs : List V), L2.Same H H' → rvs.length = fs.length → BookAt K C H' v' (srt ns) (mkd 0 rvs) → RowsAt K Cr H' rvs (rowsOf (srt ns) fs) → Q v' H'
theorem c_vbook {fI3 : Addr} (B : Blt mg) (G : BookC K mg C fI fR fG) (FB : FnR P w K mg base (L2.CX P w) 4 fI (spBi K C)) (Rv : Cal P w K mg base 6 "row_of_vector" ["reasons", "vector"] (spRv K Cr) f1 fd1)
    (Ck : CalW P w K mg base 3 "check_vectors" ["vectors", "width"] (spChk K Ci Ct) 1 ["width"] (fun us ws => us ++ ws) (fun us ws => us ++ ws) f2 fd2) (Gr : FnOk P w K mg base (L2.CX P w) 7 fG fd3 ["self", "rows"] (spGr K C Cr) ∧ Binds K fd3 ["self", "rows"] [])
    (D : DefAt K mg "vector_book" (top 47) f fd) : Cal P w K mg base 8 "vector_book" ["reasons", "vectors"] (spVb K C Cr) f fd := by
  refine D.cal scVb (fun _ _ _ _ _ _ us hl => match us, hl with | [_, _], _ => rfl) (fun vs H Q E h => ?_) (fun cdv A outer s H vs Q E hr h => ?_)
  · obtain ⟨a, vv, ns, fs, rfl, _⟩ := h
    rfl
  · obtain ⟨a, vv, ns, fs, rfl, ha, hn, h1, hv, hfl, hfs, q⟩ := h
    refine ⟨_, pss_cons (ps_set (i := 2) scVb.nd rfl (Or.inr rfl) (StX.pe_makeR G.made FB (hr.mono (by omega)) (by rfl) G.gl passL (pa_cons (pv 0) pa_nil)))
      (pss_cons (ps_expr (pe_callN (E := E0) Ck.ok (hr.mono (by omega)) (by rfl) Ck.gl Ck.kp Ck.kb passL (pa_cons (pv 1) pa_nil) (pk_cons (pe_callB call_len_seq (by rfl) B.len (by decide +kernel) (pa_cons (pe_fld (pv 2) (by rfl)) pa_nil)) pk_nil)))
      (pss_one (ps_ret (pe_meth (E := E0) (pl := _) (pv 2) G.cl G.mG Gr.1 hr Gr.2 .nil passL (pa_cons
        (pe_lc (own := [("vector", 3)]) (g := gName 3) (tt := tYes) (te := tCall (spRv K Cr) [] E0 (tCons (tFld K (tVar 2) "reasons") (tCons (tVar 3) tNil))) rfl scVb.nd (pi_seq (pv 1)) (blkOk_by (N := nVb) (own := [("vector", 3)]) (sc := defScope (top 47)) (by decide +kernel)) (fun _ _ _ _ _ => pg_name (i := 3) scVb.nd rfl (Or.inl rfl)) (fun _ _ _ _ _ => pts_nil)
          (fun _ _ _ _ _ => pe_cal Rv (hr.mono (by omega)) (by rfl) (pa_cons (pe_fld (pv 2) (by rfl)) (pa_cons (pv 3) pa_nil)))) pa_nil))))), ?_⟩
    have l7 := hn.len
    have lss : (srt ns).length = ns.length := srt_len ns
    refine ⟨_, rfl, fun x dx nx ndx hne => ?_⟩
    have e1 : L2.Same H (upd (upd H dx (.own x)) x (.ins C dx [])) := fun b o e => by
      rw [upd_ne (ne_of_none e nx), upd_ne (ne_of_none e ndx)]
      exact e
    refine ⟨x, dx, a, ns, rfl, upd_same, ha.same e1, hn, h1, fun H2 hb bk => ⟨rfl, ?_⟩⟩
    have s2 := But.made nx ndx hb
    have bk0 := bk
    obtain ⟨b, dx', fl, r, d, eb, g1, g2, g3, g4, g5, g6, g7, g8⟩ := bk
    cases eb
    have hv2 := hv.same s2
    refine ⟨_, rfl, _, rfl, x, C, dx', fl, _, rfl, g1, G.cl, G.n1, g2, r, _, rfl, .inr g7, rfl, rfl, ?_⟩
    rw [List.length_map]
    refine ⟨_, (srt ns).length, _, rfl, giv_at hv2, giv_sm (by omega) hfl, ⟨by omega, by omega⟩, ?_⟩
    rw [giv_ok hfl hfs]
    intro H3 s3
    have s03 := s2.trans s3
    refine ⟨_, rfl, x, dx', fl, rfl, s3 _ _ g1, g5, ?_⟩
    obtain ⟨av, vs, rfl, hav, hp⟩ := hv
    have hvl : vs.length = fs.length := Paired.length hp
    refine seq_var rfl (hav.same s03) fun J Kp hK S => ?_
    refine lcI S (by omega) (fun i acc H' => RowsAt K Cr H' acc (rowsOf (srt ns) (fs.take i))) (fun i acc H4 H5 st hI => Paired.mapP hI fun _ _ z => z.sameT st) .nil (fun H' sm => hK H' sm) (fun i y acc H4 hi hR sm hI Y Z hY hZ => ?_) (fun Dl acc H4 hD sm eD hI => ?_)
    · obtain ⟨g, hg, hvec⟩ := paired_get hp hR
      have s04 := s03.trans sm
      refine ⟨rfl, _, rfl, x, C, dx', fl, _, rfl, sm _ _ (s3 _ _ g1), G.cl, G.n1, g2, _, rfl, r, y, srt ns, g, rfl, .inr (Kb.Same.tup (s3.trans sm) g7), hn.srt, by omega, ?_, ?_, fun H5 u s5 hrow => ?_⟩
      · rw [srt_srt]
        exact hvec.same s04
      · rw [srt_srt]
        exact hfs g (List.mem_of_getElem? hg)
      · rw [srt_srt] at hrow
        refine hY u H5 s5 ?_
        unfold rowsOf
        rw [take_snoc hg, List.map_append]
        exact paired_app (RowsAt.same hI s5) (.cons hrow .nil)
    · rw [hvl, List.take_length] at hI
      have s34 := s3.trans sm
      have hal : acc.length = fs.length := by
        have q9 := Paired.length hI
        unfold rowsOf at q9
        rw [List.length_map] at q9
        exact q9
      refine ⟨.ref x, Dl, srt ns, acc, _, rfl, bk0.same s34, hn.srt, by omega, SqL.of eD, hI, rows_in, by omega, fun H5 v' s5 bk5 => ?_⟩
      rw [srt_srt] at bk5
      exact q H5 v' acc ((s03.trans sm).trans s5) hal bk5 (RowsAt.same hI s5)
/-! ### unborne -/
abbrev nUn : List Str := ["book", "order", "mark", "row"]
theorem scUn : FnScope nUn ["book", "order"] (defScope (top 53)) := ⟨rfl, rfl, rfl, by decide +kernel, rfl, by decide +kernel, by decide +kernel⟩
/-- the order bears every row of the book -/
def preUn (K : PySem.W.Frag) (C Co Cr : Addr) : List V → Hp → Prop := fun vs H => ∃ (vb vo : V) (ns : List Str) (es : List (Str × V)) (rcs : List (List Str × List Str)), vs = [vb, vo] ∧ BookAt K C H vb (srt ns) es ∧ OrderAt K Co H vo ns ∧ RowsAt K Cr H (es.map (·.2)) rcs ∧
  (∀ p ∈ rcs, ∀ z, z ∈ p.1 ++ p.2 → z ∈ ns) ∧ (∀ p ∈ rcs, bear ns p.1 p.2 = true) ∧ es.length ≤ 100 ∧ AreNs ns
def spUn (K : PySem.W.Frag) (C Co Cr : Addr) : Sp := fun vs H Q _ => preUn K C Co Cr vs H ∧ ∀ (H' : Hp) (t : Addr), L2.Same H H' → H' t = some (.tup []) → Q (.ref t) H'
theorem c_unborne (G : BookC K mg C fI fR fG) (Go : OrdC K mg Co fI2 fN fD fB) (B : Blt mg) (Re : FnOk P w K mg base (L2.CX P w) 1 fR fd1 ["self"] (spRe K C) ∧ Binds K fd1 ["self"] []) (Be : FnOk P w K mg base (L2.CX P w) 2 fB fd2 ["self", "row"] (spBe K Co Cr) ∧ Binds K fd2 ["self", "row"] [])
    (D : DefAt K mg "unborne" (top 53) f fd) : Cal P w K mg base 3 "unborne" ["book", "order"] (spUn K C Co Cr) f fd := by
  refine D.cal scUn (fun _ _ _ _ _ _ us hl => match us, hl with | [_, _], _ => rfl) (fun vs H Q E h => ?_) (fun cdv A outer s H vs Q E hr h => ?_)
  · obtain ⟨⟨vb, vo, ns, es, rcs, rfl, _⟩, _⟩ := h
    rfl
  · obtain ⟨⟨vb, vo, ns, es, rcs, rfl, hb, ho, hrs, hin, hbe, hel, hns⟩, q⟩ := h
    refine ⟨_, pss_cons (ps_if (pt_cmpR (op_neD hr.units) (pe_fld (pv 1) (by rfl)) (pe_fld (pv 0) (by rfl)) (by rfl)) pss_never pss_nil)
      (pss_one (ps_ret (pe_callTy call_tuple_of (by rfl) B.tuple (by decide +kernel) (pa_cons
        (pe_lc (own := [("mark", 2), ("row", 3)]) (g := gTup K 2 (gCons (gName 2) (gCons (gName 3) gNil))) (tt := tNot (tB (tMeth Co "bears" (spBe K Co Cr) [] E0 (tVar 1) (tCons (tVar 3) tNil)))) rfl scUn.nd (pi_list (pe_meth0 (E := E0) (pl := _) (pv 0) G.cl G.mR Re.1 (hr.mono (by omega)) Re.2 .nil passL)) (blkOk_by (N := nUn) (own := [("mark", 2), ("row", 3)]) (sc := defScope (top 53)) (by decide +kernel))
          (fun _ _ _ _ _ => pg_tup rfl (pgs_cons (pg_name (i := 2) scUn.nd rfl (Or.inl rfl)) (pgs_cons (pg_name (i := 3) scUn.nd rfl (Or.inl rfl)) pgs_nil)) (by rfl)) (fun _ _ _ _ _ => pts_one (pt_not (pt_val (pe_meth (E := E0) (pl := _) (pv 1) Go.cl Go.mB Be.1 hr Be.2 .nil passL (pa_cons (pv 3) pa_nil)))))
          (fun _ _ _ _ _ => pv 2)) pa_nil)))), ?_⟩
    have hnm : ∀ z ∈ srt ns, IsNm z := fun z hz => hns.nm z (srt_mem.mp hz)
    have hb0 := hb
    have ho0 := ho
    obtain ⟨b, dx, fl, r, d, rfl, g1, g2, g3, g4, g5, g6, g7, g8⟩ := hb
    obtain ⟨o, dx2, fo, k, p, ro, rfl, j1, j2, j3, j4, j5, j6, j7, j8, j9, j10⟩ := ho
    refine ⟨_, rfl, o, Co, dx2, fo, _, rfl, j1, Go.cl, Go.n3, j4, _, rfl, b, C, dx, fl, _, rfl, g1, G.cl, G.n1, g2, .tuple ((srt ns).map PyData.str), .tuple ((srt ns).map PyData.str), .tup j10.sq (dp_strs _), .tup g7 (dp_strs _), shaped_strs hnm, shaped_strs hnm, _, rfl, ?_⟩
    rw [SeqAt.eqv_refl _ (SeqAt.canLay_of_shaped (shaped_strs hnm))]
    refine iteF ?_
    refine ⟨_, rfl, b, dx, fl, rfl, g1, g4, ?_⟩
    refine ⟨.ref b, srt ns, es, rfl, hb0, fun H2 p2 ts s2 np2 hne e2 hts => ?_⟩
    refine ⟨p2, rfl, ⟨_, SqL.of e2⟩, ?_⟩
    have htl : ts.length = es.length := Paired.length hts
    refine lcF (srcL p2 (ts.map V.ref)) (by rw [List.length_map]; omega) (ts.map fun _ => none) (by simp) (fun H' sm => SqL.of (sm _ _ e2)) (fun i y kk H3 hi hR hk sm Y Z hY hZ => ?_) (fun Dl H3 hD sm eD => ?_)
    · obtain ⟨t, ht, rfl⟩ := map_at hR
      obtain ⟨t', ht', rfl⟩ := map_at hk
      obtain ⟨e, he, hte⟩ := paired_get hts ht
      have hsnd : (es.map (·.2))[i]? = some e.2 := by rw [List.getElem?_map, he]; rfl
      obtain ⟨pc, hpc, hrow⟩ := paired_get hrs hsnd
      have hpm := List.mem_of_getElem? hpc
      have s03 := s2.trans sm
      refine ⟨t, _, rfl, SqT.of (sm _ _ hte), rfl, _, _, rfl, _, _, rfl, rfl, rfl, _, rfl, o, dx2, fo, rfl, s03 _ _ j1, j7, _, rfl, ?_⟩
      refine ⟨_, _, ns, pc.1, pc.2, rfl, ho0.same s03, hrow.same s03, hin pc hpm, fun H4 s4 => ⟨_, rfl, ?_⟩⟩
      rw [hbe pc hpm]
      exact iteF (hZ rfl H4 s4)
    · have e9 : (ts.map fun _ => (none : Option V)).filterMap id = [] := by
        rw [List.filterMap_eq_nil_iff]
        intro z hz
        obtain ⟨_, _, rfl⟩ := List.mem_map.mp hz
        rfl
      rw [e9] at eD
      exact ⟨Dl, _, rfl, .inl ⟨SqL.of eD, fun t nt => q _ t ((s2.trans sm).trans (same_new nt)) upd_same⟩⟩
/-! ### fits -/
theorem scFi : FnScope ["book", "order"] ["book", "order"] (defScope (top 54)) := ⟨rfl, rfl, rfl, by decide +kernel, rfl, by decide +kernel, by decide +kernel⟩
theorem c_fits (B : Blt mg) (U : Cal P w K mg base 3 "unborne" ["book", "order"] (spUn K C Co Cr) f1 fd1) (D : DefAt K mg "fits" (top 54) f fd) : Cal P w K mg base 4 "fits" ["book", "order"] (spT (preUn K C Co Cr)) f fd := by
  refine D.cal scFi (fun _ _ _ _ _ _ us hl => match us, hl with | [_, _], _ => rfl) (fun vs H Q E h => ?_) (fun cdv A outer s H vs Q E hr h => ?_)
  · obtain ⟨⟨vb, vo, ns, es, rcs, rfl, _⟩, _⟩ := h
    rfl
  · obtain ⟨hp, q⟩ := h
    have hp0 := hp
    obtain ⟨vb, vo, ns, es, rcs, rfl, _⟩ := hp0
    refine ⟨_, pss_one (ps_ret (pe_cmpR op_eq (pe_callB call_len_seq (by rfl) B.len (by decide +kernel) (pa_cons (pe_cal U hr (by rfl) (pa_cons (pv 0) (pa_cons (pv 1) pa_nil))) pa_nil)) pe_int (by rfl))), ?_⟩
    exact ⟨_, rfl, _, rfl, hp, fun H' t s' e' => ⟨t, _, rfl, .inr (SqT.of e'), rfl, q H' s'⟩⟩
end
end Kb
/-! is_weights. -/
namespace Kb
open PySem PySem.Spec PyProof.Rows L2
/-- numbers that bear: not below 0, of known size, their sum along each vector above 0 -/
structure Bears (ss : List Str) (g : Str → Int) (fs : List (Str → Int)) : Prop where
  nn : ∀ z ∈ ss, 0 ≤ g z
  lt : ∀ z ∈ ss, g z < 2 ^ 218
  sum : ∀ f ∈ fs, 0 < (ss.map fun z => f z * g z).sum
theorem mulw {f g : Int} (h1 : ab f < 2 ^ 30) (h2 : 0 ≤ g) (h3 : g < 2 ^ 218) : CMulW f g := by
  have h4 : (f.natAbs : Int) < 2 ^ 30 := by
    have : (f.natAbs : Int) = ab f := by unfold ab; split <;> omega
    omega
  exact wide_mul (a := 30) (b := 218) (by omega) (by omega) (by decide) (by decide) (by decide)
section
variable {P : Program} {w : World} {K : PySem.W.Frag} {mg : Str → Option Value} {base : Heap} {f f1 f2 f3 Ci Ct : Addr} {fd fd1 fd2 fd3 : FuncData}
abbrev nIw : List Str := ["vectors", "value", "width", "vector", "number", "weight"]
theorem scIw : FnScope nIw ["vectors", "value", "width"] (defScope (top 45)) := ⟨rfl, rfl, rfl, by decide +kernel, rfl, by decide +kernel, by decide +kernel⟩
def preIw (K : PySem.W.Frag) : List V → Hp → Prop := fun vs H => ∃ (vv : V) (a : Addr) (ss : List Str) (g : Str → Int) (fs : List (Str → Int)), vs = [vv, .ref a, .int (ss.length : Nat)] ∧ VecsAt K H ss vv fs ∧ fs.length ≤ 12 ∧ (∀ f ∈ fs, Okf ss f) ∧ (1 ≤ ss.length ∧ ss.length ≤ 7) ∧
  SqT K H a ((ss.map g).map V.int) ∧ Bears ss g fs
theorem c_isw (B : Blt mg) (Ck : CalW P w K mg base 3 "check_vectors" ["vectors", "width"] (spChk K Ci Ct) 1 ["width"] (fun us ws => us ++ ws) (fun us ws => us ++ ws) f1 fd1) (Ac : Cal P w K mg base 2 "are_counts" ["value", "many"] (spT (preCo K)) f2 fd2)
    (D : DefAt K mg "is_weights" (top 45) f fd) : CalW P w K mg base 4 "is_weights" ["vectors", "value", "width"] (spT (preIw K)) 2 ["width"] (fun us ws => us ++ ws) (fun us ws => us ++ ws) f fd := by
  refine ⟨D.fn.ok scIw (fun vs H Q E h => ?_) (fun cdv A outer s H vs Q E hr h => ?_), D.fn.kp, D.gl, kbn D.fn (fun kV doc pm an cdv ct us ws l1 l2 => match us, ws, l1, l2 with | [_, _], [_], _, _ => rfl) fun r1 r2 => r1.append r2⟩
  · obtain ⟨⟨vv, a, ss, g, fs, rfl, _⟩, _⟩ := h
    rfl
  · obtain ⟨⟨vv, a, ss, g, fs, rfl, hv, hfl, hfs, hs, ha, hb⟩, q⟩ := h
    refine ⟨_, PSs.nox (pss_cons (ps_expr (pe_callN (E := E0) Ck.ok hr (by rfl) Ck.gl Ck.kp Ck.kb passL (pa_cons (pv 0) pa_nil) (pk_cons (pv 2) pk_nil)))
      (pss_cons (ps_if (pt_not (pt_val (pe_cal Ac (hr.mono (by omega)) (by rfl) (pa_cons (pv 1) (pa_cons (pv 2) pa_nil))))) (pss_one (ps_ret pe_bl)) pss_nil)
      (pss_one (ps_ret (pe_callB (cr_all rfl) (by rfl) B.all (by decide +kernel) (pa_cons
        (pe_lc (own := [("vector", 3)]) (g := gName 3) (tt := tYes) (te := tOp (rI0 fun i j => .bl (decide (j < i))) (tCB (rSum K) (tCons (tLc (RZ.iZipA K (tCons (tVar 3) (tCons (tVar 1) tNil))) (gTup K 2 (gCons (gName 4) (gCons (gName 5) gNil))) tYes (tOp (rI CMulW fun i j => .int (i * j)) (tVar 4) (tVar 5)) [4, 5]) tNil)) (tC (.int 0))) rfl scIw.nd (pi_seq (pv 0)) (blkOk_by (N := nIw) (own := [("vector", 3)]) (sc := defScope (top 45)) (by decide +kernel)) (fun _ _ _ _ _ => pg_name (i := 3) scIw.nd rfl (Or.inl rfl)) (fun _ _ _ _ _ => pts_nil)
          (fun _ _ _ _ _ => pe_cmpR op_gt (pe_callB (cr_sum rfl) (by rfl) B.sum (by decide +kernel) (pa_cons
            (pe_lc (own := [("number", 4), ("weight", 5)]) (g := gTup K 2 (gCons (gName 4) (gCons (gName 5) gNil))) (tt := tYes) rfl scIw.nd (RZ.pi_zipA (by rfl) B.zip (pa_cons (pv 3) (pa_cons (pv 1) pa_nil))) (blkOk_by (N := nIw) (own := [("number", 4), ("weight", 5)]) (sc := relS { kind := .function, names := [(".0", .local), ("vector", .local), ("sum", .globalImplicit), ("zip", .globalImplicit), ("value", .free)], isGenerator := false, isCoroutine := false } (defScope (top 45))) (by decide +kernel))
              (fun _ _ _ _ _ => pg_tup rfl (pgs_cons (pg_name (i := 4) scIw.nd rfl (Or.inl rfl)) (pgs_cons (pg_name (i := 5) scIw.nd rfl (Or.inl rfl)) pgs_nil)) (by rfl)) (fun _ _ _ _ _ => pts_nil) (fun _ _ _ _ _ => pe_op op_mulW (pv 4) (pv 5))) pa_nil)) pe_int (by rfl))) pa_nil)))))), ?_⟩
    refine ⟨vv, rfl, _, rfl, rfl, rfl, ?_⟩
    refine ⟨vv, ss.length, _, rfl, giv_at hv, giv_sm hs.2 hfl, hs, ?_⟩
    rw [giv_ok hfl hfs]
    intro H1 s1
    refine ⟨_, rfl, _, rfl, ⟨a, ss.map g, by rw [List.length_map]; rfl, Kb.Same.tup s1 ha, fun n hn => ?_, by rw [List.length_map]; omega⟩, fun H2 s2 => ⟨_, rfl, iteF ?_⟩⟩
    · obtain ⟨z, hz, rfl⟩ := List.mem_map.mp hn
      exact hb.nn z hz
    have s02 := s1.trans s2
    obtain ⟨av, vs, rfl, hav, hp⟩ := hv
    have hvl : vs.length = fs.length := Paired.length hp
    refine seq_var rfl (hav.same s02) fun J Kp hK S => ?_
    refine lcV S (by omega) ((List.replicate vs.length true).map V.bl) (by simp) (fun H' sm => hK H' sm) (fun i x y H3 hi hR hy sm Y hY => ?_) (fun Dl H3 hD sm eD => ?_)
    · obtain ⟨b, hb2, rfl⟩ := map_at hy
      have eb := rep_at hb2
      subst eb
      obtain ⟨fv, hfv, c, rfl, hc⟩ := paired_get hp hR
      have hfm := List.mem_of_getElem? hfv
      have s03 := s02.trans sm
      have hc3 := Kb.Same.tup s03 hc
      have ha3 := Kb.Same.tup s03 ha
      refine ⟨rfl, _, rfl, _, rfl, c, a, _, _, rfl, .inr ⟨hc3, ha3, ?_⟩⟩
      refine lcV (srcZT c a ((ss.map fv).map V.int) ((ss.map g).map V.int) (by simp)) (by simp; omega) ((ss.map fun z => fv z * g z).map V.int) (by simp) (fun H' sm4 => ⟨Kb.Same.tup sm4 hc3, Kb.Same.tup sm4 ha3⟩) (fun i2 x2 y2 H4 hi2 hR2 hy2 sm4 Y2 hY2 => ?_) (fun Dl2 H4 hD2 sm4 eD2 => ?_)
      · obtain ⟨p, q1, hp1, hq1, T, rfl, eT⟩ := hR2
        obtain ⟨m1, hm1, rfl⟩ := map_at hp1
        obtain ⟨z, hz, rfl⟩ := map_at hm1
        obtain ⟨m2, hm2, rfl⟩ := map_at hq1
        obtain ⟨z2, hz2, rfl⟩ := map_at hm2
        rw [hz] at hz2
        cases hz2
        obtain ⟨m3, hm3, rfl⟩ := map_at hy2
        obtain ⟨z3, hz3, rfl⟩ := map_at hm3
        rw [hz] at hz3
        cases hz3
        have hzs := List.mem_of_getElem? hz
        exact ⟨T, _, rfl, SqT.of eT, rfl, _, _, rfl, _, _, rfl, rfl, rfl, _, rfl, _, rfl, _, _, rfl, rfl, mulw ((hfs fv hfm).lt z hzs) (hb.nn z hzs) (hb.lt z hzs), hY2 _ (L2.Same.refl _)⟩
      · refine ⟨Dl2, _, rfl, SqL.of eD2, _, _, rfl, rfl, ?_⟩
        show Y (.bl (decide (0 < (ss.map fun z => fv z * g z).sum))) H4
        rw [decide_eq_true (hb.sum fv hfm)]
        exact hY H4 sm4
    · refine ⟨Dl, List.replicate vs.length true, rfl, SqL.of eD, ?_⟩
      rw [all_rep]
      exact q H3 (s02.trans sm)
end
end Kb
/-! The law's bag of numbers: what it is, what is drawn. -/
namespace Kb
open PySem PySem.Spec PyProof.Rows L2
/-- the bag at b, its numbers at l -/
def BagAt (b l : Addr) (H : Hp) : Prop := l ≠ b ∧ ∃ (zs : List Int) (p : Nat) (g sd c : Int), H b = some (.lst [.ref l, .int (p : Nat), .int g, .int sd, .int c]) ∧ H l = some (.lst (zs.map V.int)) ∧ 0 ≤ sd ∧ sd < 2147483587
theorem But.trans {x : Addr} {H H1 H2 : Hp} (a : But x H H1) (b : But x H1 H2) : But x H H2 := fun c o n h => b c o n (a c o n h)
theorem But.of {x : Addr} {H H1 : Hp} (s : L2.Same H H1) : But x H H1 := fun c o _ h => s c o h
theorem BagAt.same {b l : Addr} {H H' : Hp} (h : BagAt b l H) (s : L2.Same H H') : BagAt b l H' := by
  obtain ⟨n, zs, p, g, sd, c, h1, h2, h3⟩ := h
  exact ⟨n, zs, p, g, sd, c, s _ _ h1, s _ _ h2, h3⟩
theorem BagAt.ne {b l D : Addr} {H : Hp} (h : BagAt b l H) (hD : H D = none) : D ≠ b ∧ D ≠ l := by
  obtain ⟨n, zs, p, g, sd, c, h1, h2, h3⟩ := h
  exact ⟨Ne.symm (ne_of_none h1 hD), Ne.symm (ne_of_none h2 hD)⟩
/-- what is new may change -/
theorem BagAt.put {b l D : Addr} {H : Hp} {o : HO} (h : BagAt b l H) (n1 : D ≠ b) (n2 : D ≠ l) : BagAt b l (upd H D o) := by
  obtain ⟨n, zs, p, g, sd, c, h1, h2, h3⟩ := h
  exact ⟨n, zs, p, g, sd, c, by rw [upd_ne (Ne.symm n1)]; exact h1, by rw [upd_ne (Ne.symm n2)]; exact h2, h3⟩
theorem but_put {b D : Addr} {H H' : Hp} {o : HO} (e : But b H H') (h : H D = none) : But b H (upd H' D o) := fun c u n q => by
  rw [upd_ne (ne_of_none q h)]
  exact e _ _ n q
theorem sides_ok {n : Int} (h0 : 0 < n) (h : n < 2 ^ 40) : CDivW 0 n := wide_div h0 (b := 40) (by omega) (by decide) (by decide)
/-- a statement's end by what is known there -/
def tCut (t : TS) : TS := fun D σ H => ∃ Rl : L2.St → Hp → Prop, t { D with nx := Rl } σ H ∧ ∀ σ' H', Rl σ' H' → D.nx σ' H'
theorem ps_cut {X : Cx} {st : Stmt} {t : TS} (h : PS X st t) : PS X st (tCut t) := by
  refine ⟨fun pins s σ H D I hc => ?_⟩
  obtain ⟨Rl, h1, h2⟩ := hc
  refine thn (h.run pins s σ H _ I h1) fun fl s' hs => ?_
  cases fl with
  | next =>
    obtain ⟨σ', H', J, q⟩ := hs
    exact ⟨σ', H', J, h2 σ' H' q⟩
  | ret u => exact hs
  | brk => exact hs
  | cont => exact hs
section
variable {P : Program} {w : World} {K : PySem.W.Frag} {mg : Str → Option Value} {base : Heap} {f f1 f2 f3 : Addr} {fd fd1 fd2 fd3 : FuncData}
abbrev nPu : List Str := ["_law_bag", "_law_sides", "_law_cell", "_law_digit", "_law_seed"]
theorem scPu : FnScope nPu ["_law_bag", "_law_sides"] (defScope (top 57)) := ⟨rfl, rfl, rfl, by decide +kernel, rfl, by decide +kernel, by decide +kernel⟩
def spPu : Sp := fun vs H Q _ => ∃ (b l : Addr) (n : Int), vs = [.ref b, .int n] ∧ BagAt b l H ∧ 0 < n ∧ n < 2 ^ 40 ∧ ∀ (H' : Hp) (r : Int), But b H H' → BagAt b l H' → 0 ≤ r → r < n → Q (.int r) H'
theorem c_pull (B : Blt mg) (D : DefAt K mg "_law_pull" (top 57) f fd) : Cal P w K mg base 1 "_law_pull" ["_law_bag", "_law_sides"] spPu f fd := by
  refine D.cal scPu (fun _ _ _ _ _ _ us hl => match us, hl with | [_, _], _ => rfl) (fun vs H Q E h => ?_) (fun cdv A outer s H vs Q E hr h => ?_)
  · obtain ⟨b, l, n, rfl, _⟩ := h
    rfl
  · obtain ⟨b, l, n, rfl, hb, n0, n1, q⟩ := h
    refine ⟨_, pss_cons (ps_asg (pe_op op_add (pe_ix ix_list (pv 0) pe_int (fun _ _ => rfl)) pe_int) (pg_sub (pv 0) pe_int set_list))
      (pss_cons (ps_cut (ps_if (PW.pt (pw_and (pt_cmpR op_eq (pe_ix ix_list (pv 0) pe_int (fun _ _ => rfl)) pe_int (by rfl)) (pw_and1 (pt_cmpR op_lt (pe_ix ix_list (pv 0) pe_int (fun _ _ => rfl)) (pe_callB call_len_seq (by rfl) B.len (by decide +kernel) (pa_cons (pe_ix ix_list (pv 0) pe_int (fun _ _ => rfl)) pa_nil)) (by rfl)))))
          (pss_cons (ps_asg (pe_tup (pa_cons (pe_ix ix_list (pe_ix ix_list (pv 0) pe_int (fun _ _ => rfl)) (pe_ix ix_list (pv 0) pe_int (fun _ _ => rfl)) (fun _ _ => rfl)) (pa_cons (pe_op op_add (pe_ix ix_list (pv 0) pe_int (fun _ _ => rfl)) pe_int) pa_nil))) (pg_tup rfl (pgs_cons (pg_name (i := 2) scPu.nd rfl (Or.inl rfl)) (pgs_cons (pg_sub (pv 0) pe_int set_list) pgs_nil)) (by rfl)))
          (pss_cons (ps_cut (ps_if (pt_cmpR op_ge (pv 2) (pe_op op_pow pe_int pe_int) (by rfl)) (pss_one (ps_asg (pv 2) (pg_sub (pv 0) pe_int set_list))) pss_nil))
          (pss_one (ps_asg (pe_op op_mod (pe_callTy call_int1 (by rfl) B.int (by decide +kernel) (pa_cons (pe_op op_add (pe_op op_add (pe_op op_mul (pe_ix ix_list (pv 0) pe_int (fun _ _ => rfl)) pe_int) (pe_op op_mul (pe_op op_mod (pe_callTy call_int1 (by rfl) B.int (by decide +kernel) (pa_cons (pv 2) pa_nil)) pe_int) pe_int)) pe_int) pa_nil)) pe_int) (pg_sub (pv 0) pe_int set_list))))) pss_nil))
      (pss_cons (ps_if (pt_cmpR op_gt (pe_ix ix_list (pv 0) pe_int (fun _ _ => rfl)) pe_int (by rfl))
          (pss_cons (ps_asg (pe_tup (pa_cons (pe_op op_mod (pe_callTy call_int1 (by rfl) B.int (by decide +kernel) (pa_cons (pe_ix ix_list (pv 0) pe_int (fun _ _ => rfl)) pa_nil)) (pv 1)) (pa_cons (pe_op op_fdivW (pe_ix ix_list (pv 0) pe_int (fun _ _ => rfl)) (pv 1)) pa_nil))) (pg_tup rfl (pgs_cons (pg_name (i := 3) scPu.nd rfl (Or.inl rfl)) (pgs_cons (pg_sub (pv 0) pe_int set_list) pgs_nil)) (by rfl)))
          (pss_one (ps_ret (pv 3)))) pss_nil)
      (pss_cons (ps_set (i := 4) scPu.nd rfl (Or.inl rfl) (pe_ix ix_list (pv 0) pe_int (fun _ _ => rfl)))
      (pss_cons (ps_asg (pe_op op_mod (pe_callTy call_int1 (by rfl) B.int (by decide +kernel) (pa_cons (pe_op op_add (pe_op op_add (pe_op op_add (pe_op op_pow (pv 4) pe_int) (pe_op op_mul (pv 4) pe_int)) (pe_op op_mul (pe_ix ix_list (pv 0) pe_int (fun _ _ => rfl)) pe_int)) pe_int) pa_nil)) pe_int) (pg_sub (pv 0) pe_int set_list))
      (pss_one (ps_ret (pe_op op_mod (pe_callTy call_int1 (by rfl) B.int (by decide +kernel) (pa_cons (pe_op op_add (pe_op op_fdiv (pe_ix ix_list (pv 0) pe_int (fun _ _ => rfl)) pe_int) (pe_op op_mul (pe_op op_mod (pe_callTy call_int1 (by rfl) B.int (by decide +kernel) (pa_cons (pe_ix ix_list (pv 0) pe_int (fun _ _ => rfl)) pa_nil)) pe_int) pe_int)) pa_nil)) (pv 1)))))))), ?_⟩
    obtain ⟨hn, zs, p, g, sd, c, e1, e2, h3, h4⟩ := hb
    -- the count
    refine ⟨_, rfl, b, _, 4, _, rfl, rfl, SqL.of e1, rfl, _, _, rfl, rfl, _, rfl, b, _, 4, _, rfl, rfl, e1, rfl, ?_⟩
    have k1 : But b H (upd H b (.lst [.ref l, .int (p : Nat), .int g, .int sd, .int (c + 1)])) := (But.refl b H).put
    have a1 : (upd H b (.lst [.ref l, .int (p : Nat), .int g, .int sd, .int (c + 1)])) b = some (.lst [.ref l, .int (p : Nat), .int g, .int sd, .int (c + 1)]) := upd_same
    have a2 : (upd H b (.lst [.ref l, .int (p : Nat), .int g, .int sd, .int (c + 1)])) l = some (.lst (zs.map V.int)) := by rw [upd_ne hn]; exact e2
    change tCut _ _ _ (upd H b (.lst [.ref l, .int (p : Nat), .int g, .int sd, .int (c + 1)]))
    generalize eH1 : upd H b (.lst [.ref l, .int (p : Nat), .int g, .int sd, .int (c + 1)]) = H1 at k1 a1 a2 ⊢
    refine ⟨fun σ' H' => ∃ (y : Option V) (p' : Nat) (g' sd' c' : Int), σ' = [some (.ref b), some (.int n), y, none, none] ∧ But b H H' ∧ H' b = some (.lst [.ref l, .int (p' : Nat), .int g', .int sd', .int c']) ∧ H' l = some (.lst (zs.map V.int)) ∧ 0 ≤ sd' ∧ sd' < 2147483587, ?_, ?_⟩
    · refine ⟨_, rfl, b, _, 2, _, rfl, rfl, SqL.of a1, rfl, rfl, _, rfl, ?_⟩
      by_cases hg : g = 0
      · rw [decide_eq_true (show V.int g = V.int 0 by rw [hg])]
        refine iteT ⟨_, rfl, b, _, 1, _, rfl, rfl, SqL.of a1, rfl, _, rfl, b, _, 0, _, rfl, rfl, SqL.of a1, rfl, l, _, rfl, .inl (SqL.of a2), _, _, rfl, rfl, _, rfl, ?_⟩
        rw [List.length_map]
        by_cases hp : p < zs.length
        · rw [decide_eq_true (show ((p : Nat) : Int) < (zs.length : Nat) by omega)]
          have hz : (zs.map V.int)[p]? = some (.int zs[p]) := by rw [List.getElem?_map, List.getElem?_eq_getElem hp]; rfl
          refine iteT ⟨_, rfl, b, _, 0, _, rfl, rfl, SqL.of a1, rfl, _, rfl, b, _, 1, _, rfl, rfl, SqL.of a1, rfl, l, _, ((p : Nat) : Int), _, rfl, rfl, SqL.of a2, atI_nat hz, _, rfl, b, _, 1, _, rfl, rfl, SqL.of a1, rfl, _, _, rfl, rfl, sz (show 2 ≤ 100000 by decide), fun t nt => ?_⟩
          have ntb : t ≠ b := Ne.symm (ne_of_none a1 nt)
          have ntl : t ≠ l := Ne.symm (ne_of_none a2 nt)
          refine ⟨t, _, rfl, SqT.of upd_same, rfl, _, _, rfl, _, _, rfl, _, rfl, b, _, 1, _, rfl, rfl, (by rw [upd_ne (Ne.symm ntb)]; exact a1), rfl, rfl, ?_⟩
          generalize zs[p] = cell
          have k3 : But b H (upd (upd H1 t (.tup [.int cell, .int ((p : Int) + 1)])) b (.lst [.ref l, .int ((p : Int) + 1), .int g, .int sd, .int (c + 1)])) := (k1.trans (But.of (same_new nt))).put
          have a3 : (upd (upd H1 t (.tup [.int cell, .int ((p : Int) + 1)])) b (.lst [.ref l, .int ((p : Int) + 1), .int g, .int sd, .int (c + 1)])) b = some (.lst [.ref l, .int ((p : Int) + 1), .int g, .int sd, .int (c + 1)]) := upd_same
          have a4 : (upd (upd H1 t (.tup [.int cell, .int ((p : Int) + 1)])) b (.lst [.ref l, .int ((p : Int) + 1), .int g, .int sd, .int (c + 1)])) l = some (.lst (zs.map V.int)) := by rw [upd_ne hn, upd_ne (Ne.symm ntl)]; exact a2
          refine ⟨fun σ' H' => σ' = [some (.ref b), some (.int n), some (.int cell), none, none] ∧ ∃ g' : Int, But b H H' ∧ H' b = some (.lst [.ref l, .int ((p : Int) + 1), .int g', .int sd, .int (c + 1)]) ∧ H' l = some (.lst (zs.map V.int)), ?_, ?_⟩
          · refine ⟨_, rfl, _, _, rfl, rfl, ⟨by decide, by decide, by decide⟩, _, _, rfl, rfl, _, rfl, ite2 (fun _ => ?_) (fun _ => ⟨rfl, g, k3, a3, a4⟩)⟩
            exact ⟨_, rfl, _, rfl, b, _, 2, _, rfl, rfl, a3, rfl, rfl, cell, k3.put, upd_same, by rw [upd_ne hn]; exact a4⟩
          · rintro σ' H4 ⟨rfl, g', k4, b1, b2⟩
            refine ⟨_, rfl, b, _, 3, _, rfl, rfl, SqL.of b1, rfl, _, _, rfl, rfl, .inr ⟨by decide, by decide⟩, _, rfl, .inl ⟨_, rfl, _, _, rfl, rfl, (show (0 : Int) < 2147483489 by decide), _, _, rfl, rfl, .inr ⟨by decide, by decide⟩, _, _, rfl, rfl, _, _, rfl, rfl, .inl ⟨_, rfl, _, _, rfl, rfl, (show (0 : Int) < 2147483587 by decide), _, rfl, b, _, 3, _, rfl, rfl, b1, rfl, ?_⟩⟩⟩
            refine ⟨_, p + 1, g', _, c + 1, rfl, k4.put, upd_same, by rw [upd_ne hn]; exact b2, Int.emod_nonneg _ (by decide), Int.emod_lt_of_pos _ (by decide)⟩
        · rw [decide_eq_false (show ¬ ((p : Nat) : Int) < (zs.length : Nat) by omega)]
          exact iteF ⟨_, p, g, sd, c + 1, rfl, k1, a1, a2, h3, h4⟩
      · rw [decide_eq_false (show ¬ V.int g = V.int 0 from fun z => hg (V.int.inj z))]
        exact iteF (iteF ⟨_, p, g, sd, c + 1, rfl, k1, a1, a2, h3, h4⟩)
    · rintro σ' H2 ⟨y, p', g', sd', c', rfl, k2, b1, b2, h5, h6⟩
      refine ⟨_, rfl, b, _, 2, _, rfl, rfl, SqL.of b1, rfl, _, _, rfl, rfl, _, rfl, ite2 (fun hg => ?_) (fun _ => ?_)⟩
      · refine ⟨_, rfl, b, _, 2, _, rfl, rfl, SqL.of b1, rfl, .inl ⟨_, rfl, _, rfl, _, _, rfl, rfl, n0, _, rfl, b, _, 2, _, rfl, rfl, SqL.of b1, rfl, _, rfl, _, _, rfl, rfl, sides_ok n0 n1, sz (show 2 ≤ 100000 by decide), fun t nt => ?_⟩⟩
        have ntb : t ≠ b := Ne.symm (ne_of_none b1 nt)
        have ntl : t ≠ l := Ne.symm (ne_of_none b2 nt)
        refine ⟨t, _, rfl, SqT.of upd_same, rfl, _, _, rfl, _, _, rfl, _, rfl, b, _, 2, _, rfl, rfl, (by rw [upd_ne (Ne.symm ntb)]; exact b1), rfl, rfl, ?_⟩
        refine ⟨_, rfl, q _ _ ((k2.trans (But.of (same_new nt))).put) ⟨hn, zs, p', _, sd', c', upd_same, ?_, h5, h6⟩ (Int.emod_nonneg _ (by omega)) (Int.emod_lt_of_pos _ n0)⟩
        rw [upd_ne hn, upd_ne (Ne.symm ntl)]
        exact b2
      · refine ⟨_, rfl, b, _, 3, _, rfl, rfl, SqL.of b1, rfl, ?_⟩
        refine ⟨_, rfl, _, _, rfl, rfl, ⟨by decide, by decide, by omega⟩, _, rfl, _, _, rfl, rfl, .inr ⟨by decide, by decide⟩, _, _, rfl, rfl, _, rfl, b, _, 4, _, rfl, rfl, SqL.of b1, rfl, _, _, rfl, rfl, .inr ⟨by decide, by decide⟩, _, _, rfl, rfl, _, _, rfl, rfl, .inl ⟨_, rfl, _, _, rfl, rfl, (show (0 : Int) < 2147483587 by decide), _, rfl, b, _, 3, _, rfl, rfl, b1, rfl, ?_⟩⟩
        have d1 : 0 ≤ (sd' ^ (3 : Int).toNat + sd' * 37657 + c' * 1299827 + 60101) % 2147483587 := Int.emod_nonneg _ (by decide)
        have d2 : (sd' ^ (3 : Int).toNat + sd' * 37657 + c' * 1299827 + 60101) % 2147483587 < 2147483587 := Int.emod_lt_of_pos _ (by decide)
        have k5 : But b H (upd H2 b (.lst [.ref l, .int (p' : Nat), .int g', .int ((sd' ^ (3 : Int).toNat + sd' * 37657 + c' * 1299827 + 60101) % 2147483587), .int c'])) := k2.put
        have b3 : (upd H2 b (.lst [.ref l, .int (p' : Nat), .int g', .int ((sd' ^ (3 : Int).toNat + sd' * 37657 + c' * 1299827 + 60101) % 2147483587), .int c'])) b = some (.lst [.ref l, .int (p' : Nat), .int g', .int ((sd' ^ (3 : Int).toNat + sd' * 37657 + c' * 1299827 + 60101) % 2147483587), .int c']) := upd_same
        have b4 : (upd H2 b (.lst [.ref l, .int (p' : Nat), .int g', .int ((sd' ^ (3 : Int).toNat + sd' * 37657 + c' * 1299827 + 60101) % 2147483587), .int c'])) l = some (.lst (zs.map V.int)) := by rw [upd_ne hn]; exact b2
        refine ⟨_, rfl, b, _, 3, _, rfl, rfl, SqL.of b3, rfl, _, _, rfl, rfl, ⟨by decide, by decide⟩, _, rfl, b, _, 3, _, rfl, rfl, SqL.of b3, rfl, .inl ⟨_, rfl, _, _, rfl, rfl, (show (0 : Int) < 8011 by decide), _, _, rfl, rfl, .inr ⟨by decide, by decide⟩, _, _, rfl, rfl, .inl ⟨_, rfl, _, rfl, _, _, rfl, rfl, n0, q _ _ k5 ⟨hn, zs, p', g', _, c', b3, b4, d1, d2⟩ (Int.emod_nonneg _ (by omega)) (Int.emod_lt_of_pos _ n0)⟩⟩⟩
end
end Kb
/-! The law's choices: _law_any, _law_mixed; comprehensions that draw. -/
namespace Kb
open PySem PySem.Spec PyProof.Rows L2
/-- items that stand while the bag at b changes -/
def SqB (K : PySem.W.Frag) (b : Addr) (H : Hp) (a : Addr) (xs : List V) : Prop := (∀ H', But b H H' → SqL K H' a xs) ∨ (∀ H', But b H H' → SqT K H' a xs)
theorem SqB.now {K : PySem.W.Frag} {b : Addr} {H : Hp} {a : Addr} {xs : List V} (h : SqB K b H a xs) : SqA K H a xs := by
  rcases h with h | h
  · exact .inl (h H (But.refl b H))
  · exact .inr (h H (But.refl b H))
theorem SqB.but {K : PySem.W.Frag} {b : Addr} {H H' : Hp} {a : Addr} {xs : List V} (h : SqB K b H a xs) (k : But b H H') : SqB K b H' a xs := by
  rcases h with h | h
  · exact .inl fun H2 k2 => h H2 (k.trans k2)
  · exact .inr fun H2 k2 => h H2 (k.trans k2)
theorem SqB.lst {K : PySem.W.Frag} {b : Addr} {H : Hp} {a : Addr} {xs : List V} (h : H a = some (.lst xs)) (n : a ≠ b) : SqB K b H a xs := .inl fun _ k => SqL.of (k _ _ n h)
theorem SqB.tup {K : PySem.W.Frag} {b : Addr} {H : Hp} {a : Addr} {xs : List V} (h : H a = some (.tup xs)) (n : a ≠ b) : SqB K b H a xs := .inr fun _ k => SqT.of (k _ _ n h)
theorem seq_varB {K : PySem.W.Frag} {i : Nat} {σ : L2.St} {H0 H : Hp} {b a : Addr} {xs : List V} {R : It → Hp → Prop} (e : σ[i]? = some (some (.ref a))) (h : SqB K b H0 a xs) (k : But b H0 H)
    (q : ∀ J Kp, (∀ H', But b H0 H' → Kp H') → Src J xs.length Kp (fun i x _ => xs[i]? = some x) → R J H) : iSeq K (tVar i) σ H R := by
  rcases h with h | h
  · exact .inl ⟨_, e, a, rfl, ⟨xs, h H k⟩, q _ _ h (srcL a xs)⟩
  · exact .inr ⟨_, e, a, rfl, ⟨xs, h H k⟩, q _ _ h (srcT a xs)⟩
/-- a comprehension that draws -/
theorem lcB {J : It} {n : Nat} {Kp : Hp → Prop} {R : Nat → V → Hp → Prop} {g : TG} {tt : TT} {te : TE} {vs : List Nat} {σ : L2.St} {H1 : Hp} {Q : Addr → Hp → Prop} {b l : Addr} (S : Src J n Kp R) (hn : n ≤ 1000) (I : Nat → List V → Hp → Prop)
    (st : ∀ i acc H H', SameT H H' → I i acc H → I i acc H') (h0 : I 0 [] H1) (B0 : BagAt b l H1) (hK : ∀ H, But b H1 H → Kp H)
    (step : ∀ i x acc H, i < n → R i x H → But b H1 H → BagAt b l H → I i acc H → ∀ (Y : VK) (Z : Hp → Prop), (∀ y H4, But b H H4 → BagAt b l H4 → I (i + 1) (acc ++ [y]) H4 → Y y H4) → (∀ H4, But b H H4 → BagAt b l H4 → I (i + 1) acc H4 → Z H4) →
      g x (wipe σ vs) H fun σ2 H2 => wipe σ2 vs = wipe σ vs ∧ tt σ2 H2 fun k H3 => if k = true then te σ2 H3 Y else Z H3)
    (hq : ∀ D acc H', H1 D = none → But b H1 H' → BagAt b l H' → H' D = some (.lst acc) → I n acc H' → Q D H') :
    ∀ D, H1 D = none → ∃ W : Nat → Nat → Hp → Prop, (∃ m, W 0 m (upd H1 D (.lst []))) ∧ ∀ i m H, W i m H →
      (J.stop i H ∧ Q D H) ∨ (J.go i H ∧ ∃ Nx : Hp → Prop, (∀ H', Nx H' → ∃ m', m' < m ∧ W (i + 1) m' H') ∧ ∀ x H', J.yld i H x H' → g x (wipe σ vs) H' fun σ2 H2 => wipe σ2 vs = wipe σ vs ∧ tt σ2 H2 fun k H3 =>
        if k = true then te σ2 H3 fun y H4 => ∃ acc, H4 D = some (.lst acc) ∧ acc.length < sizeLine ∧ Nx (upd H4 D (.lst (acc ++ [y]))) else Nx H3) := by
  intro D hD
  obtain ⟨nb, nl⟩ := B0.ne hD
  refine ⟨fun i m H => m = n - i ∧ i ≤ n ∧ ∃ acc, But b H1 H ∧ BagAt b l H ∧ H D = some (.lst acc) ∧ acc.length ≤ i ∧ I i acc H, ⟨n, rfl, Nat.zero_le _, [], But.of (same_new hD), B0.put nb nl, upd_same, Nat.le_refl _, st _ _ _ _ (SameT.of (same_new hD)) h0⟩, ?_⟩
  rintro i m H ⟨rfl, hi, acc, sm, hb, eD, hl, hI⟩
  by_cases hlt : i < n
  · refine .inr ⟨S.go i H hlt (hK H sm), fun H' => i + 1 ≤ n ∧ ∃ acc, But b H1 H' ∧ BagAt b l H' ∧ H' D = some (.lst acc) ∧ acc.length ≤ i + 1 ∧ I (i + 1) acc H', fun H' ⟨a, b⟩ => ⟨n - (i + 1), by omega, rfl, a, b⟩, fun x H' hy => ?_⟩
    obtain ⟨s1, hR⟩ := S.yld i H x H' hlt (hK H sm) hy
    have k1 := sm.trans (But.of s1)
    have eD1 := s1 _ _ eD
    refine step i x acc H' hlt hR k1 (hb.same s1) (st _ _ _ _ (SameT.of s1) hI) _ _ (fun y H4 s4 hb4 hI4 => ?_) (fun H4 s4 hb4 hI4 => ?_)
    · have e4 : H4 D = some (.lst acc) := s4 _ _ nb eD1
      refine ⟨acc, e4, szl (by omega), hlt, acc ++ [y], but_put (k1.trans s4) hD, hb4.put nb nl, upd_same, by rw [List.length_append]; exact Nat.succ_le_succ hl, st _ _ _ _ (SameT.put e4) hI4⟩
    · exact ⟨hlt, acc, k1.trans s4, hb4, s4 _ _ nb eD1, Nat.le_succ_of_le hl, hI4⟩
  · have e : i = n := by omega
    subst e
    exact .inl ⟨S.stop H (hK H sm), hq D acc H hD sm hb eD hI⟩
section
variable {P : Program} {w : World} {K : PySem.W.Frag} {mg : Str → Option Value} {base : Heap} {f f1 f2 f3 : Addr} {fd fd1 fd2 fd3 : FuncData}
/-! ### _law_any -/
theorem scAn : FnScope ["_law_bag", "_law_items"] ["_law_bag", "_law_items"] (defScope (top 58)) := ⟨rfl, rfl, rfl, by decide +kernel, rfl, by decide +kernel, by decide +kernel⟩
def spAn (K : PySem.W.Frag) : Sp := fun vs H Q _ => ∃ (b l : Addr) (y : V), vs = [.ref b, y] ∧ BagAt b l H ∧
  ((∃ a xs, y = .ref a ∧ SqB K b H a xs ∧ 0 < xs.length ∧ xs.length ≤ 1000 ∧ ∀ (H' : Hp) (x : V), But b H H' → BagAt b l H' → x ∈ xs → Q x H') ∨
   (∃ z : Str, y = .str z ∧ 0 < z.length ∧ z.length ≤ 1000 ∧ ∀ (H' : Hp) (c : Nat), But b H H' → BagAt b l H' → c ∈ z.cps.toList → Q (.str ⟨#[c]⟩) H'))
theorem c_any (B : Blt mg) (Pu : Cal P w K mg base 1 "_law_pull" ["_law_bag", "_law_sides"] spPu f1 fd1) (D : DefAt K mg "_law_any" (top 58) f fd) : Cal P w K mg base 2 "_law_any" ["_law_bag", "_law_items"] (spAn K) f fd := by
  refine D.cal scAn (fun _ _ _ _ _ _ us hl => match us, hl with | [_, _], _ => rfl) (fun vs H Q E h => ?_) (fun cdv A outer s H vs Q E hr h => ?_)
  · obtain ⟨b, l, y, rfl, _⟩ := h
    rfl
  · obtain ⟨b, l, y, rfl, hb, h⟩ := h
    refine ⟨_, pss_one (ps_ret (pe_ix ix_seq (pv 1) (pe_cal Pu hr (by rfl) (pa_cons (pv 0) (pa_cons (pe_callB call_len (by rfl) B.len (by decide +kernel) (pa_cons (pv 1) pa_nil)) pa_nil))) (fun _ _ => rfl))), ?_⟩
    rcases h with ⟨a, xs, rfl, hs, h0, h1, q⟩ | ⟨z, rfl, h0, h1, q⟩
    · refine ⟨_, rfl, _, rfl, _, rfl, _, xs.length, rfl, ?_, ⟨b, l, _, rfl, hb, by omega, by omega, fun H' r k hb' r0 r1 => ?_⟩⟩
      · rcases hs.now with h | h
        · exact .inl ⟨xs, h, rfl⟩
        · exact .inr ⟨xs, h, rfl⟩
      · obtain ⟨j, rfl⟩ := Int.eq_ofNat_of_zero_le r0
        have hj : j < xs.length := by omega
        have ej : xs[j]? = some xs[j] := List.getElem?_eq_getElem hj
        rcases hs with h | h
        · exact .inl ⟨a, xs, _, _, rfl, rfl, h H' k, atI_nat ej, q H' _ k hb' (List.getElem_mem hj)⟩
        · exact .inr (.inl ⟨a, xs, _, _, rfl, rfl, h H' k, atI_nat ej, q H' _ k hb' (List.getElem_mem hj)⟩)
    · refine ⟨_, rfl, _, rfl, _, rfl, _, z.length, rfl, ⟨sz (by omega), rfl⟩, ⟨b, l, _, rfl, hb, by omega, by omega, fun H' r k hb' r0 r1 => ?_⟩⟩
      obtain ⟨j, rfl⟩ := Int.eq_ofNat_of_zero_le r0
      have hj : j < z.cps.toList.length := by
        rw [Array.length_toList]
        have : (z.cps.size : Int) = z.length := rfl
        omega
      have ej : z.cps.toList[j]? = some z.cps.toList[j] := List.getElem?_eq_getElem hj
      exact .inr (.inr ⟨z, _, _, rfl, rfl, sz (by omega), atI_nat ej, q H' _ k hb' (List.getElem_mem hj)⟩)
/-! ### _law_mixed -/
abbrev nMi : List Str := ["_law_bag", "_law_items", "_law_found", "_law_item"]
theorem scMi : FnScope nMi ["_law_bag", "_law_items"] (defScope (top 59)) := ⟨rfl, rfl, rfl, by decide +kernel, rfl, by decide +kernel, by decide +kernel⟩
def spMi (K : PySem.W.Frag) : Sp := fun vs H Q _ => ∃ (b l a : Addr) (xs : List V), vs = [.ref b, .ref a] ∧ BagAt b l H ∧ SqB K b H a xs ∧ xs.length ≤ 1000 ∧ ∀ (H' : Hp) (p : Addr) (ys : List V), But b H H' → BagAt b l H' → H p = none → ys.Perm xs → H' p = some (.lst ys) → Q (.ref p) H'
theorem c_mixed (B : Blt mg) (Pu : Cal P w K mg base 1 "_law_pull" ["_law_bag", "_law_sides"] spPu f1 fd1) (D : DefAt K mg "_law_mixed" (top 59) f fd) : Cal P w K mg base 2 "_law_mixed" ["_law_bag", "_law_items"] (spMi K) f fd := by
  refine D.cal scMi (fun _ _ _ _ _ _ us hl => match us, hl with | [_, _], _ => rfl) (fun vs H Q E h => ?_) (fun cdv A outer s H vs Q E hr h => ?_)
  · obtain ⟨b, l, a, xs, rfl, _⟩ := h
    rfl
  · obtain ⟨b, l, a, xs, rfl, hb, hs, hx, q⟩ := h
    refine ⟨_, pss_cons (ps_set (i := 2) scMi.nd rfl (Or.inl rfl) (pe_lst pa_nil))
      (pss_cons (ps_for PassesOwn.never rfl (pi_seq (pv 1)) (pg_name (i := 3) scMi.nd rfl (Or.inl rfl)) (pss_one (ps_expr (pe_bm PySem.F.plainAttrs_list PySem.F.slot_list_insert PySem.F.type_list_insert mt_insert (pv 2)
        (pa_cons (pe_cal Pu hr (by rfl) (pa_cons (pv 0) (pa_cons (pe_op op_add (pe_callB call_len_seq (by rfl) B.len (by decide +kernel) (pa_cons (pv 2) pa_nil)) pe_int) pa_nil))) (pa_cons (pv 3) pa_nil))))))
      (pss_one (ps_ret (pv 2)))), ?_⟩
    refine ⟨sz (show 0 ≤ 100000 by decide), fun p np => ?_⟩
    obtain ⟨nb, nl⟩ := hb.ne np
    refine seq_varB rfl hs (But.of (same_new np)) fun J Kp hK S => ?_
    refine forI S (fun i σ H' => (∃ y, σ = [some (.ref b), some (.ref a), some (.ref p), y]) ∧ But b H H' ∧ BagAt b l H' ∧ ∃ ys : List V, ys.Perm (xs.take i) ∧ H' p = some (.lst ys)) ⟨⟨_, rfl⟩, But.of (same_new np), hb.put nb nl, [], .nil, upd_same⟩ (fun i σ H' _ hP => hK H' hP.2.1) (fun i y σ H2 H3 hi hP s23 hR => ?_) (fun σ H2 hP => ?_)
    · obtain ⟨⟨y0, rfl⟩, k2, hb2, ys, py, ep⟩ := hP
      have ep3 := s23 _ _ ep
      have ylen : ys.length = i := by
        rw [py.length_eq, List.length_take]
        omega
      refine ⟨_, rfl, .inl ⟨rfl, _, SqL.of ep3⟩, ⟨_, rfl, _, rfl, p, _, rfl, .inl (SqL.of ep3), _, _, rfl, rfl, ⟨b, l, _, rfl, hb2.same s23, by omega, by omega, fun H4 r k4 hb4 r0 r1 => ?_⟩⟩⟩
      have ep4 := k4 _ _ nb ep3
      refine ⟨_, rfl, p, ys, r, y, rfl, rfl, ep4, szl (by omega), r0, by omega, ?_⟩
      refine ⟨⟨_, rfl⟩, but_put ((k2.trans (But.of s23)).trans k4) np, hb4.put nb nl, _, ?_, upd_same⟩
      have hy : xs[i]? = some y := hR
      rw [take_snoc hy]
      have p1 : (ys.take r.toNat ++ [y] ++ ys.drop r.toNat).Perm (y :: ys) := by
        rw [List.append_assoc]
        have q1 := List.perm_middle (a := y) (l₁ := ys.take r.toNat) (l₂ := ys.drop r.toNat)
        rw [List.take_append_drop] at q1
        exact q1
      have p2 : (xs.take i ++ [y]).Perm (y :: xs.take i) := List.perm_append_comm
      exact p1.trans ((py.cons y).trans p2.symm)
    · obtain ⟨⟨y0, rfl⟩, k2, hb2, ys, py, ep⟩ := hP
      rw [List.take_length] at py
      exact ⟨_, rfl, q H2 p ys k2 hb2 np py ep⟩
end
end Kb
/-! _law_vector. -/
namespace Kb
open PySem PySem.Spec PyProof.Rows L2
theorem ixn {n j : Nat} (hj : j < n) : ixN n (j : Int) = some j := by
  unfold ixN
  rw [if_pos (by omega), if_pos (by omega)]
  simp
theorem lay_ints : ∀ ns : List Int, PyData.canLayAll0 (ns.map PyData.int) = true
  | [] => by simp [PyData.canLayAll0]
  | n :: r => by
    have ih := lay_ints r
    simp [PyData.canLayAll0, PyData.canLay0, ih]
theorem shaped_ints (ns : List Int) : SeqAt.shaped (.list (ns.map PyData.int)) = true := by
  unfold SeqAt.shaped
  have h1 := lay_ints ns
  have h2 := depth_ints ns
  have e : (PyData.list (ns.map PyData.int)).canLay0 = PyData.canLayAll0 (ns.map PyData.int) := by simp [PyData.canLay0]
  have e2 : (PyData.list (ns.map PyData.int)).depth = PyData.depthAll (ns.map PyData.int) + 1 := by simp [PyData.depth]
  rw [e, e2, h1, decide_eq_true (by omega)]
  rfl
theorem rep_flat {α : Type} (a : α) : ∀ n : Nat, (List.replicate n [a]).flatten = List.replicate n a
  | 0 => rfl
  | n + 1 => by
    rw [List.replicate_succ, List.flatten_cons, rep_flat a n, List.replicate_succ]
    rfl
theorem nz_of {zs : List Int} {n : Nat} (hl : zs.length = n) (h : zs ≠ List.replicate n 0) : ∃ z ∈ zs, z ≠ 0 := by
  apply Classical.byContradiction
  intro hn
  refine h (List.eq_replicate_iff.mpr ⟨hl, fun z hz => ?_⟩)
  apply Classical.byContradiction
  intro hz0
  exact hn ⟨z, hz, hz0⟩
section
variable {P : Program} {w : World} {K : PySem.W.Frag} {mg : Str → Option Value} {base : Heap} {f f1 f2 f3 : Addr} {fd fd1 fd2 fd3 : FuncData}
abbrev nLv : List Str := ["_law_bag", "_law_wide", "_law_top", "_law_one", "_law_k"]
theorem scLv : FnScope nLv ["_law_bag", "_law_wide"] (defScope (top 72)) := ⟨rfl, rfl, rfl, by decide +kernel, rfl, by decide +kernel, by decide +kernel⟩
def spLv : Sp := fun vs H Q _ => ∃ (b l : Addr) (n : Nat), vs = [.ref b, .int n] ∧ BagAt b l H ∧ 1 ≤ n ∧ n ≤ 7 ∧ ∀ (H' : Hp) (t : Addr) (zs : List Int), But b H H' → BagAt b l H' → t ≠ b → zs.length = n → (∃ z ∈ zs, z ≠ 0) → (∀ z ∈ zs, -999999999 ≤ z ∧ z ≤ 999999999) → H' t = some (.tup (zs.map V.int)) → Q (.ref t) H'
theorem c_lvec (B : Blt mg) (Pu : Cal P w K mg base 1 "_law_pull" ["_law_bag", "_law_sides"] spPu f1 fd1) (An : Cal P w K mg base 2 "_law_any" ["_law_bag", "_law_items"] (spAn K) f2 fd2) (D : DefAt K mg "_law_vector" (top 72) f fd) : Cal P w K mg base 3 "_law_vector" ["_law_bag", "_law_wide"] spLv f fd := by
  refine D.cal scLv (fun _ _ _ _ _ _ us hl => match us, hl with | [_, _], _ => rfl) (fun vs H Q E h => ?_) (fun cdv A outer s H vs Q E hr h => ?_)
  · obtain ⟨b, l, n, rfl, _⟩ := h
    rfl
  · obtain ⟨b, l, n, rfl, hb, n1, n7, q⟩ := h
    have hr1 : Room 1 (A.deeper (envOfC "_law_vector" (defScope (top 72)) s.heap.objs.size f cdv)) := hr.mono (by omega)
    refine ⟨_, pss_cons (ps_set (i := 2) scLv.nd rfl (Or.inr rfl) (pe_cal An hr (by rfl) (pa_cons (pv 0) (pa_cons (pe_lst (pa_cons pe_int (pa_cons pe_int (pa_cons pe_int (pa_cons pe_int (pa_cons pe_int (pa_cons pe_int (pa_cons pe_int (pa_cons pe_int pa_nil))))))))) pa_nil))))
      (pss_cons (ps_setLc (i := 3) (own := [("_law_k", 4)]) (g := gName 4) (tt := tYes) rfl scLv.nd rfl rfl (sw_true rfl rfl rfl (by decide +kernel)) (pi_range1 (by rfl) B.range (pa_cons (pv 1) pa_nil)) (blkOk_by (N := nLv) (own := [("_law_k", 4)]) (sc := defScope (top 72)) (by decide +kernel)) (fun _ _ _ _ _ => pg_name (i := 4) scLv.nd rfl (Or.inl rfl)) (fun _ _ _ _ _ => pts_nil)
          (fun _ _ _ _ _ => pe_op op_sub (pe_cal Pu hr1 (by rfl) (pa_cons (pv 0) (pa_cons (pe_op op_add (pe_op op_mul pe_int (pv 2)) pe_int) pa_nil))) (pv 2)))
      (pss_cons (ps_cut (ps_if (pt_cmpR (op_eqD hr.units) (pv 3) (pe_op op_rep (pe_lst (pa_cons pe_int pa_nil)) (pv 1)) (by rfl)) (pss_one (ps_asg (pe_cal An hr (by rfl) (pa_cons (pv 0) (pa_cons (pe_lst (pa_cons pe_int (pa_cons (pe_un un_neg pe_int) pa_nil))) pa_nil))) (pg_sub (pv 3) (pe_cal Pu hr1 (by rfl) (pa_cons (pv 0) (pa_cons (pv 1) pa_nil))) set_list))) pss_nil))
      (pss_one (ps_ret (pe_callTy call_tuple_of (by rfl) B.tuple (by decide +kernel) (pa_cons (pv 3) pa_nil)))))), ?_⟩
    refine ⟨_, rfl, sz (show 8 ≤ 100000 by decide), fun p0 np0 => ?_⟩
    have s0 : L2.Same H (upd H p0 (.lst [.int 3, .int 2, .int 1, .int 3, .int 9, .int 2, .int 1, .int 999999999])) := same_new np0
    obtain ⟨nb0, nl0⟩ := hb.ne np0
    refine ⟨b, l, _, rfl, hb.same s0, .inl ⟨p0, _, rfl, SqB.lst upd_same nb0, by decide, by decide, fun H1 x k1 hb1 hx => ?_⟩⟩
    obtain ⟨tp, rfl, t0, t1⟩ : ∃ tp : Int, x = .int tp ∧ 0 < tp ∧ tp ≤ 999999999 := by
      simp only [List.mem_cons, List.not_mem_nil, or_false] at hx
      rcases hx with h | h | h | h | h | h | h | h <;> exact ⟨_, h, by decide, by decide⟩
    have k01 : But b H H1 := (But.of s0).trans k1
    refine ⟨_, rfl, (n : Int), rfl, by omega, by omega, ?_⟩
    refine lcB (b := b) (l := l) (srcR 0 ((n : Int)).toNat) (by omega) (fun i acc _ => ∃ zs : List Int, acc = zs.map V.int ∧ zs.length = i ∧ ∀ z ∈ zs, -999999999 ≤ z ∧ z ≤ 999999999) (fun _ _ _ _ _ h => h) ⟨[], rfl, rfl, fun z hz => by cases hz⟩ hb1 (fun _ _ => True.intro) (fun i x acc H2 hi hR k2 hb2 hI Y Z hY hZ => ?_) (fun Dl acc H2 hD k2 hb2 eD hI => ?_)
    · obtain ⟨zs, rfl, hz, hbd⟩ := hI
      refine ⟨rfl, _, rfl, _, rfl, _, _, rfl, rfl, .inl ⟨by decide, by decide⟩, _, _, rfl, rfl, ⟨b, l, _, rfl, hb2, by omega, by omega, fun H3 r k3 hb3 r0 r1 => ?_⟩⟩
      refine ⟨_, rfl, _, _, rfl, rfl, hY _ H3 k3 hb3 ⟨zs ++ [r - tp], by rw [List.map_append]; rfl, by rw [List.length_append, hz]; rfl, fun z hz2 => ?_⟩⟩
      rcases List.mem_append.mp hz2 with h | h
      · exact hbd z h
      · rw [List.mem_singleton.mp h]
        omega
    · obtain ⟨zs, rfl, hz, hbd⟩ := hI
      have hzn : zs.length = n := by omega
      have nDb : Dl ≠ b := (hb1.ne hD).1
      refine ⟨fun σ' H' => σ' = [some (.ref b), some (.int (n : Nat)), some (.int tp), some (.ref Dl), none] ∧ But b H H' ∧ BagAt b l H' ∧ ∃ zs : List Int, H' Dl = some (.lst (zs.map V.int)) ∧ zs.length = n ∧ (∃ z ∈ zs, z ≠ 0) ∧ ∀ z ∈ zs, -999999999 ≤ z ∧ z ≤ 999999999, ?_, ?_⟩
      · have k02 := k01.trans k2
        have nD0 : H Dl = none := by
          cases e : H Dl with
          | none => rfl
          | some o =>
            have := k01 _ _ nDb e
            rw [this] at hD
            cases hD
        refine ⟨_, rfl, sz (show 1 ≤ 100000 by decide), fun p1 np1 => ?_⟩
        have s1 : L2.Same H2 (upd H2 p1 (.lst [.int 0])) := same_new np1
        refine ⟨_, rfl, p1, (n : Int), _, rfl, rfl, upd_same, by omega, by omega, sz (by show 1 * ((n : Int)).toNat ≤ 100000; omega), fun p2 np2 => ?_⟩
        have erep : (List.replicate ((n : Int)).toNat [V.int 0]).flatten = (List.replicate n (0 : Int)).map V.int := by
          rw [rep_flat, Int.toNat_natCast, List.map_replicate]
        rw [erep]
        have s2 := s1.trans (same_new (o := .lst ((List.replicate n (0 : Int)).map V.int)) np2)
        refine ⟨.list (zs.map PyData.int), .list ((List.replicate n (0 : Int)).map PyData.int), .lst (SqL.of (s2 _ _ eD)) (dp_ints zs), .lst (SqL.of upd_same) (dp_ints _), shaped_ints _, shaped_ints _, _, rfl, ?_⟩
        have hb3 := hb2.same s2
        have k3 := k02.trans (But.of s2)
        have eD3 := s2 _ _ eD
        generalize upd (upd H2 p1 (.lst [.int 0])) p2 (.lst ((List.replicate n (0 : Int)).map V.int)) = H3 at hb3 k3 eD3 ⊢
        cases eq : PyData.eqv (.list (zs.map PyData.int)) (.list ((List.replicate n (0 : Int)).map PyData.int)) with
        | true =>
          refine iteT ⟨_, rfl, 1, rfl, sz (show 2 ≤ 100000 by decide), fun p3 np3 => ?_⟩
          have s4 : L2.Same H3 (upd H3 p3 (.lst [.int 1, .int (-1)])) := same_new np3
          refine ⟨b, l, _, rfl, hb3.same s4, .inl ⟨p3, _, rfl, SqB.lst upd_same (hb3.ne np3).1, by decide, by decide, fun H5 x k5 hb5 hx => ?_⟩⟩
          obtain ⟨xi, rfl, x1, x2⟩ : ∃ xi : Int, x = .int xi ∧ xi ≠ 0 ∧ (-999999999 ≤ xi ∧ xi ≤ 999999999) := by
            simp only [List.mem_cons, List.not_mem_nil, or_false] at hx
            rcases hx with h | h <;> exact ⟨_, h, by decide, by decide⟩
          have eD5 := k5 _ _ nDb (s4 _ _ eD3)
          refine ⟨_, rfl, _, rfl, _, rfl, ⟨b, l, _, rfl, hb5, by omega, by omega, fun H6 r k6 hb6 r0 r1 => ?_⟩⟩
          obtain ⟨j, rfl⟩ := Int.eq_ofNat_of_zero_le r0
          have hj : j < zs.length := by omega
          have eD6 := k6 _ _ nDb eD5
          refine ⟨Dl, _, _, j, rfl, rfl, eD6, ixn (by rw [List.length_map]; exact hj), rfl, but_put (((k3.trans (But.of s4)).trans k5).trans k6) nD0, hb6.put nDb (hb1.ne hD).2, zs.set j xi, ?_, by rw [List.length_set]; exact hzn, ⟨xi, List.mem_iff_getElem.mpr ⟨j, by rw [List.length_set]; exact hj, by simp⟩, x1⟩, fun z hz2 => ?_⟩
          · rw [upd_same, List.map_set]
          · rcases List.mem_or_eq_of_mem_set hz2 with h | h
            · exact hbd z h
            · rw [h]
              exact x2
        | false =>
          refine iteF ⟨rfl, k3, hb3, zs, eD3, hzn, nz_of hzn fun e => ?_, hbd⟩
          rw [e, SeqAt.eqv_refl _ (SeqAt.canLay_of_shaped (shaped_ints _))] at eq
          cases eq
      · rintro σ' H3 ⟨rfl, k3, hb3, zs2, e3, l3, nz3, bd3⟩
        refine ⟨_, rfl, Dl, _, rfl, .inl ⟨SqL.of e3, fun t nt => q _ t zs2 (k3.trans (But.of (same_new nt))) (hb3.same (same_new nt)) (hb3.ne nt).1 l3 nz3 bd3 upd_same⟩⟩
end
end Kb
/-! _law_names. -/
namespace Kb
open PySem PySem.Spec PyProof.Rows L2
/-- a text of one sign -/
def s1c (c : Nat) : Str := ⟨#[c]⟩
theorem joinL_nil : ∀ l : List (List Nat), TL.joinL [] l = l.flatten
  | [] => rfl
  | [p] => by simp [TL.joinL]
  | p :: q :: r => by
    have ih := joinL_nil (q :: r)
    show p ++ ([] ++ TL.joinL [] (q :: r)) = _
    rw [ih]
    rfl
theorem join_1 (cs : List Nat) : TL.tl (Txt.join "" (cs.map s1c)) = cs := by
  rw [TL.join_eq, TL.tl_join]
  have e : TL.tl ("" : Str) = [] := by decide +kernel
  rw [e, joinL_nil, List.map_map]
  induction cs with
  | nil => rfl
  | cons c r ih => exact congrArg (c :: ·) ih
/-- the place of the k-th letter -/
def ltr (fi st : Int) (k : Nat) : Nat := ((fi + st * (k : Int)) % 26).toNat
theorem ltr_lt (fi st : Int) (k : Nat) : ltr fi st k < 26 := by
  unfold ltr
  have h1 := Int.emod_nonneg (fi + st * (k : Int)) (show (26 : Int) ≠ 0 by decide)
  have h2 := Int.emod_lt_of_pos (fi + st * (k : Int)) (show (0 : Int) < 26 by decide)
  omega
def Stride (st : Int) : Prop := st = 1 ∨ st = 25 ∨ st = 3 ∨ st = 7 ∨ st = 11 ∨ st = 15 ∨ st = 17 ∨ st = 21
theorem ltr_inj {fi st : Int} (h : Stride st) {j k : Nat} (hj : j < 7) (hk : k < 7) (e : ltr fi st j = ltr fi st k) : j = k := by
  unfold ltr at e
  have h1 := Int.emod_nonneg (fi + st * (j : Int)) (show (26 : Int) ≠ 0 by decide)
  have h2 := Int.emod_nonneg (fi + st * (k : Int)) (show (26 : Int) ≠ 0 by decide)
  have e2 : (fi + st * (j : Int)) % 26 = (fi + st * (k : Int)) % 26 := by omega
  rcases h with h | h | h | h | h | h | h | h <;> subst h <;> omega
theorem nd_set : ∀ {ns : List Str} {j : Nat} {x : Str}, ns.Nodup → x ∉ ns → (ns.set j x).Nodup
  | [], _, _, h, _ => h
  | z :: r, 0, x, h, hx => List.nodup_cons.mpr ⟨fun m => hx (List.mem_cons_of_mem _ m), (List.nodup_cons.mp h).2⟩
  | z :: r, j + 1, x, h, hx => by
    have h' := List.nodup_cons.mp h
    refine List.nodup_cons.mpr ⟨fun m => ?_, nd_set h'.2 fun m => hx (List.mem_cons_of_mem _ m)⟩
    rcases List.mem_or_eq_of_mem_set m with q | q
    · exact h'.1 q
    · exact hx (by rw [← q]; exact List.mem_cons_self)
theorem nd_of {ns : List Str} (h : ∀ (i j : Nat) (z : Str), ns[i]? = some z → ns[j]? = some z → i = j) : ns.Nodup := by
  refine List.pairwise_iff_getElem.mpr fun i j hi hj hij e => ?_
  have q := h i j ns[j] (by rw [List.getElem?_eq_getElem hi, e]) (List.getElem?_eq_getElem hj)
  omega
/-- what the k-th name may be: a part of the stem and its letter -/
structure NmOf (cs : List Nat) (c : Nat) (z : Str) : Prop where
  ex : (∃ a, a ≤ 5 ∧ TL.tl z = cs.take a ++ [c] ++ cs.drop a) ∨ ∃ r, r ≤ 5 ∧ TL.tl z = cs.drop r ++ [c]
theorem nm_of {cs : List Nat} {c : Nat} {z : Str} (h : NmOf cs c z) (l5 : cs.length = 5) (h1 : ∀ x ∈ cs, 97 ≤ x ∧ x ≤ 122) (h2 : 97 ≤ c ∧ c ≤ 122) : IsNm z := by
  have ez : z.length = (TL.tl z).length := TL.len_tl z
  rcases h.ex with ⟨a, ha, e⟩ | ⟨r, hr, e⟩
  · refine ⟨?_, ?_, fun x hx => ?_⟩
    · rw [ez, e]; simp; omega
    · rw [ez, e]; simp; omega
    · have hx2 : x ∈ cs.take a ++ [c] ++ cs.drop a := by rw [← e]; exact hx
      simp only [List.mem_append, List.mem_singleton] at hx2
      rcases hx2 with (q | q) | q
      · exact h1 x (List.mem_of_mem_take q)
      · rw [q]; exact h2
      · exact h1 x (List.mem_of_mem_drop q)
  · refine ⟨?_, ?_, fun x hx => ?_⟩
    · rw [ez, e]; simp
    · rw [ez, e]; simp; omega
    · have hx2 : x ∈ cs.drop r ++ [c] := by rw [← e]; exact hx
      simp only [List.mem_append, List.mem_singleton] at hx2
      rcases hx2 with q | q
      · exact h1 x (List.mem_of_mem_drop q)
      · rw [q]; exact h2
theorem cut_lo (z : Str) (a : Nat) : TL.tl (cutS z none (some (a : Int))) = (TL.tl z).take a := by
  unfold cutS
  rw [HT.sIx_none, HT.sIx_nat]
  show ((z.cps.toList.drop 0).take (min a z.length - 0)) = z.cps.toList.take a
  rw [List.drop_zero, Nat.sub_zero]
  have e : z.length = z.cps.toList.length := by rw [Array.length_toList]; rfl
  rw [e]
  by_cases h : a ≤ z.cps.toList.length
  · rw [Nat.min_eq_left h]
  · rw [Nat.min_eq_right (by omega), List.take_length, List.take_of_length_le (by omega)]
theorem cut_hi (z : Str) (a : Nat) : TL.tl (cutS z (some (a : Int)) none) = (TL.tl z).drop a := by
  unfold cutS
  rw [HT.sIx_none, HT.sIx_nat]
  show ((z.cps.toList.drop (min a z.length)).take (z.length - min a z.length)) = z.cps.toList.drop a
  have e : z.length = z.cps.toList.length := by rw [Array.length_toList]; rfl
  rw [e]
  by_cases h : a ≤ z.cps.toList.length
  · rw [Nat.min_eq_left h, List.take_of_length_le (by rw [List.length_drop]; omega)]
  · rw [Nat.min_eq_right (by omega), List.drop_length, List.drop_of_length_le (by omega), List.take_nil]
theorem cut_len (z : Str) (lo hi : Option Int) : (cutS z lo hi).length ≤ z.length := by
  rw [TL.len_tl, TL.len_tl z]
  show (((z.cps.toList.drop (HT.sIx z.length 0 lo)).take (HT.sIx z.length z.length hi - HT.sIx z.length 0 lo))).length ≤ z.cps.toList.length
  rw [List.length_take, List.length_drop]
  omega
theorem tl_app (a b : Str) : TL.tl (a ++ b) = TL.tl a ++ TL.tl b := TL.tl_append a b
theorem words_nm : ∀ z ∈ ([("even" : Str), "order", "reason", "row", "none", "sure", "ask", "a", "b", "done"] : List Str), IsNm z := fun z hz => by
  simp only [List.mem_cons, List.not_mem_nil, or_false] at hz
  rcases hz with h | h | h | h | h | h | h | h | h | h <;> subst h <;> exact ⟨by decide +kernel, by decide +kernel, by decide +kernel⟩
section
variable {P : Program} {w : World} {K : PySem.W.Frag} {mg : Str → Option Value} {base : Heap} {f f1 f2 f3 : Addr} {fd fd1 fd2 fd3 : FuncData}
abbrev nLn : List Str := ["_law_bag", "_law_many", "_law_abc", "_law_road", "_law_first", "_law_stride", "_law_stem", "_law_letters", "_law_at", "_law_found", "_law_word", "_law_k", "_law_letter"]
theorem scLn : FnScope nLn ["_law_bag", "_law_many"] (defScope (top 63)) := ⟨rfl, rfl, rfl, by decide +kernel, rfl, by decide +kernel, by decide +kernel⟩
def spLn : Sp := fun vs H Q _ => ∃ (b l : Addr) (n : Nat), vs = [.ref b, .int n] ∧ BagAt b l H ∧ 1 ≤ n ∧ n ≤ 7 ∧ ∀ (H' : Hp) (p : Addr) (ns : List Str), But b H H' → BagAt b l H' → p ≠ b → AreNs ns → ns.length = n → H' p = some (.lst (ns.map V.str)) → Q (.ref p) H'
theorem c_lnames (B : Blt mg) (Pu : Cal P w K mg base 1 "_law_pull" ["_law_bag", "_law_sides"] spPu f1 fd1) (An : Cal P w K mg base 2 "_law_any" ["_law_bag", "_law_items"] (spAn K) f2 fd2) (D : DefAt K mg "_law_names" (top 63) f fd) : Cal P w K mg base 3 "_law_names" ["_law_bag", "_law_many"] spLn f fd := by
  refine D.cal scLn (fun _ _ _ _ _ _ us hl => match us, hl with | [_, _], _ => rfl) (fun vs H Q E h => ?_) (fun cdv A outer s H vs Q E hr h => ?_)
  · obtain ⟨b, l, n, rfl, _⟩ := h
    rfl
  · obtain ⟨b, l, n, rfl, hb, n1, n7, q⟩ := h
    have hr1 : Room 1 (A.deeper (envOfC "_law_names" (defScope (top 63)) s.heap.objs.size f cdv)) := hr.mono (by omega)
    refine ⟨_, pss_cons (ps_set (i := 2) scLn.nd rfl (Or.inr rfl) pe_str)
      (pss_cons (ps_asg (pe_tup (pa_cons (pe_cal Pu hr1 (by rfl) (pa_cons (pv 0) (pa_cons pe_int pa_nil))) (pa_cons (pe_cal Pu hr1 (by rfl) (pa_cons (pv 0) (pa_cons pe_int pa_nil)))
          (pa_cons (pe_cal An hr (by rfl) (pa_cons (pv 0) (pa_cons (pe_lst (pa_cons pe_int (pa_cons pe_int (pa_cons pe_int (pa_cons pe_int (pa_cons pe_int (pa_cons pe_int (pa_cons pe_int (pa_cons pe_int pa_nil))))))))) pa_nil))) pa_nil))))
          (pg_tup rfl (pgs_cons (pg_name (i := 3) scLn.nd rfl (Or.inl rfl)) (pgs_cons (pg_name (i := 4) scLn.nd rfl (Or.inr rfl)) (pgs_cons (pg_name (i := 5) scLn.nd rfl (Or.inr rfl)) pgs_nil))) (by rfl)))
      (pss_cons (ps_set (i := 6) scLn.nd rfl (Or.inr rfl) (pe_join pe_str (pe_lc (own := [("_law_k", 11)]) (g := gName 11) (tt := tYes) rfl scLn.nd (pi_range1 (by rfl) B.range (pa_cons pe_int pa_nil)) (blkOk_by (N := nLn) (own := [("_law_k", 11)]) (sc := defScope (top 63)) (by decide +kernel)) (fun _ _ _ _ _ => pg_name (i := 11) scLn.nd rfl (Or.inl rfl)) (fun _ _ _ _ _ => pts_nil)
          (fun _ _ _ _ _ => pe_cal An hr (by rfl) (pa_cons (pv 0) (pa_cons (pv 2) pa_nil))))))
      (pss_cons (ps_setLc (i := 7) (own := [("_law_k", 11)]) (g := gName 11) (tt := tYes) rfl scLn.nd rfl rfl (sw_true rfl rfl rfl (by decide +kernel)) (pi_range1 (by rfl) B.range (pa_cons (pv 1) pa_nil)) (blkOk_by (N := nLn) (own := [("_law_k", 11)]) (sc := defScope (top 63)) (by decide +kernel)) (fun _ _ _ _ _ => pg_name (i := 11) scLn.nd rfl (Or.inl rfl)) (fun _ _ _ _ _ => pts_nil)
          (fun _ _ _ _ _ => pe_item_str (pv 2) (pe_op op_mod (pe_callTy call_int1 (by rfl) B.int (by decide +kernel) (pa_cons (pe_op op_add (pv 4) (pe_op op_mul (pv 5) (pv 11))) pa_nil)) pe_int) (fun _ _ => rfl)))
      (pss_cons (ps_if (pt_cmpR op_eq (pv 3) pe_int (by rfl))
          (pss_cons (ps_set (i := 8) scLn.nd rfl (Or.inr rfl) (pe_cal Pu hr1 (by rfl) (pa_cons (pv 0) (pa_cons pe_int pa_nil))))
          (pss_one (ps_ret (pe_lc (own := [("_law_letter", 12)]) (g := gName 12) (tt := tYes) rfl scLn.nd (pi_list (pv 7)) (blkOk_by (N := nLn) (own := [("_law_letter", 12)]) (sc := defScope (top 63)) (by decide +kernel)) (fun _ _ _ _ _ => pg_name (i := 12) scLn.nd rfl (Or.inl rfl)) (fun _ _ _ _ _ => pts_nil)
            (fun _ _ _ _ _ => pe_op op_add_str (pe_op op_add_str (pe_slice sl_str (pv 6) po_none (po_some (pv 8))) (pv 12)) (pe_slice sl_str (pv 6) (po_some (pv 8)) po_none)))))) pss_nil)
      (pss_cons (ps_setLc (i := 9) (own := [("_law_letter", 12)]) (g := gName 12) (tt := tYes) rfl scLn.nd rfl rfl (sw_true rfl rfl rfl (by decide +kernel)) (pi_list (pv 7)) (blkOk_by (N := nLn) (own := [("_law_letter", 12)]) (sc := defScope (top 63)) (by decide +kernel)) (fun _ _ _ _ _ => pg_name (i := 12) scLn.nd rfl (Or.inl rfl)) (fun _ _ _ _ _ => pts_nil)
          (fun _ _ _ _ _ => pe_op op_add_str (pe_slice sl_str (pv 6) (po_some (pe_cal Pu hr1 (by rfl) (pa_cons (pv 0) (pa_cons pe_int pa_nil)))) po_none) (pv 12)))
      (pss_cons (ps_cut (ps_if (PW.pt (pw_and (pt_cmpR op_eq (pv 3) pe_int (by rfl)) (pw_and1 (pt_cmpR op_gt (pv 1) pe_int (by rfl)))))
          (pss_cons (ps_set (i := 10) scLn.nd rfl (Or.inl rfl) (pe_cal An hr (by rfl) (pa_cons (pv 0) (pa_cons (pe_lst (pa_cons pe_str (pa_cons pe_str (pa_cons pe_str (pa_cons pe_str (pa_cons pe_str (pa_cons pe_str (pa_cons pe_str (pa_cons pe_str (pa_cons pe_str (pa_cons pe_str pa_nil))))))))))) pa_nil))))
          (pss_one (ps_if (pt_cmpR op_notIn_seq (pv 10) (pv 9) (by rfl)) (pss_one (ps_asg (pv 10) (pg_sub (pv 9) (pe_cal Pu hr1 (by rfl) (pa_cons (pv 0) (pa_cons (pv 1) pa_nil))) set_list))) pss_nil))) pss_nil))
      (pss_one (ps_ret (pv 9))))))))), ?_⟩
    refine ⟨_, rfl, b, l, 4, rfl, hb, by decide, by decide, fun H1 rd k1 hb1 r0 r1 => ?_⟩
    refine ⟨_, rfl, b, l, 26, rfl, hb1, by decide, by decide, fun H2 fi k2 hb2 f0 f1 => ?_⟩
    refine ⟨_, rfl, sz (show 8 ≤ 100000 by decide), fun p0 np0 => ?_⟩
    have s0 : L2.Same H2 (upd H2 p0 (.lst [.int 1, .int 25, .int 3, .int 7, .int 11, .int 15, .int 17, .int 21])) := same_new np0
    refine ⟨b, l, _, rfl, hb2.same s0, .inl ⟨p0, _, rfl, SqB.lst upd_same (hb2.ne np0).1, by decide, by decide, fun H3 x k3 hb3 hx => ?_⟩⟩
    obtain ⟨st, rfl, hst⟩ : ∃ st : Int, x = .int st ∧ Stride st := by
      simp only [List.mem_cons, List.not_mem_nil, or_false] at hx
      rcases hx with h | h | h | h | h | h | h | h <;> exact ⟨_, h, by simp [Stride]⟩
    have st0 : 0 < st ∧ st ≤ 25 := by
      rcases hst with h | h | h | h | h | h | h | h <;> subst h <;> decide
    have k03 : But b H H3 := ((k1.trans k2).trans (But.of s0)).trans k3
    refine ⟨sz (show 3 ≤ 100000 by decide), fun t nt => ⟨t, _, rfl, SqT.of upd_same, rfl, _, _, rfl, _, _, rfl, _, _, rfl, rfl, ?_⟩⟩
    have s4 : L2.Same H3 (upd H3 t (.tup [.int rd, .int fi, .int st])) := same_new nt
    have k04 := k03.trans (But.of s4)
    have hb4 := hb3.same s4
    generalize upd H3 t (.tup [.int rd, .int fi, .int st]) = H4 at k04 hb4 ⊢
    refine ⟨⟨_, rfl⟩, 5, rfl, by decide, by decide, ?_⟩
    refine lcB (b := b) (l := l) (srcR 0 (5 : Int).toNat) (by decide) (fun i acc _ => ∃ cs : List Nat, acc = (cs.map s1c).map V.str ∧ cs.length = i ∧ ∀ c ∈ cs, 97 ≤ c ∧ c ≤ 122) (fun _ _ _ _ _ h => h) ⟨[], rfl, rfl, fun z hz => by cases hz⟩ hb4 (fun _ _ => True.intro) (fun i x acc H5 hi hR k5 hb5 hI Y Z hY hZ => ?_) (fun Dl acc H5 hD k5 hb5 eD hI => ?_)
    · obtain ⟨cs, rfl, hz, hbd⟩ := hI
      refine ⟨rfl, _, rfl, _, rfl, b, l, _, rfl, hb5, .inr ⟨abc, rfl, by decide +kernel, by decide +kernel, fun H6 c k6 hb6 hc => ?_⟩⟩
      rw [abc_eq, List.mem_range'_1] at hc
      exact hY _ H6 k6 hb6 ⟨cs ++ [c], by rw [List.map_append, List.map_append]; rfl, by rw [List.length_append, hz]; rfl, fun z hz2 => by
        rcases List.mem_append.mp hz2 with h | h
        · exact hbd z h
        · rw [List.mem_singleton.mp h]
          omega⟩
    obtain ⟨cs, rfl, l5, hcs⟩ := hI
    have l5' : cs.length = 5 := l5
    have eS : TL.tl (Txt.join "" (cs.map s1c)) = cs := join_1 cs
    refine ⟨_, Dl, cs.map s1c, rfl, rfl, .inl (SqL.of eD), ?_, ?_⟩
    · rw [List.map_map]
      have e9 : (Str.length ∘ s1c) = fun _ => 1 := rfl
      rw [e9, List.map_const', List.sum_replicate_nat, List.length_map]
      have e8 : ("" : Str).length = 0 := by decide +kernel
      rw [e8]
      omega
    have k05 := k04.trans k5
    generalize Txt.join "" (cs.map s1c) = S at eS ⊢
    have lS : S.length = 5 := by rw [TL.len_tl, eS]; exact l5'
    have hltr : ∀ k, 97 ≤ 97 + ltr fi st k ∧ 97 + ltr fi st k ≤ 122 := fun k => by
      have := ltr_lt fi st k
      omega
    -- the letters
    refine ⟨_, rfl, (n : Int), rfl, by omega, by omega, ?_⟩
    refine lcV (srcR 0 ((n : Int)).toNat) (by omega) ((List.range n).map fun k => V.str (s1c (97 + ltr fi st k))) (by simp) (fun _ _ => True.intro) (fun i x y H6 hi hR hy sm Y hY => ?_) (fun D2 H6 hD2 sm6 eD2 => ?_)
    · obtain ⟨k, hk, rfl⟩ := map_at hy
      have hin : i < n := by omega
      have ek : k = i := by
        rw [List.getElem?_range hin] at hk
        exact (Option.some.inj hk).symm
      subst ek
      have ex : x = .int (k : Int) := by
        have q9 : x = .int (0 + (k : Int)) := hR
        rw [Int.zero_add] at q9
        exact q9
      subst ex
      have h1 := Int.emod_nonneg (fi + st * (k : Int)) (show (26 : Int) ≠ 0 by decide)
      have h2 := Int.emod_lt_of_pos (fi + st * (k : Int)) (show (0 : Int) < 26 by decide)
      have el : (abc.length : Nat) = 26 := by decide +kernel
      refine ⟨rfl, _, rfl, _, rfl, _, rfl, _, rfl, _, _, rfl, rfl, .inl ⟨by omega, by omega⟩, _, _, rfl, rfl, .inl ⟨_, rfl, _, _, rfl, rfl, (show (0 : Int) < 26 by decide), abc, _, 97 + ltr fi st k, rfl, rfl, h1, by omega, by rw [el]; omega, abc_at (ltr_lt fi st k), hY _ (L2.Same.refl _)⟩⟩
    have nD2 : D2 ≠ b := (hb5.ne hD2).1
    have hb6 := hb5.same sm6
    have k06 := k05.trans (But.of sm6)
    have lLt : ((List.range n).map fun k => V.str (s1c (97 + ltr fi st k))).length = n := by simp
    refine ⟨_, rfl, rfl, _, rfl, ite2 (fun _ => ?_) (fun _ => ?_)⟩
    · refine ⟨_, rfl, b, l, 6, rfl, hb6, by decide, by decide, fun H7 a k7 hb7 a0 a1 => ?_⟩
      obtain ⟨an, rfl⟩ := Int.eq_ofNat_of_zero_le a0
      have eD7 := k7 _ _ nD2 eD2
      refine ⟨_, rfl, D2, rfl, ⟨_, SqL.of eD7⟩, ?_⟩
      refine lcV (srcL D2 ((List.range n).map fun k => V.str (s1c (97 + ltr fi st k)))) (by omega) (((List.range n).map fun k => cutS S none (some (an : Int)) ++ s1c (97 + ltr fi st k) ++ cutS S (some (an : Int)) none).map V.str) (by simp) (fun H' sm => SqL.of (sm _ _ eD7)) (fun i x y H8 hi hR hy sm Y hY => ?_) (fun D3 H8 hD3 sm8 eD3 => ?_)
      · obtain ⟨k, hk, rfl⟩ := map_at hR
        obtain ⟨y1, hy1, rfl⟩ := map_at hy
        obtain ⟨k2, hk2, rfl⟩ := map_at hy1
        rw [hk] at hk2
        cases hk2
        have c1 := cut_len S none (some (an : Int))
        have c2 := cut_len S (some (an : Int)) none
        have c3 : (cutS S none (some (an : Int)) ++ s1c (97 + ltr fi st k)).length = (cutS S none (some (an : Int))).length + 1 := by
          rw [TL.len_tl, tl_app, List.length_append, ← TL.len_tl]
          rfl
        have c4 : (s1c (97 + ltr fi st k)).length = 1 := rfl
        exact ⟨rfl, _, rfl, _, rfl, _, rfl, S, rfl, sz (by omega), _, rfl, _, _, rfl, rfl, sz (by omega), _, rfl, _, rfl, _, rfl, S, rfl, sz (by omega), _, _, rfl, rfl, sz (by omega), hY _ (L2.Same.refl _)⟩
      · have hnm : ∀ (i : Nat) (z : Str), ((List.range n).map fun k => cutS S none (some (an : Int)) ++ s1c (97 + ltr fi st k) ++ cutS S (some (an : Int)) none)[i]? = some z → i < n ∧ TL.tl z = cs.take an ++ [97 + ltr fi st i] ++ cs.drop an := fun i z hz => by
          obtain ⟨k, hk, rfl⟩ := map_at hz
          have hkn : i < n := by
            have := (List.getElem?_eq_some_iff.mp hk).1
            simpa using this
          rw [List.getElem?_range hkn] at hk
          have ek := Option.some.inj hk
          subst ek
          refine ⟨hkn, ?_⟩
          rw [tl_app, tl_app, cut_lo, cut_hi, eS]
          rfl
        refine q H8 D3 _ ((k06.trans k7).trans (But.of sm8)) (hb7.same sm8) (hb7.ne hD3).1 ⟨fun z hz => ?_, nd_of fun i j z hi hj => ?_, by simp; omega⟩ (by simp) eD3
        · obtain ⟨i, hi, ei⟩ := List.mem_iff_getElem.mp hz
          obtain ⟨hin, e9⟩ := hnm i z (by rw [List.getElem?_eq_getElem hi, ei])
          exact nm_of ⟨.inl ⟨an, by omega, e9⟩⟩ l5' hcs (hltr i)
        · obtain ⟨hin, e9⟩ := hnm i z hi
          obtain ⟨hjn, e8⟩ := hnm j z hj
          rw [e9] at e8
          have e7 := List.append_cancel_left (List.append_cancel_right e8)
          have e6 : 97 + ltr fi st i = 97 + ltr fi st j := List.cons.inj e7 |>.1
          exact ltr_inj (fi := fi) hst (by omega) (by omega) (by omega)
    · refine ⟨_, rfl, D2, rfl, ⟨_, SqL.of eD2⟩, ?_⟩
      refine lcB (b := b) (l := l) (srcL D2 ((List.range n).map fun k => V.str (s1c (97 + ltr fi st k)))) (by omega) (fun i acc _ => ∃ ns : List Str, acc = ns.map V.str ∧ ns.length = i ∧ ∀ (j : Nat) (z : Str), ns[j]? = some z → ∃ r, r ≤ 5 ∧ TL.tl z = cs.drop r ++ [97 + ltr fi st j]) (fun _ _ _ _ _ h => h) ⟨[], rfl, rfl, fun j z hz => by simp at hz⟩ hb6 (fun H' k => SqL.of (k _ _ nD2 eD2)) (fun i x acc H7 hi hR k7 hb7 hI Y Z hY hZ => ?_) (fun D3 acc H7 hD3 k7 hb7 eD3 hI => ?_)
      · obtain ⟨ns, rfl, hl2, hns⟩ := hI
        obtain ⟨k, hk, rfl⟩ := map_at hR
        have hin : i < n := by omega
        have ek : k = i := by
          rw [List.getElem?_range hin] at hk
          exact (Option.some.inj hk).symm
        subst ek
        refine ⟨rfl, _, rfl, _, rfl, b, l, 6, rfl, hb7, by decide, by decide, fun H8 r k8 hb8 r0 r1 => ?_⟩
        obtain ⟨rn, rfl⟩ := Int.eq_ofNat_of_zero_le r0
        have c2 := cut_len S (some (rn : Int)) none
        have c4 : (s1c (97 + ltr fi st k)).length = 1 := rfl
        refine ⟨_, rfl, S, rfl, sz (by omega), _, rfl, _, _, rfl, rfl, sz (by omega), hY _ H8 k8 hb8 ⟨ns ++ [cutS S (some (rn : Int)) none ++ s1c (97 + ltr fi st k)], by rw [List.map_append]; rfl, by rw [List.length_append, hl2]; rfl, fun j z hz => ?_⟩⟩
        by_cases hj : j < ns.length
        · rw [List.getElem?_append_left hj] at hz
          exact hns j z hz
        · rw [List.getElem?_append_right (by omega)] at hz
          have ej : j = k := by
            have q9 := (List.getElem?_eq_some_iff.mp hz).1
            simp at q9
            omega
          subst ej
          rw [hl2, Nat.sub_self] at hz
          have ez := Option.some.inj hz
          subst ez
          refine ⟨rn, by omega, ?_⟩
          rw [tl_app, cut_hi, eS]
          rfl
      · obtain ⟨ns, rfl, hl2, hns⟩ := hI
        have hln : ns.length = n := by omega
        have nD3 := (hb6.ne hD3).1
        have nD3l := (hb6.ne hD3).2
        have hA : AreNs ns := by
          refine ⟨fun z hz => ?_, nd_of fun i j z hi hj => ?_, by omega⟩
          · obtain ⟨i, hi, ei⟩ := List.mem_iff_getElem.mp hz
            obtain ⟨r, hr5, e9⟩ := hns i z (by rw [List.getElem?_eq_getElem hi, ei])
            exact nm_of ⟨.inr ⟨r, hr5, e9⟩⟩ l5' hcs (hltr i)
          · obtain ⟨r, _, e9⟩ := hns i z hi
            obtain ⟨r2, _, e8⟩ := hns j z hj
            rw [e9] at e8
            have e7 := congrArg List.getLast? e8
            simp at e7
            have h1 := (List.getElem?_eq_some_iff.mp hi).1
            have h2 := (List.getElem?_eq_some_iff.mp hj).1
            exact ltr_inj (fi := fi) hst (by omega) (by omega) (by omega)
        have k07 := k06.trans k7
        have nD30 : H D3 = none := by
          cases e : H D3 with
          | none => rfl
          | some o =>
            have := k06 _ _ nD3 e
            rw [this] at hD3
            cases hD3
        refine ⟨fun σ' H' => (∃ y, σ' = [some (.ref b), some (.int (n : Nat)), some (.str abc), some (.int rd), some (.int fi), some (.int st), some (.str S), some (.ref D2), none, some (.ref D3), y, none, none]) ∧ But b H H' ∧ BagAt b l H' ∧ ∃ ns : List Str, AreNs ns ∧ ns.length = n ∧ H' D3 = some (.lst (ns.map V.str)), ?_, ?_⟩
        · refine ⟨_, rfl, rfl, _, rfl, ite2 (fun _ => ?_) (fun _ => iteF ⟨⟨_, rfl⟩, k07, hb7, ns, hA, hln, eD3⟩)⟩
          refine ⟨_, rfl, _, _, rfl, rfl, _, rfl, iteD (by omega) ?_⟩
          refine ⟨_, rfl, sz (show 10 ≤ 100000 by decide), fun p1 np1 => ?_⟩
          have s8 : L2.Same H7 (upd H7 p1 (.lst (([("even" : Str), "order", "reason", "row", "none", "sure", "ask", "a", "b", "done"] : List Str).map V.str))) := same_new np1
          refine ⟨b, l, _, rfl, hb7.same s8, .inl ⟨p1, ([("even" : Str), "order", "reason", "row", "none", "sure", "ask", "a", "b", "done"] : List Str).map V.str, rfl, SqB.lst upd_same (hb7.ne np1).1, by decide, by decide, fun H8 x k8 hb8 hx => ?_⟩⟩
          obtain ⟨wd, hwd, rfl⟩ := List.mem_map.mp hx
          have hwn := words_nm wd hwd
          have eD8 := k8 _ _ nD3 (s8 _ _ eD3)
          have k08 := (k07.trans (But.of s8)).trans k8
          refine ⟨_, rfl, _, rfl, D3, _, rfl, .inl (SqL.of eD8), rfl, flat_strs ns, _, rfl, ?_⟩
          show if (!inV (.str wd) (ns.map V.str)) = true then _ else _
          rw [inV_strs]
          by_cases hw : wd ∈ ns
          · rw [decide_eq_true hw]
            exact iteF ⟨⟨_, rfl⟩, k08, hb8, ns, hA, hln, eD8⟩
          · rw [decide_eq_false hw]
            refine iteT ⟨_, rfl, _, rfl, _, rfl, _, rfl, b, l, _, rfl, hb8, by omega, by omega, fun H9 r k9 hb9 r0 r1 => ?_⟩
            obtain ⟨j, rfl⟩ := Int.eq_ofNat_of_zero_le r0
            have eD9 := k9 _ _ nD3 eD8
            refine ⟨D3, _, _, j, rfl, rfl, eD9, ixn (by rw [List.length_map]; omega), ⟨_, rfl⟩, but_put (k08.trans k9) nD30, hb9.put nD3 nD3l, ns.set j wd, ⟨fun z hz => ?_, nd_set hA.nd hw, by rw [List.length_set]; omega⟩, by rw [List.length_set]; exact hln, by rw [upd_same, List.map_set]⟩
            rcases List.mem_or_eq_of_mem_set hz with h | h
            · exact hA.nm z h
            · rw [h]
              exact hwn
        · rintro σ' H8 ⟨⟨y, rfl⟩, k8, hb8, ns8, hA8, l8, e8⟩
          exact ⟨_, rfl, q H8 D3 ns8 k8 hb8 nD3 hA8 l8 e8⟩
end
end Kb
/-! sorted(t), t a tuple of texts (the hand layer has it of lists). -/
namespace Kb
open PySem PySem.Spec PyProof.Rows L2
def rSortedT (K : PySem.W.Frag) : List V → Hp → VK → Prop := fun vs H Q => ∃ (a : Addr) (xs : List Str), vs = [V.ref a] ∧ SqT K H a (xs.map V.str) ∧ xs.length < 64 ∧
  ∀ (ys : List Str) (p : Addr), ys.Perm xs → sortedS ys = true → H p = none → Q (.ref p) (upd H p (.lst (ys.map V.str)))
theorem cr_sortedT {X : Cx} : CallR X (.builtin "sorted") (rSortedT X.K) := by
  intro pins s σ H vs us Q I r h
  obtain ⟨a, xs, rfl, hs, h64, q⟩ := h
  obtain ⟨its, rv, hl, _⟩ := I.tuple hs
  rw [Vals.ref1 r]
  have hlen0 := rv.length
  rw [List.length_map] at hlen0
  obtain ⟨o, ho, hc, n, hd⟩ := hl
  refine Calls.call_function_entry PyProof.Rows.kind_sorted PyProof.Rows.plain_sorted PyProof.Rows.entry_sorted (PyProof.Rows.args_sorted1 _) ?_
  unfold Builtin.«sorted»
  refine wpAny_bind (m := checkCount "sorted" 1 1 _) (wpAny_pure ?_)
  refine wpAny_bind (wpAny_collect_seq a (.inr rfl) ho hc hd (fun h' hk => ?_) (by rw [List.size_toArray, sizeLine_eq]; omega))
  have hS : StrsAre its xs := rv.strs
  have I1 : Inv X pins σ H { s with heap := h' } := I.kept (t' := s.toks) hk
  have hal : its.length = xs.length := hlen0.symm
  rw [show its.toArray.toList = its by simp]
  refine wpAny_bind (wpAny_newList ?_ (by rw [hal, sizeLine_eq]; omega))
  have hoL : (h'.push (seqObj "list" its.toArray 0)).get? h'.objs.size = some (seqObj "list" its.toArray 0) := Heap.get?_push_size _ rfl
  show wpAny _ _ _ _ _ { s with heap := h'.push (seqObj "list" its.toArray 0) }
  refine wpAny_bind (wpAny_holding (wpAny_call_entry PyProof.Rows.slot_list_sort ⟨_, hoL, rfl⟩ PyProof.Rows.entry_list_sort
    (list_sort_treeK strKind_oneLt (s := { s with heap := h'.push (seqObj "list" its.toArray 0) }) hoL hS.keysOf (fun v₁ v₂ rest e => keyKind_strs (by rw [← e]; exact hS)) (by rw [hal]; exact h64) fun st' hp hs => ⟨_, rfl, ?_⟩)
    (PyProof.Rows.args_list_sort _)))
  obtain ⟨ys, g1, g2, g3⟩ := sorted_out_str hS hp hs
  obtain ⟨e', he'⟩ := PyProof.Rows.sortedHeap_at (vs := its) (out := (arrOf st').map (·.2)) hoL
  have hlen : (ys.map V.str).length ≤ sizeLine := by
    rw [List.length_map, g2.length_eq]
    exact Nat.le_trans (Nat.le_of_lt h64) (by decide)
  refine wpAny_pure ⟨_, rfl, .ref h'.objs.size, upd H h'.objs.size (.lst (ys.map V.str)), I1.laid (t' := s.toks) (fun b u e => ?_) (Nat.le_refl _)
    (show ObjOk X.prog X.w _ _ _ (.lst (ys.map V.str)) from ⟨hlen, ((arrOf st').map (·.2)).toList, e', vals_of_strs g1, by rw [Array.toArray_toList]; exact he'⟩), rfl, q ys _ g2 g3 (I1.hok.fresh (Nat.le_refl _))⟩
  have hb : b < h'.objs.size := Heap.lt_size e
  rw [PyProof.Rows.sortedHeap_old (Nat.ne_of_lt hb) (by rw [size_push']; exact Nat.lt_succ_of_lt hb)]
  exact Heap.get?_push_of_some _ e
end Kb
/-! The law's small defs: numbers, dot, less, order, bears, row_of. -/
namespace Kb
open PySem PySem.Spec PyProof.Rows L2
def linB : Cel → Int → Int → Bool
  | .i n, lo, hi => decide (lo ≤ n) && decide (n ≤ hi)
  | .b _, _, _ => false
theorem iteB {c : Bool} {A B : Prop} (h : c = true → A) (h2 : c = false → B) : if c = true then A else B := by
  cases c with
  | true => exact iteT (h rfl)
  | false => exact iteF (h2 rfl)
section
variable {P : Program} {w : World} {K : PySem.W.Frag} {mg : Str → Option Value} {base : Heap} {f f1 f2 f3 fI fN fD fB Co g : Addr} {fd fd1 fd2 fd3 : FuncData}
/-! ### _law_is_number -/
theorem scLi : FnScope ["_law_item", "_law_low", "_law_high"] ["_law_item", "_law_low", "_law_high"] (defScope (top 64)) := ⟨rfl, rfl, rfl, by decide +kernel, rfl, by decide +kernel, by decide +kernel⟩
def spLi : Sp := fun vs H Q _ => ∃ (c : Cel) (lo hi : Int), vs = [c.v, .int lo, .int hi] ∧ Q (.bl (linB c lo hi)) H
theorem c_lnum (B : Blt mg) (D : DefAt K mg "_law_is_number" (top 64) f fd) : Cal P w K mg base 1 "_law_is_number" ["_law_item", "_law_low", "_law_high"] spLi f fd := by
  refine D.cal scLi (fun _ _ _ _ _ _ us hl => match us, hl with | [_, _, _], _ => rfl) (fun vs H Q E h => ?_) (fun cdv A outer s H vs Q E hr h => ?_)
  · obtain ⟨c, lo, hi, rfl, _⟩ := h
    rfl
  · obtain ⟨c, lo, hi, rfl, q⟩ := h
    refine ⟨_, pss_one (ps_ret (pe_and (pe_callB call_isi (by rfl) B.isinstance (by decide +kernel) (pa_cons (pv 0) (pa_cons (pe_bltn (v := .ty "int") (by rfl) B.int (by decide +kernel) rfl) pa_nil)))
      (pe_and (pe_not (pe_callB call_isi (by rfl) B.isinstance (by decide +kernel) (pa_cons (pv 0) (pa_cons (pe_bltn (v := .ty "bool") (by rfl) B.bool (by decide +kernel) rfl) pa_nil))))
        (pe_one (pe_chain op_le op_le (pv 1) (pv 0) (pv 2)))))), ?_⟩
    cases c with
    | i n =>
      refine ⟨_, rfl, .int n, .ty "int", .type "int", .type "int", true, rfl, .ty "int", .base (.int n), kit_ty (by decide +kernel), true, rfl, iteT ?_⟩
      refine ⟨_, rfl, .int n, .ty "bool", .type "int", .type "bool", false, rfl, .ty "bool", .base (.int n), kit_ty (by decide +kernel), false, rfl, true, rfl, iteT ?_⟩
      refine ⟨_, rfl, _, rfl, lo, n, rfl, rfl, decide (lo ≤ n), rfl, iteB (fun e => ?_) (fun e => ?_)⟩
      · have q2 : Q (.bl (decide (lo ≤ n) && decide (n ≤ hi))) H := q
        rw [e, Bool.true_and] at q2
        exact ⟨_, rfl, n, hi, rfl, rfl, q2⟩
      · have q2 : Q (.bl (decide (lo ≤ n) && decide (n ≤ hi))) H := q
        rw [e, Bool.false_and] at q2
        exact q2
    | b k =>
      refine ⟨_, rfl, .bl k, .ty "int", .type "bool", .type "int", true, rfl, .ty "int", .base (.bl k), kit_ty (by decide +kernel), true, rfl, iteT ?_⟩
      exact ⟨_, rfl, .bl k, .ty "bool", .type "bool", .type "bool", true, rfl, .ty "bool", .base (.bl k), kit_ty (by decide +kernel), true, rfl, false, rfl, iteF q⟩
/-! ### _law_is_whole -/
theorem scLw : FnScope ["_law_item"] ["_law_item"] (defScope (top 65)) := ⟨rfl, rfl, rfl, by decide +kernel, rfl, by decide +kernel, by decide +kernel⟩
def spLw : Sp := fun vs H Q _ => ∃ n : Int, vs = [.int n] ∧ Q (.bl (decide (0 ≤ n))) H
theorem c_lwhole (B : Blt mg) (D : DefAt K mg "_law_is_whole" (top 65) f fd) : Cal P w K mg base 1 "_law_is_whole" ["_law_item"] spLw f fd := by
  refine D.cal scLw (fun _ _ _ _ _ _ us hl => match us, hl with | [_], _ => rfl) (fun vs H Q E h => ?_) (fun cdv A outer s H vs Q E hr h => ?_)
  · obtain ⟨n, rfl, _⟩ := h
    rfl
  · obtain ⟨n, rfl, q⟩ := h
    refine ⟨_, pss_one (ps_ret (pe_and (pe_callB call_isi (by rfl) B.isinstance (by decide +kernel) (pa_cons (pv 0) (pa_cons (pe_bltn (v := .ty "int") (by rfl) B.int (by decide +kernel) rfl) pa_nil)))
      (pe_and (pe_not (pe_callB call_isi (by rfl) B.isinstance (by decide +kernel) (pa_cons (pv 0) (pa_cons (pe_bltn (v := .ty "bool") (by rfl) B.bool (by decide +kernel) rfl) pa_nil))))
        (pe_one (pe_cmpR op_ge (pv 0) pe_int (by rfl)))))), ?_⟩
    refine ⟨_, rfl, .int n, .ty "int", .type "int", .type "int", true, rfl, .ty "int", .base (.int n), kit_ty (by decide +kernel), true, rfl, iteT ?_⟩
    refine ⟨_, rfl, .int n, .ty "bool", .type "int", .type "bool", false, rfl, .ty "bool", .base (.int n), kit_ty (by decide +kernel), false, rfl, true, rfl, iteT ?_⟩
    exact ⟨_, rfl, _, _, rfl, rfl, q⟩
/-! ### _law_dot -/
abbrev nDo : List Str := ["_law_one", "_law_other", "_law_x", "_law_y"]
theorem scDo : FnScope nDo ["_law_one", "_law_other"] (defScope (top 70)) := ⟨rfl, rfl, rfl, by decide +kernel, rfl, by decide +kernel, by decide +kernel⟩
def spDo (K : PySem.W.Frag) : Sp := fun vs H Q _ => ∃ (a c : Addr) (ss : List Str) (fv g : Str → Int), vs = [.ref a, .ref c] ∧ ss.length ≤ 100 ∧ SqT K H a ((ss.map fv).map V.int) ∧ SqT K H c ((ss.map g).map V.int) ∧ (∀ z ∈ ss, CMulW (fv z) (g z)) ∧ ∀ H', L2.Same H H' → Q (.int (ss.map fun z => fv z * g z).sum) H'
theorem c_ldot (B : Blt mg) (D : DefAt K mg "_law_dot" (top 70) f fd) : Cal P w K mg base 1 "_law_dot" ["_law_one", "_law_other"] (spDo K) f fd := by
  refine D.cal scDo (fun _ _ _ _ _ _ us hl => match us, hl with | [_, _], _ => rfl) (fun vs H Q E h => ?_) (fun cdv A outer s H vs Q E hr h => ?_)
  · obtain ⟨a, c, ss, fv, g, rfl, _⟩ := h
    rfl
  · obtain ⟨a, c, ss, fv, g, rfl, hl, ha, hc, hm, q⟩ := h
    refine ⟨_, pss_one (ps_ret (pe_callB (cr_sum rfl) (by rfl) B.sum (by decide +kernel) (pa_cons
            (pe_lc (own := [("_law_x", 2), ("_law_y", 3)]) (g := gTup K 2 (gCons (gName 2) (gCons (gName 3) gNil))) (tt := tYes) rfl scDo.nd (RZ.pi_zipA (by rfl) B.zip (pa_cons (pv 0) (pa_cons (pv 1) pa_nil))) (blkOk_by (N := nDo) (own := [("_law_x", 2), ("_law_y", 3)]) (sc := defScope (top 70)) (by decide +kernel))
              (fun _ _ _ _ _ => pg_tup rfl (pgs_cons (pg_name (i := 2) scDo.nd rfl (Or.inl rfl)) (pgs_cons (pg_name (i := 3) scDo.nd rfl (Or.inl rfl)) pgs_nil)) (by rfl)) (fun _ _ _ _ _ => pts_nil) (fun _ _ _ _ _ => pe_op op_mulW (pv 2) (pv 3))) pa_nil))), ?_⟩
    refine ⟨_, rfl, _, rfl, a, c, _, _, rfl, .inr ⟨ha, hc, ?_⟩⟩
    refine lcV (srcZT a c ((ss.map fv).map V.int) ((ss.map g).map V.int) (by simp)) (by simp; omega) ((ss.map fun z => fv z * g z).map V.int) (by simp) (fun H' sm4 => ⟨Kb.Same.tup sm4 ha, Kb.Same.tup sm4 hc⟩) (fun i2 x2 y2 H4 hi2 hR2 hy2 sm4 Y2 hY2 => ?_) (fun Dl2 H4 hD2 sm4 eD2 => ?_)
    · obtain ⟨p, q1, hp1, hq1, T, rfl, eT⟩ := hR2
      obtain ⟨m1, hm1, rfl⟩ := map_at hp1
      obtain ⟨z, hz, rfl⟩ := map_at hm1
      obtain ⟨m2, hm2, rfl⟩ := map_at hq1
      obtain ⟨z2, hz2, rfl⟩ := map_at hm2
      rw [hz] at hz2
      cases hz2
      obtain ⟨m3, hm3, rfl⟩ := map_at hy2
      obtain ⟨z3, hz3, rfl⟩ := map_at hm3
      rw [hz] at hz3
      cases hz3
      have hzs := List.mem_of_getElem? hz
      exact ⟨T, _, rfl, SqT.of eT, rfl, _, _, rfl, _, _, rfl, rfl, rfl, _, rfl, _, rfl, _, _, rfl, rfl, hm z hzs, hY2 _ (L2.Same.refl _)⟩
    · exact ⟨Dl2, _, rfl, SqL.of eD2, q H4 sm4⟩
/-! ### _law_less -/
theorem scLs : FnScope ["_law_one", "_law_x"] ["_law_one"] (defScope (top 73)) := ⟨rfl, rfl, rfl, by decide +kernel, rfl, by decide +kernel, by decide +kernel⟩
def spLs (K : PySem.W.Frag) : Sp := fun vs H Q _ => ∃ (v : V) (ss : List Str) (fv : Str → Int), vs = [v] ∧ ss.length ≤ 100 ∧ VecAt K H ss v fv ∧ ∀ (H' : Hp) (u : V), L2.Same H H' → VecAt K H' ss u (fun z => -(fv z)) → Q u H'
theorem c_lless (B : Blt mg) (D : DefAt K mg "_law_less" (top 73) f fd) : Cal P w K mg base 1 "_law_less" ["_law_one"] (spLs K) f fd := by
  refine D.cal scLs (fun _ _ _ _ _ _ us hl => match us, hl with | [_], _ => rfl) (fun vs H Q E h => ?_) (fun cdv A outer s H vs Q E hr h => ?_)
  · obtain ⟨v, ss, fv, rfl, _⟩ := h
    rfl
  · obtain ⟨v, ss, fv, rfl, hl, ⟨a, rfl, ha⟩, q⟩ := h
    refine ⟨_, pss_one (ps_ret (pe_callTy call_tuple_of (by rfl) B.tuple (by decide +kernel) (pa_cons
            (pe_lc (own := [("_law_x", 1)]) (g := gName 1) (tt := tYes) rfl scLs.nd (pi_tup (pv 0)) (blkOk_by (N := ["_law_one", "_law_x"]) (own := [("_law_x", 1)]) (sc := defScope (top 73)) (by decide +kernel))
              (fun _ _ _ _ _ => pg_name (i := 1) scLs.nd rfl (Or.inl rfl)) (fun _ _ _ _ _ => pts_nil) (fun _ _ _ _ _ => pe_un un_neg (pv 1))) pa_nil))), ?_⟩
    refine ⟨_, rfl, a, rfl, ⟨_, ha⟩, ?_⟩
    refine lcV (srcT a ((ss.map fv).map V.int)) (by simp; omega) ((ss.map fun z => -(fv z)).map V.int) (by simp) (fun H' sm4 => Kb.Same.tup sm4 ha) (fun i2 x2 y2 H4 hi2 hR2 hy2 sm4 Y2 hY2 => ?_) (fun Dl2 H4 hD2 sm4 eD2 => ?_)
    · obtain ⟨m1, hm1, rfl⟩ := map_at hR2
      obtain ⟨z, hz, rfl⟩ := map_at hm1
      obtain ⟨m3, hm3, rfl⟩ := map_at hy2
      obtain ⟨z3, hz3, rfl⟩ := map_at hm3
      rw [hz] at hz3
      cases hz3
      exact ⟨rfl, _, rfl, _, rfl, hY2 _ (L2.Same.refl _)⟩
    · exact ⟨Dl2, _, rfl, .inl ⟨SqL.of eD2, fun t nt => q _ _ (sm4.trans (same_new nt)) ⟨t, rfl, SqT.of upd_same⟩⟩⟩
/-! ### _law_order -/
theorem scLo : FnScope ["_law_names_here"] ["_law_names_here"] (defScope (top 67)) := ⟨rfl, rfl, rfl, by decide +kernel, rfl, by decide +kernel, by decide +kernel⟩
def spLo (K : PySem.W.Frag) (Co : Addr) : Sp := fun vs H Q _ => ∃ (a : Addr) (ns : List Str), vs = [.ref a] ∧ SqA K H a (ns.map V.str) ∧ AreNs ns ∧ 1 ≤ ns.length ∧ ∀ H' v, L2.Same H H' → OrderAt K Co H' v ns → Q v H'
theorem c_lorder (B : Blt mg) (G : OrdC K mg Co fI fN fD fB) (hS : ∃ mc p, ClX.CRead K Co mc ∧ SMet K Co mc "read" p g) (F : FnOk P w K mg base (L2.CX P w) 5 g fd1 ["text"] (spRd K Co) ∧ Binds K fd1 ["text"] []) (D : DefAt K mg "_law_order" (top 67) f fd) : Cal P w K mg base 6 "_law_order" ["_law_names_here"] (spLo K Co) f fd := by
  refine D.cal scLo (fun _ _ _ _ _ _ us hl => match us, hl with | [_], _ => rfl) (fun vs H Q E h => ?_) (fun cdv A outer s H vs Q E hr h => ?_)
  · obtain ⟨a, ns, rfl, _⟩ := h
    rfl
  · obtain ⟨a, ns, rfl, ha, hn, h1, q⟩ := h
    obtain ⟨mc, p, cr, sm⟩ := hS
    refine ⟨_, pss_one (ps_ret (pe_smeth (E := E0) (pl := _) (pe_glob (v := .ref Co) (by rfl) G.gl rfl) cr sm F.1 hr F.2 passL (pa_cons (pe_join pe_str (pv 0)) pa_nil))), ?_⟩
    have l7 := hn.len
    refine ⟨rfl, ⟨_, rfl⟩, _, rfl, gt3, a, ns, rfl, rfl, ha, ?_, ⟨ns, rfl, hn, h1, fun H' v s' o' => q H' v s' o'⟩⟩
    have hz : (ns.map (·.length)).sum ≤ ns.length * 6 := by
      have : ∀ l : List Str, (∀ z ∈ l, z.length ≤ 6) → (l.map (·.length)).sum ≤ l.length * 6 := fun l => by
        induction l with
        | nil => intro _; exact Nat.le_refl _
        | cons z r ih =>
          intro h
          have i := ih fun y hy => h y (List.mem_cons_of_mem _ hy)
          have j := h z List.mem_cons_self
          rw [List.map_cons, List.sum_cons, List.length_cons]
          omega
      exact this ns fun z hz => (hn.nm z hz).hi
    have e3 : gt3.length = 3 := by decide +kernel
    rw [e3]
    omega
end
end Kb
/-! _law_bears, _law_row_of. -/
namespace Kb
open PySem PySem.Spec PyProof.Rows L2
/-- a pair of tuples of texts -/
def PairRow (K : PySem.W.Frag) (H : Hp) (v : V) (pro con : List Str) : Prop := ∃ r p c, v = .ref r ∧ H r = some (.tup [.ref p, .ref c]) ∧ SqT K H p (pro.map V.str) ∧ SqT K H c (con.map V.str)
theorem PairRow.sameT {K : PySem.W.Frag} {H H' : Hp} {v : V} {pro con : List Str} (h : PairRow K H v pro con) (s : SameT H H') : PairRow K H' v pro con := by
  obtain ⟨r, p, c, e, h1, h2, h3⟩ := h
  exact ⟨r, p, c, e, s.tup h1, s.sqT h2, s.sqT h3⟩
theorem pos_mem {ss : List Str} {f : Str → Int} {z : Str} (h : z ∈ ss) : decide (z ∈ posN ss f) = decide (0 < f z) := by
  unfold posN
  by_cases q : 0 < f z
  · rw [decide_eq_true q, decide_eq_true (List.mem_filter.mpr ⟨h, decide_eq_true q⟩)]
  · have nm : ¬ z ∈ ss.filter (fun z => decide (0 < f z)) := fun m => q (of_decide_eq_true (p := 0 < f z) (List.mem_filter.mp m).2)
    rw [decide_eq_false q, decide_eq_false nm]
theorem neg_mem {ss : List Str} {f : Str → Int} {z : Str} (h : z ∈ ss) : decide (z ∈ negN ss f) = decide (f z < 0) := by
  unfold negN
  by_cases q : f z < 0
  · rw [decide_eq_true q, decide_eq_true (List.mem_filter.mpr ⟨h, decide_eq_true q⟩)]
  · have nm : ¬ z ∈ ss.filter (fun z => decide (f z < 0)) := fun m => q (of_decide_eq_true (p := f z < 0) (List.mem_filter.mp m).2)
    rw [decide_eq_false q, decide_eq_false nm]
/-- the program's reading and the law's: the same -/
theorem bear_brs {ss : List Str} {f : Str → Int} : ∀ {ns : List Str}, (∀ z ∈ ns, z ∈ ss) → bear ns (posN ss f) (negN ss f) = brs f ns
  | [], _ => rfl
  | x :: r, h => by
    have hx := h x List.mem_cons_self
    have ih := bear_brs (f := f) (ns := r) fun z hz => h z (List.mem_cons_of_mem _ hz)
    have e1 := pos_mem (f := f) hx
    have e2 := neg_mem (f := f) hx
    unfold bear dec at ih ⊢
    unfold brs
    rw [List.find?_cons]
    by_cases p : 0 < f x
    · have m : x ∈ posN ss f := by
        rw [decide_eq_true p] at e1
        exact of_decide_eq_true e1
      rw [decide_eq_true (List.mem_append.mpr (.inl m)), if_pos p]
      exact decide_eq_true m
    · have m : x ∉ posN ss f := by
        rw [decide_eq_false p] at e1
        exact of_decide_eq_false e1
      rw [if_neg p]
      by_cases q : f x < 0
      · have m2 : x ∈ negN ss f := by
          rw [decide_eq_true q] at e2
          exact of_decide_eq_true e2
        rw [decide_eq_true (List.mem_append.mpr (.inr m2)), if_pos q]
        exact decide_eq_false m
      · have m2 : x ∉ negN ss f := by
          rw [decide_eq_false q] at e2
          exact of_decide_eq_false e2
        rw [decide_eq_false (fun z => (List.mem_append.mp z).elim m m2), if_neg q]
        exact ih
section
variable {P : Program} {w : World} {K : PySem.W.Frag} {mg : Str → Option Value} {base : Heap} {f f1 f2 f3 : Addr} {fd fd1 fd2 fd3 : FuncData}
/-! ### _law_bears -/
abbrev nLb : List Str := ["_law_ranked", "_law_row", "_law_reason"]
theorem scLb : FnScope nLb ["_law_ranked", "_law_row"] (defScope (top 66)) := ⟨rfl, rfl, rfl, by decide +kernel, rfl, by decide +kernel, by decide +kernel⟩
def spLb (K : PySem.W.Frag) : Sp := fun vs H Q _ => ∃ (a : Addr) (v : V) (ns ss : List Str) (fv : Str → Int), vs = [.ref a, v] ∧ SqA K H a (ns.map V.str) ∧ (∀ z ∈ ns, z ∈ ss) ∧ PairRow K H v (posN ss fv) (negN ss fv) ∧ ∀ H', L2.Same H H' → Q (.bl (brs fv ns)) H'
theorem c_lbears (B : Blt mg) (D : DefAt K mg "_law_bears" (top 66) f fd) : Cal P w K mg base 1 "_law_bears" ["_law_ranked", "_law_row"] (spLb K) f fd := by
  refine D.cal scLb (fun _ _ _ _ _ _ us hl => match us, hl with | [_, _], _ => rfl) (fun vs H Q E h => ?_) (fun cdv A outer s H vs Q E hr h => ?_)
  · obtain ⟨a, v, ns, ss, fv, rfl, _⟩ := h
    rfl
  · obtain ⟨a, v, ns, ss, fv, rfl, ha, hin, ⟨r, p, c, rfl, hr0, hp, hc⟩, q⟩ := h
    refine ⟨_, pss_cons (ps_for PassesOwn.never rfl (pi_seq (pv 0)) (pg_name (i := 2) scLb.nd rfl (Or.inl rfl))
        (pss_cons (ps_if (pt_cmpR op_in_seq (pv 2) (pe_ix ix_tup (pv 1) pe_int (fun _ _ => rfl)) (by rfl)) (pss_one (ps_ret pe_bl)) pss_nil)
        (pss_one (ps_if (pt_cmpR op_in_seq (pv 2) (pe_ix ix_tup (pv 1) pe_int (fun _ _ => rfl)) (by rfl)) (pss_one (ps_ret pe_bl)) pss_nil)))) (pss_one (ps_ret pe_bl)), ?_⟩
    refine seq_var rfl ha fun J Kp hK S => ?_
    rw [List.length_map] at S
    refine forI S (fun i σ H' => (∃ y, σ = [some (.ref a), some (.ref r), y]) ∧ L2.Same H H' ∧ brs fv ns = brs fv (ns.drop i)) ⟨⟨_, rfl⟩, L2.Same.refl _, rfl⟩ (fun i σ H' _ hP => hK H' hP.2.1) (fun i y σ H2 H3 hi hP s23 hR => ?_) (fun σ H2 hP => ?_)
    · obtain ⟨⟨y0, rfl⟩, s2, hb⟩ := hP
      have s3 := s2.trans s23
      obtain ⟨z, hz, rfl⟩ := map_at hR
      have hzs := hin z (List.mem_of_getElem? hz)
      have ed : ns.drop i = z :: ns.drop (i + 1) := by
        obtain ⟨h1, h2⟩ := List.getElem?_eq_some_iff.mp hz
        rw [← h2, List.getElem_cons_drop h1]
      rw [ed] at hb
      have eb : brs fv (z :: ns.drop (i + 1)) = if 0 < fv z then true else if fv z < 0 then false else brs fv (ns.drop (i + 1)) := rfl
      rw [eb] at hb
      refine ⟨_, rfl, _, rfl, r, _, 0, _, rfl, rfl, SqT.of (s3 _ _ hr0), rfl, p, _, rfl, .inr (Kb.Same.tup s3 hp), rfl, flat_strs _, _, rfl, ?_⟩
      show if inV (.str z) ((posN ss fv).map V.str) = true then _ else _
      rw [inV_strs, pos_mem hzs]
      by_cases h1 : 0 < fv z
      · rw [if_pos h1] at hb
        rw [decide_eq_true h1]
        refine iteT ?_
        have q9 := q H3 s3
        rw [hb] at q9
        exact q9
      · rw [if_neg h1] at hb
        rw [decide_eq_false h1]
        refine iteF ⟨_, rfl, _, rfl, r, _, 1, _, rfl, rfl, SqT.of (s3 _ _ hr0), rfl, c, _, rfl, .inr (Kb.Same.tup s3 hc), rfl, flat_strs _, _, rfl, ?_⟩
        show if inV (.str z) ((negN ss fv).map V.str) = true then _ else _
        rw [inV_strs, neg_mem hzs]
        by_cases h2 : fv z < 0
        · rw [if_pos h2] at hb
          rw [decide_eq_true h2]
          refine iteT ?_
          have q9 := q H3 s3
          rw [hb] at q9
          exact q9
        · rw [if_neg h2] at hb
          rw [decide_eq_false h2]
          exact iteF ⟨⟨_, rfl⟩, s3, hb⟩
    · obtain ⟨_, s2, hb⟩ := hP
      rw [List.drop_length] at hb
      have q9 := q H2 s2
      rw [hb] at q9
      exact q9
/-! ### _law_row_of -/
abbrev nLr : List Str := ["_law_names_here", "_law_one", "_law_least", "_law_x", "_law_y"]
theorem scLr : FnScope nLr ["_law_names_here", "_law_one"] (defScope (top 75)) := ⟨rfl, rfl, rfl, by decide +kernel, rfl, by decide +kernel, by decide +kernel⟩
def spLr (K : PySem.W.Frag) : Sp := fun vs H Q _ => ∃ (a : Addr) (v : V) (ns : List Str) (fv : Str → Int), vs = [.ref a, v] ∧ SqT K H a (ns.map V.str) ∧ AreNs ns ∧ VecAt K H (srt ns) v fv ∧ ∀ (H' : Hp) (u : V), L2.Same H H' → PairRow K H' u (posN (srt ns) fv) (negN (srt ns) fv) → Q u H'
theorem c_lrow (B : Blt mg) (D : DefAt K mg "_law_row_of" (top 75) f fd) : Cal P w K mg base 1 "_law_row_of" ["_law_names_here", "_law_one"] (spLr K) f fd := by
  refine D.cal scLr (fun _ _ _ _ _ _ us hl => match us, hl with | [_, _], _ => rfl) (fun vs H Q E h => ?_) (fun cdv A outer s H vs Q E hr h => ?_)
  · obtain ⟨a, v, ns, fv, rfl, _⟩ := h
    rfl
  · obtain ⟨a, v, ns, fv, rfl, ha, hn, ⟨va, rfl, hva⟩, q⟩ := h
    refine ⟨_, pss_cons (ps_set (i := 2) scLr.nd rfl (Or.inl rfl) (pe_callB cr_sortedT (by rfl) B.sorted (by decide +kernel) (pa_cons (pv 0) pa_nil)))
      (pss_one (ps_ret (pe_tup (pa_cons (pe_callTy call_tuple_of (by rfl) B.tuple (by decide +kernel) (pa_cons
          (pe_lc (own := [("_law_x", 3), ("_law_y", 4)]) (g := gTup K 2 (gCons (gName 3) (gCons (gName 4) gNil))) (tt := tTest (tOp (rI0 fun i j => .bl (decide (j < i))) (tVar 4) (tC (.int 0)))) rfl scLr.nd (pi_zipM (by rfl) B.zip (pa_cons (pv 2) (pa_cons (pv 1) pa_nil))) (blkOk_by (N := nLr) (own := [("_law_x", 3), ("_law_y", 4)]) (sc := defScope (top 75)) (by decide +kernel))
            (fun _ _ _ _ _ => pg_tup rfl (pgs_cons (pg_name (i := 3) scLr.nd rfl (Or.inl rfl)) (pgs_cons (pg_name (i := 4) scLr.nd rfl (Or.inl rfl)) pgs_nil)) (by rfl)) (fun _ _ _ _ _ => pts_one (pt_cmpR op_gt (pv 4) pe_int (by rfl))) (fun _ _ _ _ _ => pv 3)) pa_nil))
        (pa_cons (pe_callTy call_tuple_of (by rfl) B.tuple (by decide +kernel) (pa_cons
          (pe_lc (own := [("_law_x", 3), ("_law_y", 4)]) (g := gTup K 2 (gCons (gName 3) (gCons (gName 4) gNil))) (tt := tTest (tOp (rI0 fun i j => .bl (decide (i < j))) (tVar 4) (tC (.int 0)))) rfl scLr.nd (pi_zipM (by rfl) B.zip (pa_cons (pv 2) (pa_cons (pv 1) pa_nil))) (blkOk_by (N := nLr) (own := [("_law_x", 3), ("_law_y", 4)]) (sc := defScope (top 75)) (by decide +kernel))
            (fun _ _ _ _ _ => pg_tup rfl (pgs_cons (pg_name (i := 3) scLr.nd rfl (Or.inl rfl)) (pgs_cons (pg_name (i := 4) scLr.nd rfl (Or.inl rfl)) pgs_nil)) (by rfl)) (fun _ _ _ _ _ => pts_one (pt_cmpR op_lt (pv 4) pe_int (by rfl))) (fun _ _ _ _ _ => pv 3)) pa_nil)) pa_nil))))), ?_⟩
    have l7 := hn.len
    have lss : (srt ns).length = ns.length := srt_len ns
    refine ⟨_, rfl, a, ns, rfl, ha, by omega, fun ys p py sy np => ?_⟩
    have eys := srt_uniq py sy
    subst eys
    have s1 : L2.Same H (upd H p (.lst ((srt ns).map V.str))) := same_new np
    have hp1 : SqL K (upd H p (.lst ((srt ns).map V.str))) p ((srt ns).map V.str) := SqL.of upd_same
    have hv1 := Kb.Same.tup s1 hva
    generalize upd H p (.lst ((srt ns).map V.str)) = H1 at s1 hp1 hv1 ⊢
    have hlz : ((srt ns).map V.str).length = (((srt ns).map fv).map V.int).length := by simp
    have hl1 : ((srt ns).map V.str).length ≤ 1000 := by rw [List.length_map]; omega
    refine ⟨_, rfl, _, rfl, p, va, _, _, rfl, hp1, hv1, ?_⟩
    refine lcF (srcZM p va _ _ hlz) hl1 ((srt ns).map fun z => if decide (0 < fv z) = true then some (V.str z) else none) (by simp) (fun H' sm => ⟨sm.seq hp1, Kb.Same.tup sm hv1⟩) (fun i y k H4 hi hR hk sm Y Z hY hZ => ?_) (fun Dl H4 hD sm eD => ?_)
    · obtain ⟨p1, q1, hp2, hq1, T, rfl, eT⟩ := hR
      obtain ⟨z, hz, rfl⟩ := map_at hp2
      obtain ⟨m, hm, rfl⟩ := map_at hq1
      obtain ⟨z2, hz2, rfl⟩ := map_at hm
      rw [hz] at hz2
      cases hz2
      obtain ⟨z3, hz3, rfl⟩ := map_at hk
      rw [hz] at hz3
      cases hz3
      refine ⟨T, _, rfl, SqT.of eT, rfl, _, _, rfl, _, _, rfl, rfl, rfl, _, rfl, _, _, rfl, rfl, _, rfl, ?_⟩
      by_cases hc : 0 < fv z
      · rw [decide_eq_true hc]
        exact iteT ⟨_, rfl, hY _ (by simp [hc]) H4 (L2.Same.refl _)⟩
      · rw [decide_eq_false hc]
        exact iteF (hZ (by simp [hc]) H4 (L2.Same.refl _))
    rw [kept] at eD
    refine ⟨Dl, _, rfl, .inl ⟨SqL.of eD, fun t1 nt1 => ?_⟩⟩
    have s4 := sm.trans (same_new (o := .tup (((srt ns).filter fun z => decide (0 < fv z)).map V.str)) nt1)
    have et1 : (upd H4 t1 (.tup (((srt ns).filter fun z => decide (0 < fv z)).map V.str))) t1 = some (.tup (((srt ns).filter fun z => decide (0 < fv z)).map V.str)) := upd_same
    generalize upd H4 t1 (.tup (((srt ns).filter fun z => decide (0 < fv z)).map V.str)) = H5 at s4 et1 ⊢
    have hp5 := s4.seq hp1
    have hv5 := Kb.Same.tup s4 hv1
    refine ⟨_, rfl, _, rfl, p, va, _, _, rfl, hp5, hv5, ?_⟩
    refine lcF (srcZM p va _ _ hlz) hl1 ((srt ns).map fun z => if decide (fv z < 0) = true then some (V.str z) else none) (by simp) (fun H' sm => ⟨sm.seq hp5, Kb.Same.tup sm hv5⟩) (fun i y k H6 hi hR hk sm Y Z hY hZ => ?_) (fun Dl2 H6 hD2 sm6 eD2 => ?_)
    · obtain ⟨p1, q1, hp2, hq1, T, rfl, eT⟩ := hR
      obtain ⟨z, hz, rfl⟩ := map_at hp2
      obtain ⟨m, hm, rfl⟩ := map_at hq1
      obtain ⟨z2, hz2, rfl⟩ := map_at hm
      rw [hz] at hz2
      cases hz2
      obtain ⟨z3, hz3, rfl⟩ := map_at hk
      rw [hz] at hz3
      cases hz3
      refine ⟨T, _, rfl, SqT.of eT, rfl, _, _, rfl, _, _, rfl, rfl, rfl, _, rfl, _, _, rfl, rfl, _, rfl, ?_⟩
      by_cases hc : fv z < 0
      · rw [decide_eq_true hc]
        exact iteT ⟨_, rfl, hY _ (by simp [hc]) H6 (L2.Same.refl _)⟩
      · rw [decide_eq_false hc]
        exact iteF (hZ (by simp [hc]) H6 (L2.Same.refl _))
    rw [kept] at eD2
    refine ⟨Dl2, _, rfl, .inl ⟨SqL.of eD2, fun t2 nt2 => ⟨sz (show 2 ≤ 100000 by decide), fun r nr => q _ _ ?_ ⟨r, t1, t2, rfl, upd_same, SqT.of ?_, SqT.of ?_⟩⟩⟩⟩
    · exact ((s1.trans s4).trans (sm6.trans (same_new nt2))).trans (same_new nr)
    · exact (same_new nr) _ _ ((same_new nt2) _ _ (sm6 _ _ et1))
    · exact (same_new nr) _ _ upd_same
end
end Kb
/-! _law_is_vector, _law_vectors_fault. -/
namespace Kb
open PySem PySem.Spec PyProof.Rows L2
def Cel.bd : Cel → Prop
  | .i n => -1000000000 ≤ n ∧ n ≤ 1000000000
  | .b _ => True
def Itm.bd : Itm → Prop
  | .tup xs => ∀ c ∈ xs, c.bd
  | .no => True
def Cel.int : Cel → Int
  | .i n => n
  | .b _ => 0
theorem linB_big {c : Cel} (h : c.bd) : linB c (-(10 ^ (40 : Int).toNat)) (10 ^ (40 : Int).toNat) = c.isI := by
  cases c with
  | b k => rfl
  | i n =>
    obtain ⟨h1, h2⟩ := h
    have e : (10 : Int) ^ (40 : Int).toNat = 10000000000000000000000000000000000000000 := by decide +kernel
    rw [e]
    show (decide (_ ≤ n) && decide (n ≤ _)) = true
    rw [decide_eq_true (by omega), decide_eq_true (by omega)]
    rfl
theorem eqv_nil_cons (d : PyData) (ds : List PyData) : PyData.eqv (.list (d :: ds)) (.list []) = false := by
  simp [PyData.eqv, PyData.eqvAll]
theorem kept_ints : ∀ {xs : List Cel}, (xs.map fun c => if c.nz = true then some (V.int c.int) else none).filterMap id = ((xs.filter Cel.nz).map Cel.int).map V.int
  | [] => rfl
  | c :: r => by
    have ih := kept_ints (xs := r)
    by_cases h : c.nz = true
    · simp only [List.map_cons, List.filterMap_cons, List.filter_cons, h, if_true, id]
      rw [ih]
    · simp only [List.map_cons, List.filterMap_cons, List.filter_cons, h, id]
      exact ih
section
variable {P : Program} {w : World} {K : PySem.W.Frag} {mg : Str → Option Value} {base : Heap} {f f1 f2 f3 : Addr} {fd fd1 fd2 fd3 : FuncData}
/-! ### _law_is_vector -/
abbrev nLx : List Str := ["_law_item", "_law_wide", "_law_x"]
theorem scLx : FnScope nLx ["_law_item", "_law_wide"] (defScope (top 68)) := ⟨rfl, rfl, rfl, by decide +kernel, rfl, by decide +kernel, by decide +kernel⟩
def spLx (K : PySem.W.Frag) : Sp := fun vs H Q _ => ∃ (v : V) (n : Nat) (t : Itm), vs = [v, .int n] ∧ ItAt K H v t ∧ t.sm ∧ t.bd ∧ ∀ H', L2.Same H H' → Q (.bl (isVec n t)) H'
theorem c_lisvec (B : Blt mg) (N : Cal P w K mg base 1 "_law_is_number" ["_law_item", "_law_low", "_law_high"] spLi f1 fd1) (D : DefAt K mg "_law_is_vector" (top 68) f fd) : Cal P w K mg base 2 "_law_is_vector" ["_law_item", "_law_wide"] (spLx K) f fd := by
  refine D.cal scLx (fun _ _ _ _ _ _ us hl => match us, hl with | [_, _], _ => rfl) (fun vs H Q E h => ?_) (fun cdv A outer s H vs Q E hr h => ?_)
  · obtain ⟨v, n, t, rfl, _⟩ := h
    rfl
  · obtain ⟨v, n, t, rfl, ht, hsm, hbd, q⟩ := h
    refine ⟨_, pss_cons (ps_if (PW.pt (pw_or (pt_not (pt_val (pe_callB call_isi (by rfl) B.isinstance (by decide +kernel) (pa_cons (pv 0) (pa_cons (pe_bltn (v := .ty "tuple") (by rfl) B.tuple (by decide +kernel) rfl) pa_nil)))))
        (pw_or (pt_cmpR op_ne (pe_callB call_len_seq (by rfl) B.len (by decide +kernel) (pa_cons (pv 0) pa_nil)) (pv 1) (by rfl))
        (pw_or1 (pt_not (pt_val (pe_callB (cr_all rfl) (by rfl) B.all (by decide +kernel) (pa_cons
          (pe_lc (own := [("_law_x", 2)]) (g := gName 2) (tt := tYes) rfl scLx.nd (pi_tup (pv 0)) (blkOk_by (N := nLx) (own := [("_law_x", 2)]) (sc := defScope (top 68)) (by decide +kernel)) (fun _ _ _ _ _ => pg_name (i := 2) scLx.nd rfl (Or.inl rfl)) (fun _ _ _ _ _ => pts_nil)
            (fun _ _ _ _ _ => pe_cal N hr (by rfl) (pa_cons (pv 2) (pa_cons (pe_un un_neg (pe_op op_pow pe_int pe_int)) (pa_cons (pe_op op_pow pe_int pe_int) pa_nil))))) pa_nil)))))))) (pss_one (ps_ret pe_bl)) pss_nil)
      (pss_one (ps_ret (pe_cmpR (op_neD hr.units)
        (pe_lc (own := [("_law_x", 2)]) (g := gName 2) (tt := tTest (tOp rNe (tVar 2) (tC (.int 0)))) rfl scLx.nd (pi_tup (pv 0)) (blkOk_by (N := nLx) (own := [("_law_x", 2)]) (sc := defScope (top 68)) (by decide +kernel)) (fun _ _ _ _ _ => pg_name (i := 2) scLx.nd rfl (Or.inl rfl)) (fun _ _ _ _ _ => pts_one (pt_cmpR op_ne (pv 2) pe_int (by rfl)))
          (fun _ _ _ _ _ => pv 2)) (pe_lst pa_nil) (by rfl)))), ?_⟩
    cases t with
    | no =>
      obtain ⟨ty, hty, kt⟩ := ht
      exact ⟨_, rfl, v, .ty "tuple", .type ty, .type "tuple", false, rfl, .ty "tuple", hty, kit_ty kt, false, rfl, iteT (q H (L2.Same.refl _))⟩
    | tup xs =>
      obtain ⟨a, rfl, ha⟩ := ht
      have hx : xs.length ≤ 100 := hsm
      have hxl : (xs.map Cel.v).length ≤ 1000 := by rw [List.length_map]; omega
      refine ⟨_, rfl, .ref a, .ty "tuple", .type "tuple", .type "tuple", true, rfl, .ty "tuple", tyT ha, kit_ty (by decide +kernel), true, rfl, iteF ?_⟩
      refine ⟨_, rfl, a, _, rfl, .inr ha, _, rfl, ?_⟩
      rw [List.length_map]
      refine ⟨rfl, !decide (V.int (xs.length : Nat) = V.int (n : Nat)), rfl, ?_⟩
      have q2 := q
      simp only [isVec] at q2
      by_cases hn : xs.length = n
      · subst hn
        rw [decide_eq_true rfl]
        rw [decide_eq_true rfl, Bool.true_and] at q2
        refine iteF ?_
        refine ⟨_, rfl, a, rfl, ⟨_, ha⟩, lcV (srcT a (xs.map Cel.v)) hxl (xs.map fun c => V.bl c.isI) (by simp) (fun H' sm => Kb.Same.tup sm ha) (fun i x y H' hi hR hy sm Y hY => ?_) (fun Dl H' hD sm eD => ?_)⟩
        · obtain ⟨c, hc, rfl⟩ := map_at hR
          obtain ⟨c2, hc2, rfl⟩ := map_at hy
          rw [hc] at hc2
          cases hc2
          refine ⟨rfl, _, rfl, _, _, rfl, rfl, ⟨by decide, by decide, by decide⟩, _, rfl, _, _, rfl, rfl, ⟨by decide, by decide, by decide⟩, c, _, _, rfl, ?_⟩
          rw [linB_big (hbd c (List.mem_of_getElem? hc))]
          exact hY _ (L2.Same.refl _)
        · refine ⟨Dl, xs.map Cel.isI, rfl, SqL.of (by rw [eD, List.map_map]; rfl), (xs.map Cel.isI).all id, rfl, ?_⟩
          rw [List.all_map]
          show if (!(xs.all Cel.isI)) = true then _ else _
          by_cases hI : xs.all Cel.isI = true
          · rw [hI]
            rw [hI, Bool.true_and] at q2
            refine iteF ?_
            have ha2 := Kb.Same.tup sm ha
            refine ⟨_, rfl, a, rfl, ⟨_, ha2⟩, lcF (srcT a (xs.map Cel.v)) hxl (xs.map fun c => if c.nz = true then some (V.int c.int) else none) (by simp) (fun H2 sm2 => Kb.Same.tup sm2 ha2) (fun i x k H2 hi hR hk sm2 Y Z hY hZ => ?_) (fun Dl2 H2 hD2 sm2 eD2 => ?_)⟩
            · obtain ⟨c, hc, rfl⟩ := map_at hR
              obtain ⟨c2, hc2, rfl⟩ := map_at hk
              rw [hc] at hc2
              cases hc2
              have hcI := List.all_eq_true.mp hI c (List.mem_of_getElem? hc)
              cases c with
              | b k => cases hcI
              | i m =>
                refine ⟨rfl, _, rfl, rfl, _, rfl, ?_⟩
                have e : (!decide (V.int m = V.int 0)) = Cel.nz (.i m) := by
                  rw [dec_int]
                  show (!(m == 0)) = decide (m ≠ 0)
                  by_cases z : m = 0
                  · subst z
                    rfl
                  · rw [decide_eq_true z, beq_false_of_ne z]
                    rfl
                show if (!decide (V.int m = V.int 0)) = true then _ else _
                rw [e]
                cases hz : Cel.nz (.i m) with
                | true => exact iteT ⟨_, rfl, hY _ (by simp [hz]; rfl) H2 (L2.Same.refl _)⟩
                | false => exact iteF (hZ (by simp [hz]) H2 (L2.Same.refl _))
            · rw [kept_ints] at eD2
              refine ⟨sz (show 0 ≤ 100000 by decide), fun p3 np3 => ?_⟩
              have s3 : L2.Same H2 (upd H2 p3 (.lst [])) := same_new np3
              refine ⟨.list (((xs.filter Cel.nz).map Cel.int).map PyData.int), .list (([] : List Int).map PyData.int), .lst (SqL.of (s3 _ _ eD2)) (dp_ints _), .lst (SqL.of upd_same) (dp_ints []), shaped_ints _, shaped_ints [], ?_⟩
              have e9 : (!PyData.eqv (.list (((xs.filter Cel.nz).map Cel.int).map PyData.int)) (.list (([] : List Int).map PyData.int))) = xs.any Cel.nz := by
                cases ef : xs.filter Cel.nz with
                | nil =>
                  have e8 : xs.any Cel.nz = false := by
                    rw [List.any_eq_false]
                    intro c hc hn2
                    have : c ∈ xs.filter Cel.nz := List.mem_filter.mpr ⟨hc, hn2⟩
                    rw [ef] at this
                    cases this
                  rw [e8]
                  have e7 := SeqAt.eqv_refl _ (SeqAt.canLay_of_shaped (shaped_ints []))
                  show (!PyData.eqv (.list (([] : List Int).map PyData.int)) (.list (([] : List Int).map PyData.int))) = false
                  rw [e7]
                  rfl
                | cons c r =>
                  have hc : c ∈ xs.filter Cel.nz := by rw [ef]; exact List.mem_cons_self
                  have e8 : xs.any Cel.nz = true := List.any_eq_true.mpr ⟨c, (List.mem_filter.mp hc).1, (List.mem_filter.mp hc).2⟩
                  rw [e8]
                  show (!PyData.eqv (.list (PyData.int c.int :: (r.map Cel.int).map PyData.int)) (.list [])) = true
                  rw [eqv_nil_cons]
                  rfl
              rw [e9]
              exact q2 _ ((sm.trans sm2).trans s3)
          · have hI' : xs.all Cel.isI = false := by simpa using hI
            rw [hI']
            rw [hI', Bool.false_and] at q2
            exact iteT (q2 H' sm)
      · rw [dec_int, beq_false_of_ne (by omega)]
        rw [decide_eq_false hn, Bool.false_and] at q2
        exact iteT (q2 H (L2.Same.refl _))
end
end Kb
/-! _law_vectors_fault, _law_weights_of. -/
namespace Kb
open PySem PySem.Spec PyProof.Rows L2
def Giv.bd : Giv → Prop
  | .its l => ∀ t ∈ l, t.bd
  | .no => True
/-- the places of what is no vector -/
def bads (w : Nat) (l : List Itm) : List Int := ((List.range l.length).filter fun k => !(isVec w (l.getD k .no))).map fun k => ((k : Nat) : Int)
theorem bads_none {w : Nat} {l : List Itm} (h : (l.findIdx? fun t => !isVec w t) = none) : bads w l = [] := by
  rw [List.findIdx?_eq_none_iff] at h
  unfold bads
  have e : ((List.range l.length).filter fun k => !(isVec w (l.getD k .no))) = [] := by
    rw [List.filter_eq_nil_iff]
    intro k hk
    have hk2 := List.mem_range.mp hk
    have q := h (l.getD k .no) (by rw [List.getD_eq_getElem?_getD, List.getElem?_eq_getElem hk2]; exact List.getElem_mem hk2)
    rw [q]
    simp
  rw [e]
  rfl
theorem bads_some {w : Nat} {l : List Itm} {i : Nat} (h : (l.findIdx? fun t => !isVec w t) = some i) : ∃ r, bads w l = (i : Int) :: r := by
  rw [List.findIdx?_eq_some_iff_getElem] at h
  obtain ⟨hi, h1, h2⟩ := h
  unfold bads
  have e : (List.range l.length) = List.range i ++ (i :: (List.range (l.length - i - 1)).map (· + (i + 1))) := by
    have e1 : l.length = i + (1 + (l.length - i - 1)) := by omega
    have e2 : List.range l.length = List.range (i + (1 + (l.length - i - 1))) := congrArg List.range e1
    rw [e2, List.range_add, List.range_add]
    simp [Nat.add_comm, Nat.add_left_comm]
  have f1 : ((List.range i).filter fun k => !(isVec w (l.getD k .no))) = [] := by
    rw [List.filter_eq_nil_iff]
    intro k hk
    have hk2 := List.mem_range.mp hk
    have q := h2 k hk2
    rw [List.getD_eq_getElem?_getD, List.getElem?_eq_getElem (by omega)]
    simpa using q
  have f2 : (!(isVec w (l.getD i .no))) = true := by
    rw [List.getD_eq_getElem?_getD, List.getElem?_eq_getElem hi]
    exact h1
  rw [e, List.filter_append, f1, List.nil_append, List.filter_cons, f2]
  exact ⟨_, rfl⟩
theorem bads_kept {w : Nat} {l : List Itm} : ((List.range l.length).map fun k => if (!(isVec w (l.getD k .no))) = true then some (V.int ((k : Nat) : Int)) else none).filterMap id = (bads w l).map V.int := by
  unfold bads
  induction List.range l.length with
  | nil => rfl
  | cons k r ih =>
    by_cases h : (!(isVec w (l.getD k .no))) = true
    · simp only [List.map_cons, List.filterMap_cons, List.filter_cons, h, if_true, id]
      rw [ih]
    · simp only [List.map_cons, List.filterMap_cons, List.filter_cons, h, id]
      exact ih
def Flt.vals : Flt → List V
  | .at i => [.str "InvalidVector", .int i]
  | .many => [.str "TooMany", .int 12]
section
variable {P : Program} {w : World} {K : PySem.W.Frag} {mg : Str → Option Value} {base : Heap} {f f1 f2 f3 : Addr} {fd fd1 fd2 fd3 : FuncData}
/-! ### _law_vectors_fault -/
abbrev nLf : List Str := ["_law_given", "_law_wide", "_law_bad", "_law_k"]
theorem scLf : FnScope nLf ["_law_given", "_law_wide"] (defScope (top 69)) := ⟨rfl, rfl, rfl, by decide +kernel, rfl, by decide +kernel, by decide +kernel⟩
def spLf (K : PySem.W.Frag) : Sp := fun vs H Q _ => ∃ (v : V) (n : Nat) (g : Giv), vs = [v, .int n] ∧ GivAt K H v g ∧ g.sm ∧ g.bd ∧ (1 ≤ n ∧ n ≤ 7) ∧
  (match fault n g with
  | none => ∀ H', L2.Same H H' → Q .non H'
  | some x => ∀ H' t, L2.Same H H' → H' t = some (.tup x.vals) → Q (.ref t) H')
theorem c_lfault (B : Blt mg) (N : Cal P w K mg base 1 "_law_is_number" ["_law_item", "_law_low", "_law_high"] spLi f1 fd1) (C : Cal P w K mg base 2 "_law_is_vector" ["_law_item", "_law_wide"] (spLx K) f2 fd2) (D : DefAt K mg "_law_vectors_fault" (top 69) f fd) : Cal P w K mg base 3 "_law_vectors_fault" ["_law_given", "_law_wide"] (spLf K) f fd := by
  refine D.cal scLf (fun _ _ _ _ _ _ us hl => match us, hl with | [_, _], _ => rfl) (fun vs H Q E h => ?_) (fun cdv A outer s H vs Q E hr h => ?_)
  · obtain ⟨v, n, g, rfl, _⟩ := h
    rfl
  · obtain ⟨v, n, g, rfl, hg, hsm, hbd, hn, q⟩ := h
    refine ⟨_, pss_cons (ps_if (pt_not (pt_val (pe_cal N (hr.mono (by omega)) (by rfl) (pa_cons (pv 1) (pa_cons pe_int (pa_cons pe_int pa_nil)))))) pss_never pss_nil)
      (pss_cons (ps_if (pt_not (pt_val (pe_callB call_isiT (by rfl) B.isinstance (by decide +kernel) (pa_cons (pv 0) (pa_cons (pe_tup (pa_cons (pe_bltn (v := .ty "list") (by rfl) B.list (by decide +kernel) rfl) (pa_cons (pe_bltn (v := .ty "tuple") (by rfl) B.tuple (by decide +kernel) rfl) pa_nil))) pa_nil)))))
          (pss_one (ps_ret (pe_tup (pa_cons pe_str (pa_cons (pe_un un_neg pe_int) pa_nil))))) pss_nil)
      (pss_cons (ps_if (pt_cmpR op_gt (pe_callB call_len_seq (by rfl) B.len (by decide +kernel) (pa_cons (pv 0) pa_nil)) pe_int (by rfl)) (pss_one (ps_ret (pe_tup (pa_cons pe_str (pa_cons pe_int pa_nil))))) pss_nil)
      (pss_cons (ps_setLc (i := 2) (own := [("_law_k", 3)]) (g := gName 3) (tt := tNot (tB (tCall (spLx K) [] E0 (tCons (tOp (rIx K) (tVar 0) (tVar 3)) (tCons (tVar 1) tNil))))) rfl scLf.nd rfl rfl (sw_true rfl rfl rfl (by decide +kernel)) (pi_range1 (by rfl) B.range (pa_cons (pe_callB call_len_seq (by rfl) B.len (by decide +kernel) (pa_cons (pv 0) pa_nil)) pa_nil)) (blkOk_by (N := nLf) (own := [("_law_k", 3)]) (sc := defScope (top 69)) (by decide +kernel)) (fun _ _ _ _ _ => pg_name (i := 3) scLf.nd rfl (Or.inl rfl))
          (fun _ _ _ _ _ => pts_one (pt_not (pt_val (pe_cal C hr (by rfl) (pa_cons (pe_ix ix_seq (pv 0) (pv 3) (fun _ _ => rfl)) (pa_cons (pv 1) pa_nil)))))) (fun _ _ _ _ _ => pv 3))
      (pss_one (ps_ret (pe_ifExp (pt_cmpR (op_neD hr.units) (pv 2) (pe_lst pa_nil) (by rfl)) (pe_tup (pa_cons pe_str (pa_cons (pe_ix ix_list (pv 2) pe_int (fun _ _ => rfl)) pa_nil))) pe_non)))))), ?_⟩
    refine ⟨_, rfl, .i n, 1, 7, rfl, true, ?_, iteF ?_⟩
    · show V.bl (decide ((1 : Int) ≤ (n : Int)) && decide ((n : Int) ≤ 7)) = .bl true
      rw [decide_eq_true (show (1 : Int) ≤ (n : Int) by omega), decide_eq_true (show (n : Int) ≤ 7 by omega)]
      rfl
    refine ⟨_, rfl, by decide +kernel, fun tp htp => ?_⟩
    have s1 : L2.Same H (upd H tp (.tup [.ty "list", .ty "tuple"])) := same_new htp
    have hg1 := hg.same s1
    have etp : (upd H tp (.tup [.ty "list", .ty "tuple"])) tp = some (.tup [.ty "list", .ty "tuple"]) := upd_same
    generalize upd H tp (.tup [.ty "list", .ty "tuple"]) = H1 at s1 hg1 etp ⊢
    cases g with
    | no =>
      obtain ⟨ty, hty, k1, k2⟩ := hg1
      refine ⟨v, tp, _, _, _, false, rfl, etp, two_cls, hty, kitAny_cons (b := false) (kit_ty k1) (fun _ => kitAny_cons (b := false) (kit_ty k2) (fun _ => kitAny_nil) fun z => nomatch z) (fun z => nomatch z), false, rfl, iteT ?_⟩
      exact ⟨_, rfl, sz (show 2 ≤ 100000 by decide), fun t nt => q _ t (s1.trans (same_new nt)) upd_same⟩
    | its l =>
      obtain ⟨a, vs, rfl, ha, hp⟩ := hg1
      obtain ⟨t, ht, kt⟩ := ha.ty
      have hvl : vs.length = l.length := Paired.length hp
      have hls : l.length ≤ 100 := hsm.1
      refine ⟨.ref a, tp, _, t, _, true, rfl, etp, two_cls, ht, kt, true, rfl, iteF ?_⟩
      refine ⟨_, rfl, a, _, rfl, ha, ⟨_, _, rfl, rfl, _, rfl, ?_⟩⟩
      show if decide ((12 : Int) < (vs.length : Nat)) = true then _ else _
      by_cases hm : 12 < l.length
      · rw [decide_eq_true (show (12 : Int) < (vs.length : Nat) by omega)]
        refine iteT ⟨sz (show 2 ≤ 100000 by decide), fun t nt => ?_⟩
        have e : fault n (.its l) = some .many := if_pos hm
        rw [e] at q
        exact q _ t (s1.trans (same_new nt)) upd_same
      · rw [decide_eq_false (show ¬ (12 : Int) < (vs.length : Nat) by omega)]
        have e0 : fault n (.its l) = (l.findIdx? fun t => !isVec n t).map fun i => Flt.at (i : Nat) := if_neg hm
        rw [e0] at q
        refine iteF ⟨_, rfl, a, _, rfl, ha, (vs.length : Int), rfl, by omega, by omega, ?_⟩
        rw [Int.toNat_natCast]
        refine lcF (srcR 0 vs.length) (by omega) ((List.range l.length).map fun k => if (!(isVec n (l.getD k .no))) = true then some (V.int ((k : Nat) : Int)) else none) (by simp [hvl]) (fun _ _ => True.intro) (fun i x k H2 hi hR hk sm Y Z hY hZ => ?_) (fun Dl H2 hD sm eD => ?_)
        · obtain ⟨k2, hk2, rfl⟩ := map_at hk
          have hil : i < l.length := by omega
          have ek : k2 = i := by
            rw [List.getElem?_range hil] at hk2
            exact (Option.some.inj hk2).symm
          subst ek
          have ex : x = .int (k2 : Int) := by
            have q9 : x = .int (0 + (k2 : Int)) := hR
            rw [Int.zero_add] at q9
            exact q9
          subst ex
          have hvk : vs[k2]? = some vs[k2] := List.getElem?_eq_getElem (by omega)
          obtain ⟨it, hit, hat⟩ := paired_get hp hvk
          have egd : l.getD k2 .no = it := by rw [List.getD_eq_getElem?_getD, hit]; rfl
          have him := List.mem_of_getElem? hit
          have ha2 := ha.same sm
          refine ⟨rfl, _, rfl, _, rfl, ?_⟩
          have fin : tCons (tVar 1) tNil ([some (.ref a), some (.int (n : Nat)), none, some (.int (k2 : Int))] : L2.St) H2 (fun xs H3 => spLx K (vs[k2] :: xs ++ []) H3 (fun x H4 => ∃ c, x = .bl c ∧ (if (!c) = true then tVar 3 [some (.ref a), some (.int (n : Nat)), none, some (.int (k2 : Int))] H4 Y else Z H4)) E0) := by
            refine ⟨_, rfl, vs[k2], n, it, rfl, hat.same sm, hsm.2 it him, hbd it him, fun H4 s4 => ⟨_, rfl, ?_⟩⟩
            rw [egd] at hY hZ
            cases hv : isVec n it with
            | true => exact iteF (hZ (by simp [hv]) H4 s4)
            | false => exact iteT ⟨_, rfl, hY _ (by simp [hv]) H4 s4⟩
          rcases ha2 with h | h
          · exact .inl ⟨a, vs, _, _, rfl, rfl, h, atI_nat hvk, fin⟩
          · exact .inr (.inl ⟨a, vs, _, _, rfl, rfl, h, atI_nat hvk, fin⟩)
        · rw [bads_kept] at eD
          refine ⟨_, rfl, sz (show 0 ≤ 100000 by decide), fun p3 np3 => ?_⟩
          have s3 : L2.Same H2 (upd H2 p3 (.lst [])) := same_new np3
          have s03 := (s1.trans sm).trans s3
          have eD3 := s3 _ _ eD
          refine ⟨.list ((bads n l).map PyData.int), .list (([] : List Int).map PyData.int), .lst (SqL.of eD3) (dp_ints _), .lst (SqL.of upd_same) (dp_ints []), shaped_ints _, shaped_ints [], _, rfl, ?_⟩
          cases ef : l.findIdx? fun t => !isVec n t with
          | none =>
            rw [ef] at q
            have e7 := SeqAt.eqv_refl _ (SeqAt.canLay_of_shaped (shaped_ints []))
            rw [bads_none ef, e7]
            exact iteF (q _ s03)
          | some i =>
            rw [ef] at q
            obtain ⟨r, er⟩ := bads_some ef
            rw [er] at eD3 ⊢
            have e7 : (!PyData.eqv (.list (((i : Int) :: r).map PyData.int)) (.list (([] : List Int).map PyData.int))) = true := by
              show (!PyData.eqv (.list (PyData.int (i : Int) :: r.map PyData.int)) (.list [])) = true
              rw [eqv_nil_cons]
              rfl
            rw [e7]
            exact iteT ⟨_, rfl, Dl, _, 0, .int (i : Nat), rfl, rfl, SqL.of eD3, atI_nat (xs := ((i : Int) :: r).map V.int) (j := 0) rfl, sz (show 2 ≤ 100000 by decide), fun t nt => q _ t (s03.trans (same_new nt)) upd_same⟩
/-! ### _law_weights_of -/
abbrev nLq : List Str := ["_law_item", "_law_given", "_law_wide", "_law_x", "_law_one"]
theorem scLq : FnScope nLq ["_law_item", "_law_given", "_law_wide"] (defScope (top 71)) := ⟨rfl, rfl, rfl, by decide +kernel, rfl, by decide +kernel, by decide +kernel⟩
def preLq (K : PySem.W.Frag) : List V → Hp → Prop := fun vs H => ∃ (vv : V) (a : Addr) (ss : List Str) (g : Str → Int) (fs : List (Str → Int)), vs = [.ref a, vv, .int (ss.length : Nat)] ∧ VecsAt K H ss vv fs ∧ fs.length ≤ 12 ∧ (∀ f ∈ fs, Okf ss f) ∧ ss.length ≤ 7 ∧
  SqT K H a ((ss.map g).map V.int) ∧ Bears ss g fs
theorem c_lwof (B : Blt mg) (N : Cal P w K mg base 1 "_law_is_whole" ["_law_item"] spLw f1 fd1) (C : Cal P w K mg base 1 "_law_dot" ["_law_one", "_law_other"] (spDo K) f2 fd2) (D : DefAt K mg "_law_weights_of" (top 71) f fd) : Cal P w K mg base 2 "_law_weights_of" ["_law_item", "_law_given", "_law_wide"] (spT (preLq K)) f fd := by
  refine D.cal scLq (fun _ _ _ _ _ _ us hl => match us, hl with | [_, _, _], _ => rfl) (fun vs H Q E h => ?_) (fun cdv A outer s H vs Q E hr h => ?_)
  · obtain ⟨⟨vv, a, ss, g, fs, rfl, _⟩, _⟩ := h
    rfl
  · obtain ⟨⟨vv, a, ss, g, fs, rfl, hv, hfl, hfs, h7, ha, hb⟩, q⟩ := h
    refine ⟨_, pss_cons (ps_if (PW.pt (pw_or (pt_not (pt_val (pe_callB call_isi (by rfl) B.isinstance (by decide +kernel) (pa_cons (pv 0) (pa_cons (pe_bltn (v := .ty "tuple") (by rfl) B.tuple (by decide +kernel) rfl) pa_nil)))))
        (pw_or (pt_cmpR op_ne (pe_callB call_len_seq (by rfl) B.len (by decide +kernel) (pa_cons (pv 0) pa_nil)) (pv 2) (by rfl))
        (pw_or1 (pt_not (pt_val (pe_callB (cr_all rfl) (by rfl) B.all (by decide +kernel) (pa_cons
          (pe_lc (own := [("_law_x", 3)]) (g := gName 3) (tt := tYes) rfl scLq.nd (pi_tup (pv 0)) (blkOk_by (N := nLq) (own := [("_law_x", 3)]) (sc := defScope (top 71)) (by decide +kernel)) (fun _ _ _ _ _ => pg_name (i := 3) scLq.nd rfl (Or.inl rfl)) (fun _ _ _ _ _ => pts_nil)
            (fun _ _ _ _ _ => pe_cal N hr (by rfl) (pa_cons (pv 3) pa_nil))) pa_nil)))))))) (pss_one (ps_ret pe_bl)) pss_nil)
      (pss_one (ps_ret (pe_callB (cr_all rfl) (by rfl) B.all (by decide +kernel) (pa_cons
        (pe_lc (own := [("_law_one", 4)]) (g := gName 4) (tt := tYes) rfl scLq.nd (pi_seq (pv 1)) (blkOk_by (N := nLq) (own := [("_law_one", 4)]) (sc := defScope (top 71)) (by decide +kernel)) (fun _ _ _ _ _ => pg_name (i := 4) scLq.nd rfl (Or.inl rfl)) (fun _ _ _ _ _ => pts_nil)
          (fun _ _ _ _ _ => pe_cmpR op_gt (pe_cal C hr (by rfl) (pa_cons (pv 4) (pa_cons (pv 0) pa_nil))) pe_int (by rfl))) pa_nil)))), ?_⟩
    have hxl : ((ss.map g).map V.int).length ≤ 1000 := by simp; omega
    refine ⟨_, rfl, .ref a, .ty "tuple", .type "tuple", .type "tuple", true, rfl, .ty "tuple", tyT ha, kit_ty (by decide +kernel), true, rfl, iteF ?_⟩
    refine ⟨_, rfl, a, _, rfl, .inr ha, _, rfl, ?_⟩
    rw [List.length_map, List.length_map]
    refine ⟨rfl, _, rfl, ?_⟩
    rw [decide_eq_true rfl]
    refine iteF ?_
    refine ⟨_, rfl, a, rfl, ⟨_, ha⟩, lcV (srcT a ((ss.map g).map V.int)) hxl ((List.replicate ss.length true).map V.bl) (by simp) (fun H' sm => Kb.Same.tup sm ha) (fun i x y H' hi hR hy sm Y hY => ?_) (fun Dl H1 hD sm eD => ?_)⟩
    · obtain ⟨c, hc, rfl⟩ := map_at hR
      obtain ⟨z, hz, rfl⟩ := map_at hc
      obtain ⟨b, hb2, rfl⟩ := map_at hy
      have eb := rep_at hb2
      subst eb
      refine ⟨rfl, _, rfl, _, rfl, ?_⟩
      rw [decide_eq_true (hb.nn z (List.mem_of_getElem? hz))]
      exact hY _ (L2.Same.refl _)
    · refine ⟨Dl, List.replicate ss.length true, rfl, SqL.of eD, true, ?_, iteF ?_⟩
      · rw [all_rep]
      obtain ⟨av, vs, rfl, hav, hp⟩ := hv
      have hvl : vs.length = fs.length := Paired.length hp
      refine seq_var rfl (hav.same sm) fun J Kp hK S => ?_
      refine lcV S (by omega) ((List.replicate vs.length true).map V.bl) (by simp) (fun H' sm => hK H' sm) (fun i x y H3 hi hR hy sm3 Y hY => ?_) (fun Dl2 H3 hD3 sm3 eD3 => ?_)
      · obtain ⟨b, hb2, rfl⟩ := map_at hy
        have eb := rep_at hb2
        subst eb
        obtain ⟨fv, hfv, c, rfl, hc⟩ := paired_get hp hR
        have hfm := List.mem_of_getElem? hfv
        have s03 := sm.trans sm3
        refine ⟨rfl, _, rfl, _, rfl, c, a, ss, fv, g, rfl, by omega, Kb.Same.tup s03 hc, Kb.Same.tup s03 ha, fun z hz => mulw ((hfs fv hfm).lt z hz) (hb.nn z hz) (hb.lt z hz), fun H4 s4 => ⟨_, _, rfl, rfl, ?_⟩⟩
        show Y (.bl (decide (0 < (ss.map fun z => fv z * g z).sum))) H4
        rw [decide_eq_true (hb.sum fv hfm)]
        exact hY H4 s4
      · refine ⟨Dl2, List.replicate vs.length true, rfl, SqL.of eD3, ?_⟩
        rw [all_rep]
        exact q H3 (sm.trans sm3)
end
end Kb
/-! _law_weights_due. -/
namespace Kb
open PySem PySem.Spec PyProof.Rows L2
def psum (ns : List Str) (fs : List (Str → Int)) (l : List Str) : Int := (l.map fun y => wt (mgf fs) ns y * mgf fs y).sum
theorem psum_bl {ns : List Str} {fs : List (Str → Int)} : ∀ {r p : List Str}, ns = p ++ r → ns.Nodup → psum ns fs r = rsum r fs
  | [], _, _, _ => rfl
  | y :: r, p, e, nd => by
    have hy : ¬ y ∈ p := fun m => by
      rw [e] at nd
      exact (List.nodup_append.mp nd).2.2 y m y List.mem_cons_self rfl
    have ih := psum_bl (ns := ns) (fs := fs) (r := r) (p := p ++ [y]) (by rw [e]; simp) nd
    have hw : wt (mgf fs) ns y = 1 + bl (r.map (mgf fs)) := by
      rw [e]
      exact wt_at hy
    show wt (mgf fs) ns y * mgf fs y + psum ns fs r = bl (r.map (mgf fs)) + (1 + bl (r.map (mgf fs))) * mgf fs y
    rw [ih, hw]
    unfold rsum
    omega
theorem psum_snoc {ns : List Str} {fs : List (Str → Int)} {l : List Str} {y : Str} : psum ns fs (l ++ [y]) = psum ns fs l + wt (mgf fs) ns y * mgf fs y := by
  unfold psum
  rw [List.map_append, List.sum_append]
  simp
theorem cut_from {ns : List Str} {k : Nat} (h : k ≤ ns.length) : cutV (ns.map V.str) (some (k : Int)) none = (ns.drop k).map V.str := by
  unfold cutV
  rw [HT.sIx_none, HT.sIx_nat, List.length_map, Nat.min_eq_left h, List.map_drop, List.take_of_length_le (by simp)]
section
variable {P : Program} {w : World} {K : PySem.W.Frag} {mg : Str → Option Value} {base : Heap} {f f1 f2 f3 : Addr} {fd fd1 fd2 fd3 : FuncData}
abbrev nLd : List Str := ["_law_names_here", "_law_given", "_law_least", "_law_found", "_law_k", "_law_total", "_law_y", "_law_one", "_law_x"]
theorem scLd : FnScope nLd ["_law_names_here", "_law_given"] (defScope (top 74)) := ⟨rfl, rfl, rfl, by decide +kernel, rfl, by decide +kernel, by decide +kernel⟩
def spLd (K : PySem.W.Frag) : Sp := fun vs H Q _ => ∃ (a : Addr) (vv : V) (ns : List Str) (fs : List (Str → Int)), vs = [.ref a, vv] ∧ SqT K H a (ns.map V.str) ∧ AreNs ns ∧ 1 ≤ ns.length ∧ VecsAt K H (srt ns) vv fs ∧ fs.length ≤ 12 ∧ (∀ f ∈ fs, Okf (srt ns) f) ∧
  ∀ (H' : Hp) (t : Addr), L2.Same H H' → H' t = some (.tup ((wts ns fs).map V.int)) → Q (.ref t) H'
abbrev rAbs : List V → Hp → VK → Prop := fun xs H Q => ∃ i, xs = [V.int i] ∧ Q (.int (if i < 0 then -i else i)) H
theorem c_ldue (B : Blt mg) (D : DefAt K mg "_law_weights_due" (top 74) f fd) : Cal P w K mg base 1 "_law_weights_due" ["_law_names_here", "_law_given"] (spLd K) f fd := by
  refine D.cal scLd (fun _ _ _ _ _ _ us hl => match us, hl with | [_, _], _ => rfl) (fun vs H Q E h => ?_) (fun cdv A outer s H vs Q E hr h => ?_)
  · obtain ⟨a, vv, ns, fs, rfl, _⟩ := h
    rfl
  · obtain ⟨a, vv, ns, fs, rfl, ha, hn, h1, hv, hfl, hfs, q⟩ := h
    refine ⟨_, pss_cons (ps_asg (pe_tup (pa_cons (pe_callB cr_sortedT (by rfl) B.sorted (by decide +kernel) (pa_cons (pv 0) pa_nil)) (pa_cons pe_dnewK pa_nil))) (pg_tup rfl (pgs_cons (pg_name (i := 2) scLd.nd rfl (Or.inr rfl)) (pgs_cons (pg_name (i := 3) scLd.nd rfl (Or.inr rfl)) pgs_nil)) (by rfl)))
      (pss_cons (ps_for PassesOwn.never rfl (pi_range3 (by rfl) B.range (pa_cons (pe_op op_sub (pe_callB call_len_seq (by rfl) B.len (by decide +kernel) (pa_cons (pv 0) pa_nil)) pe_int) (pa_cons (pe_un un_neg pe_int) (pa_cons (pe_un un_neg pe_int) pa_nil)))) (pg_name (i := 4) scLd.nd rfl (Or.inl rfl))
        (pss_cons (ps_set (i := 5) scLd.nd rfl (Or.inl rfl) pe_int)
        (pss_cons (ps_for PassesOwn.never rfl (pi_tup (pe_slice sl_tup (pv 0) (po_some (pe_op op_add (pv 4) pe_int)) po_none)) (pg_name (i := 6) scLd.nd rfl (Or.inr rfl))
          (pss_one (ps_set (i := 5) scLd.nd rfl (Or.inl rfl) (pe_op op_add (pv 5) (pe_op op_mulW (pe_dget (hu1 hr) (pv 3) (pv 6) (fun _ _ => rfl)) (pe_callB (cr_max rfl) (by rfl) B.max (by decide +kernel) (pa_cons (pe_op op_cat (pe_lst (pa_cons pe_int pa_nil))
            (pe_lc (own := [("_law_one", 7)]) (g := gName 7) (tt := tYes) (te := tCB rAbs (tCons (tOp (rIxT K) (tVar 7) (tBM K "list" (rIndex K) (tVar 2) (tCons (tVar 6) tNil))) tNil)) rfl scLd.nd (pi_seq (pv 1)) (blkOk_by (N := nLd) (own := [("_law_one", 7)]) (sc := defScope (top 74)) (by decide +kernel)) (fun _ _ _ _ _ => pg_name (i := 7) scLd.nd rfl (Or.inl rfl)) (fun _ _ _ _ _ => pts_nil)
              (fun _ _ _ _ _ => pe_callB call_abs (by rfl) B.abs (by decide +kernel) (pa_cons (pe_ix ix_tup (pv 7) (pe_bm PySem.F.plainAttrs_list PySem.F.slot_list_index PySem.F.type_list_index mt_index (pv 2) (pa_cons (pv 6) pa_nil)) (fun _ _ => rfl)) pa_nil)))) pa_nil)))))))
        (pss_one (ps_dput (hu1 hr) (pv 3) (pe_ix ix_tup (pv 0) (pv 4) (fun _ _ => rfl)) (pv 5) (by rfl))))))
      (pss_one (ps_ret (pe_callTy call_tuple_of (by rfl) B.tuple (by decide +kernel) (pa_cons
        (pe_lc (own := [("_law_x", 8)]) (g := gName 8) (tt := tYes) rfl scLd.nd (pi_list (pv 2)) (blkOk_by (N := nLd) (own := [("_law_x", 8)]) (sc := defScope (top 74)) (by decide +kernel)) (fun _ _ _ _ _ => pg_name (i := 8) scLd.nd rfl (Or.inl rfl)) (fun _ _ _ _ _ => pts_nil)
          (fun _ _ _ _ _ => pe_dget (hu1 hr) (pv 3) (pv 8) (fun _ _ => rfl))) pa_nil))))), ?_⟩
    have l7 := hn.len
    have lss : (srt ns).length = ns.length := srt_len ns
    refine ⟨_, rfl, a, ns, rfl, ha, by omega, fun ys p py sy np => ?_⟩
    have eys := srt_uniq py sy
    subst eys
    intro d nd
    refine ⟨sz (show 2 ≤ 100000 by decide), fun t nt => ⟨t, _, rfl, SqT.of upd_same, rfl, _, _, rfl, _, _, rfl, rfl, ?_⟩⟩
    have s1 : L2.Same H (upd H p (.lst ((srt ns).map V.str))) := same_new np
    have nd0 : H d = none := s1.free nd
    have s2 := s1.trans (same_new (o := .dK []) nd)
    have s3 := s2.trans (same_new (o := .tup [.ref p, .ref d]) nt)
    have ep : (upd (upd (upd H p (.lst ((srt ns).map V.str))) d (.dK [])) t (.tup [.ref p, .ref d])) p = some (.lst ((srt ns).map V.str)) := (same_new nt) _ _ ((same_new nd) _ _ upd_same)
    have ed : (upd (upd (upd H p (.lst ((srt ns).map V.str))) d (.dK [])) t (.tup [.ref p, .ref d])) d = some (.dK []) := (same_new nt) _ _ upd_same
    generalize upd (upd (upd H p (.lst ((srt ns).map V.str))) d (.dK [])) t (.tup [.ref p, .ref d]) = H3 at s3 ep ed ⊢
    have ndr : ns.reverse.Nodup := (List.reverse_perm ns).nodup_iff.mpr hn.nd
    refine ⟨_, rfl, a, _, rfl, .inr (Kb.Same.tup s3 ha), _, _, rfl, rfl, _, rfl, _, rfl, _, _, _, _, rfl, RgC.neg (by rw [List.length_map]; omega) (by rw [List.length_map]; omega) (by omega) (by omega), ?_⟩
    rw [List.length_map, show ((((ns.length : Nat) : Int) - 1) - (-1)).toNat = ns.length by omega]
    obtain ⟨av, vs, rfl, hav, hp⟩ := hv
    have hvl : vs.length = fs.length := Paired.length hp
    refine forI (srcRc (((ns.length : Nat) : Int) - 1) (-1) ns.length) (fun i σ H' => (∃ y1 y2 y3, σ = [some (.ref a), some (.ref av), some (.ref p), some (.ref d), y1, y2, y3, none, none]) ∧ L2.Same H H' ∧ H' p = some (.lst ((srt ns).map V.str)) ∧ H' d = some (.dK (kvsOf ((ns.reverse.take i).map fun z => (z, V.int (wt (mgf fs) ns z))))))
      ⟨⟨none, none, none, rfl⟩, s3, ep, ed⟩ (fun _ _ _ _ _ => True.intro) (fun i x σ H4 H5 hi hP s45 hR => ?_) (fun σ H4 hP => ?_)
    · obtain ⟨⟨y1, y2, y3, rfl⟩, s4, ep4, ed4⟩ := hP
      have s5 := s4.trans s45
      have ep5 := s45 _ _ ep4
      have ed5 := s45 _ _ ed4
      obtain ⟨k, hk⟩ : ∃ k, k = ns.length - 1 - i := ⟨_, rfl⟩
      have ex : x = .int (k : Int) := by
        have q9 : x = .int ((((ns.length : Nat) : Int) - 1) + (i : Nat) * (-1)) := hR
        rw [q9, show ((((ns.length : Nat) : Int) - 1) + (i : Nat) * (-1)) = (k : Int) by omega]
      subst ex
      have hkl : k < ns.length := by omega
      refine ⟨_, rfl, _, rfl, _, _, rfl, rfl, _, rfl, a, _, rfl, Kb.Same.tup s5 ha, ?_, ?_⟩
      · rintro ⟨z1, _⟩
        have e9 : (k : Int) + 1 = ((k + 1 : Nat) : Int) := by omega
        rw [List.length_map] at z1
        change HT.sIx ns.length 0 (some ((k : Int) + 1)) = 0 at z1
        rw [e9, HT.sIx_nat] at z1
        omega
      intro p2 np2
      have e9 : (k : Int) + 1 = ((k + 1 : Nat) : Int) := by omega
      have e8 : cutV (ns.map V.str) (some ((k : Int) + 1)) none = (ns.drop (k + 1)).map V.str := by rw [e9]; exact cut_from (by omega)
      rw [e8]
      have s6 : L2.Same H5 (upd H5 p2 (.tup ((ns.drop (k + 1)).map V.str))) := same_new np2
      have e26 : (upd H5 p2 (.tup ((ns.drop (k + 1)).map V.str))) p2 = some (.tup ((ns.drop (k + 1)).map V.str)) := upd_same
      have ep6 := s6 _ _ ep5
      have ed6 := s6 _ _ ed5
      refine ⟨p2, rfl, ⟨_, SqT.of e26⟩, ?_⟩
      have edrop : ns.reverse.take i = (ns.drop (k + 1)).reverse := by
        rw [List.take_reverse, show ns.length - i = k + 1 by omega]
      have esplit : ns = ns.take (k + 1) ++ ns.drop (k + 1) := (List.take_append_drop _ _).symm
      refine forI (srcT p2 ((ns.drop (k + 1)).map V.str)) (fun j σ H' => (∃ y, σ = [some (.ref a), some (.ref av), some (.ref p), some (.ref d), some (.int (k : Nat)), some (.int (1 + psum ns fs ((ns.drop (k + 1)).take j))), y, none, none]) ∧ L2.Same (upd H5 p2 (.tup ((ns.drop (k + 1)).map V.str))) H') ⟨⟨_, rfl⟩, L2.Same.refl _⟩ (fun j σ H' _ hP => SqT.of (hP.2 _ _ e26)) (fun j y σ H6 H7 hj hP s67 hR2 => ?_) (fun σ H6 hP => ?_)
      · obtain ⟨⟨y6, rfl⟩, sa⟩ := hP
        have sb := sa.trans s67
        obtain ⟨z, hz, rfl⟩ := map_at hR2
        have hzd : z ∈ ns.drop (k + 1) := List.mem_of_getElem? hz
        have hzn : z ∈ ns := List.mem_of_mem_drop hzd
        have hzs : z ∈ srt ns := srt_mem.mpr hzn
        have hzr : z ∈ ns.reverse.take i := by rw [edrop]; exact List.mem_reverse.mpr hzd
        have eval : valV (kvsOf ((ns.reverse.take i).map fun z => (z, V.int (wt (mgf fs) ns z)))) (Sum.inr z) = some (V.int (wt (mgf fs) ns z)) := by
          refine val_at ?_ (List.mem_map.mpr ⟨z, hzr, rfl⟩)
          rw [List.map_map]
          have e9 : ((fun x : Str × V => x.1) ∘ fun z => (z, V.int (wt (mgf fs) ns z))) = id := rfl
          rw [e9, List.map_id]
          exact List.Nodup.sublist (List.take_sublist _ _) ndr
        obtain ⟨jj, hjj, hjl, hjm⟩ := idx_nd (srt_nd hn.nd) hzs
        refine ⟨_, rfl, _, rfl, _, rfl, d, _, rfl, .inl ⟨_, Sum.inr z, .inl (sb _ _ ed6), rfl, eval.symm⟩, sz (show 1 ≤ 100000 by decide), fun p3 np3 => ?_⟩
        have sc : L2.Same H7 (upd H7 p3 (.lst [.int 0])) := same_new np3
        have sd := sb.trans sc
        have sH := (s5.trans s6).trans sd
        refine seq_var rfl (hav.same sH) fun J Kp hK S => ?_
        refine lcV S (by omega) (fs.map fun f => V.int (ab (f z))) (by rw [List.length_map, hvl]) (fun H' sm => hK H' sm) (fun i2 x2 y2 H8 hi2 hR2 hy2 sm Y hY => ?_) (fun Dl H8 hD sm eD => ?_)
        · obtain ⟨g, hg, rfl⟩ := map_at hy2
          obtain ⟨g', hg', b, rfl, hb⟩ := paired_get hp hR2
          rw [hg] at hg'
          cases hg'
          have epx := sm _ _ (sd _ _ ep6)
          refine ⟨rfl, _, rfl, _, rfl, .inl ⟨rfl, _, SqL.of epx⟩, ⟨_, rfl, p, _, .str z, jj, .str z, rfl, rfl, SqL.of epx, rfl, flat_strs _, by rw [List.getElem?_map, hjj]; rfl, ?_, fun m z' hm hz' => ?_, ?_⟩⟩
          · show (z == z) = true
            simp
          · obtain ⟨z2, hz2, rfl⟩ := map_at hz'
            show (z2 == z) = false
            refine beq_false_of_ne fun e => hjm m hm ?_
            rw [hz2, e]
          · exact ⟨b, _, (jj : Int), V.int (g z), rfl, rfl, Kb.Same.tup (sH.trans sm) hb, atI_nat (by rw [List.getElem?_map, List.getElem?_map, hjj]; rfl), _, rfl, hY _ (L2.Same.refl _)⟩
        · refine ⟨p3, Dl, _, _, rfl, rfl, sm _ _ upd_same, eD, sz (by rw [List.length_map]; show 1 + fs.length ≤ 100000; omega), fun p4 np4 => ?_⟩
          refine ⟨p4, 0 :: fs.map (fun f => ab (f z)), rfl, SqL.of (by rw [upd_same, List.map_cons, List.map_map]; rfl), Nat.zero_lt_succ _, fun m hm hle => ?_⟩
          have em : m = mgf fs z := mx_uniq hm hle
          subst em
          have hwl := wt_lt hfs (srt_perm ns) l7 z
          have hml := mgf_lt hfs hzs
          have hmn := mgf_nn fs z
          refine ⟨_, _, rfl, rfl, wide_mul (a := 218) (b := 30) (by omega) (by omega) (by decide) (by decide) (by decide), _, _, rfl, rfl, ⟨⟨some (.str z), ?_⟩, sd.trans (sm.trans (same_new np4))⟩⟩
          have er : 1 + psum ns fs ((ns.drop (k + 1)).take (j + 1)) = 1 + psum ns fs ((ns.drop (k + 1)).take j) + wt (mgf fs) ns z * mgf fs z := by
            rw [take_snoc hz, psum_snoc]
            omega
          rw [er]
          rfl
      · obtain ⟨⟨y6, rfl⟩, sa⟩ := hP
        rw [List.length_map, List.take_length, psum_bl (r := ns.drop (k + 1)) esplit hn.nd]
        have sH := (s5.trans s6).trans sa
        obtain ⟨z, hz⟩ : ∃ z, ns[k]? = some z := ⟨_, List.getElem?_eq_getElem hkl⟩
        have hzr : ns.reverse[i]? = some z := by
          rw [List.getElem?_reverse (by omega), show ns.length - 1 - i = k by omega]
          exact hz
        have hw : wt (mgf fs) ns z = 1 + rsum (ns.drop (k + 1)) fs := by
          rw [wt_rev hn.nd hzr, edrop, List.reverse_reverse]
        have hnot : z ∉ ns.reverse.take i := fun hm => by
          obtain ⟨j2, hj2, ej⟩ := List.mem_iff_getElem.mp hm
          rw [List.length_take] at hj2
          rw [List.getElem_take] at ej
          have q9 := L2.nd_ix ndr (i := j2) (j := i) (x := z) (by rw [List.getElem?_eq_getElem (by omega), ej]) hzr
          omega
        have efst : ((ns.reverse.take i).map fun z => (z, V.int (wt (mgf fs) ns z))).map (·.1) = ns.reverse.take i := by
          rw [List.map_map]
          exact List.map_id'' (fun _ => rfl) _
        have eput : putK (kvsOf ((ns.reverse.take i).map fun z => (z, V.int (wt (mgf fs) ns z)))) (Sum.inr z) (V.int (1 + rsum (ns.drop (k + 1)) fs)) = kvsOf ((ns.reverse.take (i + 1)).map fun z => (z, V.int (wt (mgf fs) ns z))) := by
          rw [← hw, take_snoc hzr, List.map_append]
          exact kvs_snoc (es := (ns.reverse.take i).map fun z => (z, V.int (wt (mgf fs) ns z))) (e := (z, V.int (wt (mgf fs) ns z))) (by rw [efst]; exact hnot)
        have epd : p ≠ d := fun z9 => by
          rw [z9, ed4] at ep4
          cases ep4
        refine ⟨_, rfl, _, rfl, _, rfl, _, rfl, a, _, (k : Int), .str z, rfl, rfl, Kb.Same.tup sH ha, atI_nat (by rw [List.getElem?_map, hz]; rfl), d, _, rfl, .inl ⟨_, Sum.inr z, sa _ _ ed6, rfl, szl (by unfold kvsOf; rw [List.length_map, List.length_map, List.length_take, List.length_reverse]; omega), rfl⟩, ?_⟩
        rw [eput]
        exact ⟨⟨_, _, _, rfl⟩, same_put sH nd0, by rw [upd_ne epd]; exact sa _ _ ep6, upd_same⟩
    · obtain ⟨⟨y1, y2, y3, rfl⟩, s4, ep4, ed4⟩ := hP
      have el : ns.reverse.take ns.length = ns.reverse := by rw [← List.length_reverse (as := ns), List.take_length]
      rw [el] at ed4
      refine ⟨_, rfl, p, rfl, ⟨_, SqL.of ep4⟩, ?_⟩
      refine lcV (srcL p ((srt ns).map V.str)) (by rw [List.length_map, lss]; omega) ((wts ns fs).map V.int) (by unfold wts; simp) (fun H' sm => SqL.of (sm _ _ ep4)) (fun i2 x2 y2 H8 hi2 hR2 hy2 sm Y hY => ?_) (fun Dl H8 hD sm eD => ?_)
      · obtain ⟨z, hz, rfl⟩ := map_at hR2
        obtain ⟨wz, hwz, rfl⟩ := map_at hy2
        have hwz2 : wz = wt (mgf fs) ns z := by
          unfold wts at hwz
          rw [List.getElem?_map, hz] at hwz
          exact (Option.some.inj hwz).symm
        subst hwz2
        have hzn : z ∈ ns.reverse := List.mem_reverse.mpr (srt_mem.mp (List.mem_of_getElem? hz))
        have eval : valV (kvsOf (ns.reverse.map fun z => (z, V.int (wt (mgf fs) ns z)))) (Sum.inr z) = some (V.int (wt (mgf fs) ns z)) := by
          refine val_at ?_ (List.mem_map.mpr ⟨z, hzn, rfl⟩)
          rw [List.map_map]
          have e9 : ((fun x : Str × V => x.1) ∘ fun z => (z, V.int (wt (mgf fs) ns z))) = id := rfl
          rw [e9, List.map_id]
          exact ndr
        exact ⟨rfl, _, rfl, _, rfl, d, _, rfl, .inl ⟨_, Sum.inr z, .inl (sm _ _ ed4), rfl, eval.symm⟩, hY _ (L2.Same.refl _)⟩
      · exact ⟨Dl, _, rfl, .inl ⟨SqL.of eD, fun t nt => q _ t ((s4.trans sm).trans (same_new nt)) upd_same⟩⟩
end
end Kb
/-! _law_like of equal data. -/
namespace Kb
open PySem PySem.Spec PyProof.Rows L2
mutual
theorem dp_same {K : PySem.W.Frag} {H H' : Hp} (s : L2.Same H H') : ∀ (d : PyData) (v : V), Dp K H v d → Dp K H' v d
  | .none, _, h => by cases h; exact .non
  | .bool b, _, h => by cases h; exact .bl b
  | .int i, _, h => by cases h; exact .int i
  | .str x, _, h => by cases h; exact .str x
  | .list ds, _, h => by
    cases h with
    | lst q a => exact .lst (s.seq q) (dp_sameA s ds _ a)
  | .tuple ds, _, h => by
    cases h with
    | tup q a => exact .tup (Kb.Same.tup s q) (dp_sameA s ds _ a)
  | .dict _, _, h => by cases h
theorem dp_sameA {K : PySem.W.Frag} {H H' : Hp} (s : L2.Same H H') : ∀ (ds : List PyData) (vs : List V), DpAll K H vs ds → DpAll K H' vs ds
  | [], _, h => by cases h; exact .nil
  | d :: ds, _, h => by
    cases h with
    | cons a t => exact .cons (dp_same s d _ a) (dp_sameA s ds _ t)
end
theorem dpA_len {K : PySem.W.Frag} {H : Hp} : ∀ {ds : List PyData} {vs : List V}, DpAll K H vs ds → vs.length = ds.length
  | [], _, h => by cases h; rfl
  | d :: ds, _, h => by
    cases h with
    | cons a t =>
      show _ + 1 = _ + 1
      rw [dpA_len t]
theorem dpA_get {K : PySem.W.Frag} {H : Hp} : ∀ {ds : List PyData} {vs : List V} {i : Nat} {v : V}, DpAll K H vs ds → vs[i]? = some v → ∃ d, ds[i]? = some d ∧ Dp K H v d
  | [], _, _, _, h, e => by cases h; simp at e
  | d :: ds, _, 0, _, h, e => by
    cases h with
    | cons a t =>
      have e' := Option.some.inj e
      subst e'
      exact ⟨d, rfl, a⟩
  | d :: ds, _, i + 1, _, h, e => by
    cases h with
    | cons a t => exact dpA_get (i := i) t e
theorem dep_at {d : PyData} : ∀ {ds : List PyData} {i : Nat}, ds[i]? = some d → d.depth ≤ PyData.depthAll ds
  | x :: r, 0, e => by
    have e' := Option.some.inj e
    subst e'
    exact Nat.le_max_left _ _
  | x :: r, i + 1, e => Nat.le_trans (dep_at (ds := r) (i := i) e) (Nat.le_max_right _ _)
/-- data at most n deep, of small lists -/
def okD : Nat → PyData → Prop
  | 0, .list _ => False
  | 0, .tuple _ => False
  | n + 1, .list ds => ds.length ≤ 1000 ∧ ∀ d ∈ ds, okD n d
  | n + 1, .tuple ds => ds.length ≤ 1000 ∧ ∀ d ∈ ds, okD n d
  | _, .dict _ => False
  | _, _ => True
theorem isiR {K : PySem.W.Frag} {H : Hp} {v : V} {ty c : String} {b : Bool} {Q : VK} (h : TyX K H v (.type ty)) (k : kitB ty c = some b) (q : Q (.bl b) H) : rIsi K [v, .ty c] H Q := ⟨v, .ty c, .type ty, .type c, b, rfl, .ty c, h, kit_ty k, q⟩
section
variable {P : Program} {w : World} {K : PySem.W.Frag} {mg : Str → Option Value} {base : Heap} {f f1 f2 f3 : Addr} {fd fd1 fd2 fd3 : FuncData}
abbrev nLk : List Str := ["_law_a", "_law_b", "_law_c", "_law_d"]
theorem scLk : FnScope nLk ["_law_a", "_law_b"] (defScope (top 60)) := ⟨rfl, rfl, rfl, by decide +kernel, rfl, by decide +kernel, by decide +kernel⟩
/-- the same data, at most n deep -/
def preLk (K : PySem.W.Frag) (n : Nat) : List V → Hp → Prop := fun vs H => ∃ (a b : V) (d : PyData), vs = [a, b] ∧ Dp K H a d ∧ Dp K H b d ∧ okD n d
theorem sqA_of {K : PySem.W.Frag} {H : Hp} {v : V} {d : PyData} {n : Nat} (h : Dp K H v d) (ok : okD (n + 1) d) : True := True.intro
theorem c_like (B : Blt mg) (D : DefAt K mg "_law_like" (top 60) f fd) : ∀ n, Cal P w K mg base (n + 1) "_law_like" ["_law_a", "_law_b"] (spT (preLk K n)) f fd := by
  intro n
  induction n with
  | zero =>
    refine D.cal scLk (fun _ _ _ _ _ _ us hl => match us, hl with | [_, _], _ => rfl) (fun vs H Q E h => ?_) (fun cdv A outer s H vs Q E hr h => ?_)
    · obtain ⟨⟨a, b, d, rfl, _⟩, _⟩ := h
      rfl
    · obtain ⟨⟨a, b, d, rfl, ha, hb, ok⟩, q⟩ := h
      refine ⟨_, pss_cons (ps_if (pt_val (pe_callB call_isi (by rfl) B.isinstance (by decide +kernel) (pa_cons (pv 1) (pa_cons (pe_bltn (v := .ty "dict") (by rfl) B.dict (by decide +kernel) rfl) pa_nil)))) pss_never pss_nil)
        (pss_cons (ps_if (PW.pt (pw_or (pt_val (pe_callB call_isi (by rfl) B.isinstance (by decide +kernel) (pa_cons (pv 1) (pa_cons (pe_bltn (v := .ty "list") (by rfl) B.list (by decide +kernel) rfl) pa_nil)))) (pw_or1 (pt_val (pe_callB call_isi (by rfl) B.isinstance (by decide +kernel) (pa_cons (pv 1) (pa_cons (pe_bltn (v := .ty "tuple") (by rfl) B.tuple (by decide +kernel) rfl) pa_nil))))))) pss_never pss_nil)
        (pss_cons (ps_if (PW.pt (pw_or (pt_cmpR op_isN (pv 0) pe_non (by rfl)) (pw_or1 (pt_cmpR op_isN (pv 1) pe_non (by rfl))))) (pss_one (ps_ret (pe_and (pe_cmpR op_isN (pv 0) pe_non (by rfl)) (pe_one (pe_cmpR op_isN (pv 1) pe_non (by rfl)))))) pss_nil)
        (pss_cons (ps_if (PW.pt (pw_or (pt_cmpR op_ne (pe_callB call_isi (by rfl) B.isinstance (by decide +kernel) (pa_cons (pv 0) (pa_cons (pe_bltn (v := .ty "bool") (by rfl) B.bool (by decide +kernel) rfl) pa_nil))) (pe_callB call_isi (by rfl) B.isinstance (by decide +kernel) (pa_cons (pv 1) (pa_cons (pe_bltn (v := .ty "bool") (by rfl) B.bool (by decide +kernel) rfl) pa_nil))) (by rfl))
            (pw_or1 (pt_cmpR op_ne (pe_callB call_isi (by rfl) B.isinstance (by decide +kernel) (pa_cons (pv 0) (pa_cons (pe_bltn (v := .ty "int") (by rfl) B.int (by decide +kernel) rfl) pa_nil))) (pe_callB call_isi (by rfl) B.isinstance (by decide +kernel) (pa_cons (pv 1) (pa_cons (pe_bltn (v := .ty "int") (by rfl) B.int (by decide +kernel) rfl) pa_nil))) (by rfl))))) (pss_one (ps_ret pe_bl)) pss_nil)
        (pss_one (ps_ret (pe_and (pe_cmpR op_eq (pe_callB call_isi (by rfl) B.isinstance (by decide +kernel) (pa_cons (pv 0) (pa_cons (pe_bltn (v := .ty "str") (by rfl) B.str (by decide +kernel) rfl) pa_nil))) (pe_callB call_isi (by rfl) B.isinstance (by decide +kernel) (pa_cons (pv 1) (pa_cons (pe_bltn (v := .ty "str") (by rfl) B.str (by decide +kernel) rfl) pa_nil))) (by rfl)) (pe_one (pe_cmpR op_eq (pv 0) (pv 1) (by rfl))))))))), ?_⟩
      have q0 := q H (L2.Same.refl _)
      cases d with
      | none =>
        cases ha
        cases hb
        have t : TyX K H .non (.type "NoneType") := .base .non
        refine ⟨_, rfl, _, .ty "dict", .type "NoneType", .type "dict", false, rfl, .ty "dict", t, kit_ty (by decide +kernel), ⟨false, rfl, iteF ⟨_, rfl, _, .ty "list", .type "NoneType", .type "list", false, rfl, .ty "list", t, kit_ty (by decide +kernel), ⟨false, rfl, iteF ⟨_, rfl, _, .ty "tuple", .type "NoneType", .type "tuple", false, rfl, .ty "tuple", t, kit_ty (by decide +kernel), ⟨false, rfl, iteF ⟨_, rfl, rfl, true, rfl, iteT ?_⟩⟩⟩⟩⟩⟩⟩
        exact ⟨_, rfl, rfl, true, rfl, iteT ⟨_, rfl, rfl, q0⟩⟩
      | bool k =>
        cases ha
        cases hb
        have t : TyX K H (.bl k) (.type "bool") := .base (.bl k)
        refine ⟨_, rfl, _, .ty "dict", .type "bool", .type "dict", false, rfl, .ty "dict", t, kit_ty (by decide +kernel), ⟨false, rfl, iteF ⟨_, rfl, _, .ty "list", .type "bool", .type "list", false, rfl, .ty "list", t, kit_ty (by decide +kernel), ⟨false, rfl, iteF ⟨_, rfl, _, .ty "tuple", .type "bool", .type "tuple", false, rfl, .ty "tuple", t, kit_ty (by decide +kernel), ⟨false, rfl, iteF ⟨_, rfl, rfl, false, rfl, iteF ⟨_, rfl, rfl, false, rfl, iteF ?_⟩⟩⟩⟩⟩⟩⟩⟩
        refine ⟨_, rfl, _, .ty "bool", .type "bool", .type "bool", true, rfl, .ty "bool", t, kit_ty (by decide +kernel), ⟨_, rfl, _, .ty "bool", .type "bool", .type "bool", true, rfl, .ty "bool", t, kit_ty (by decide +kernel), ⟨rfl, false, rfl, iteF ⟨_, rfl, _, .ty "int", .type "bool", .type "int", true, rfl, .ty "int", t, kit_ty (by decide +kernel), ⟨_, rfl, _, .ty "int", .type "bool", .type "int", true, rfl, .ty "int", t, kit_ty (by decide +kernel), ⟨rfl, false, rfl, iteF ?_⟩⟩⟩⟩⟩⟩
        refine ⟨_, rfl, _, .ty "str", .type "bool", .type "str", false, rfl, .ty "str", t, kit_ty (by decide +kernel), ⟨_, rfl, _, .ty "str", .type "bool", .type "str", false, rfl, .ty "str", t, kit_ty (by decide +kernel), ⟨rfl, true, rfl, iteT ⟨_, rfl, _, rfl, rfl, ?_⟩⟩⟩⟩
        rw [decide_eq_true rfl]
        exact q0
      | int k =>
        cases ha
        cases hb
        have t : TyX K H (.int k) (.type "int") := .base (.int k)
        refine ⟨_, rfl, _, .ty "dict", .type "int", .type "dict", false, rfl, .ty "dict", t, kit_ty (by decide +kernel), ⟨false, rfl, iteF ⟨_, rfl, _, .ty "list", .type "int", .type "list", false, rfl, .ty "list", t, kit_ty (by decide +kernel), ⟨false, rfl, iteF ⟨_, rfl, _, .ty "tuple", .type "int", .type "tuple", false, rfl, .ty "tuple", t, kit_ty (by decide +kernel), ⟨false, rfl, iteF ⟨_, rfl, rfl, false, rfl, iteF ⟨_, rfl, rfl, false, rfl, iteF ?_⟩⟩⟩⟩⟩⟩⟩⟩
        refine ⟨_, rfl, _, .ty "bool", .type "int", .type "bool", false, rfl, .ty "bool", t, kit_ty (by decide +kernel), ⟨_, rfl, _, .ty "bool", .type "int", .type "bool", false, rfl, .ty "bool", t, kit_ty (by decide +kernel), ⟨rfl, false, rfl, iteF ⟨_, rfl, _, .ty "int", .type "int", .type "int", true, rfl, .ty "int", t, kit_ty (by decide +kernel), ⟨_, rfl, _, .ty "int", .type "int", .type "int", true, rfl, .ty "int", t, kit_ty (by decide +kernel), ⟨rfl, false, rfl, iteF ?_⟩⟩⟩⟩⟩⟩
        refine ⟨_, rfl, _, .ty "str", .type "int", .type "str", false, rfl, .ty "str", t, kit_ty (by decide +kernel), ⟨_, rfl, _, .ty "str", .type "int", .type "str", false, rfl, .ty "str", t, kit_ty (by decide +kernel), ⟨rfl, true, rfl, iteT ⟨_, rfl, _, rfl, rfl, ?_⟩⟩⟩⟩
        rw [decide_eq_true rfl]
        exact q0
      | str k =>
        cases ha
        cases hb
        have t : TyX K H (.str k) (.type "str") := .base (.str k)
        refine ⟨_, rfl, _, .ty "dict", .type "str", .type "dict", false, rfl, .ty "dict", t, kit_ty (by decide +kernel), ⟨false, rfl, iteF ⟨_, rfl, _, .ty "list", .type "str", .type "list", false, rfl, .ty "list", t, kit_ty (by decide +kernel), ⟨false, rfl, iteF ⟨_, rfl, _, .ty "tuple", .type "str", .type "tuple", false, rfl, .ty "tuple", t, kit_ty (by decide +kernel), ⟨false, rfl, iteF ⟨_, rfl, rfl, false, rfl, iteF ⟨_, rfl, rfl, false, rfl, iteF ?_⟩⟩⟩⟩⟩⟩⟩⟩
        refine ⟨_, rfl, _, .ty "bool", .type "str", .type "bool", false, rfl, .ty "bool", t, kit_ty (by decide +kernel), ⟨_, rfl, _, .ty "bool", .type "str", .type "bool", false, rfl, .ty "bool", t, kit_ty (by decide +kernel), ⟨rfl, false, rfl, iteF ⟨_, rfl, _, .ty "int", .type "str", .type "int", false, rfl, .ty "int", t, kit_ty (by decide +kernel), ⟨_, rfl, _, .ty "int", .type "str", .type "int", false, rfl, .ty "int", t, kit_ty (by decide +kernel), ⟨rfl, false, rfl, iteF ?_⟩⟩⟩⟩⟩⟩
        refine ⟨_, rfl, _, .ty "str", .type "str", .type "str", true, rfl, .ty "str", t, kit_ty (by decide +kernel), ⟨_, rfl, _, .ty "str", .type "str", .type "str", true, rfl, .ty "str", t, kit_ty (by decide +kernel), ⟨rfl, true, rfl, iteT ⟨_, rfl, _, rfl, rfl, ?_⟩⟩⟩⟩
        rw [decide_eq_true rfl]
        exact q0
      | list ds => exact ok.elim
      | tuple ds => exact ok.elim
      | dict ds => exact ok.elim
  | succ n ih =>
    refine D.cal scLk (fun _ _ _ _ _ _ us hl => match us, hl with | [_, _], _ => rfl) (fun vs H Q E h => ?_) (fun cdv A outer s H vs Q E hr h => ?_)
    · obtain ⟨⟨a, b, d, rfl, _⟩, _⟩ := h
      rfl
    · obtain ⟨⟨a, b, d, rfl, ha, hb, ok⟩, q⟩ := h
      refine ⟨_, pss_cons (ps_if (pt_val (pe_callB call_isi (by rfl) B.isinstance (by decide +kernel) (pa_cons (pv 1) (pa_cons (pe_bltn (v := .ty "dict") (by rfl) B.dict (by decide +kernel) rfl) pa_nil)))) pss_never pss_nil)
        (pss_cons (ps_if (PW.pt (pw_or (pt_val (pe_callB call_isi (by rfl) B.isinstance (by decide +kernel) (pa_cons (pv 1) (pa_cons (pe_bltn (v := .ty "list") (by rfl) B.list (by decide +kernel) rfl) pa_nil)))) (pw_or1 (pt_val (pe_callB call_isi (by rfl) B.isinstance (by decide +kernel) (pa_cons (pv 1) (pa_cons (pe_bltn (v := .ty "tuple") (by rfl) B.tuple (by decide +kernel) rfl) pa_nil))))))) (pss_cons (ps_if (PW.pt (pw_or (pt_cmpR op_ne (pe_callB call_isi (by rfl) B.isinstance (by decide +kernel) (pa_cons (pv 0) (pa_cons (pe_bltn (v := .ty "list") (by rfl) B.list (by decide +kernel) rfl) pa_nil))) (pe_callB call_isi (by rfl) B.isinstance (by decide +kernel) (pa_cons (pv 1) (pa_cons (pe_bltn (v := .ty "list") (by rfl) B.list (by decide +kernel) rfl) pa_nil))) (by rfl))
            (pw_or1 (pt_cmpR op_ne (pe_callB call_isi (by rfl) B.isinstance (by decide +kernel) (pa_cons (pv 0) (pa_cons (pe_bltn (v := .ty "tuple") (by rfl) B.tuple (by decide +kernel) rfl) pa_nil))) (pe_callB call_isi (by rfl) B.isinstance (by decide +kernel) (pa_cons (pv 1) (pa_cons (pe_bltn (v := .ty "tuple") (by rfl) B.tuple (by decide +kernel) rfl) pa_nil))) (by rfl))))) (pss_one (ps_ret pe_bl)) pss_nil)
          (pss_one (ps_ret (pe_and (pe_cmpR op_eq (pe_callB call_len_seq (by rfl) B.len (by decide +kernel) (pa_cons (pv 0) pa_nil)) (pe_callB call_len_seq (by rfl) B.len (by decide +kernel) (pa_cons (pv 1) pa_nil)) (by rfl)) (pe_one (pe_callB (cr_all rfl) (by rfl) B.all (by decide +kernel) (pa_cons
            (pe_lc (own := [("_law_c", 2), ("_law_d", 3)]) (g := gTup K 2 (gCons (gName 2) (gCons (gName 3) gNil))) (tt := tYes) rfl scLk.nd (RZ.pi_zipA (by rfl) B.zip (pa_cons (pv 0) (pa_cons (pv 1) pa_nil))) (blkOk_by (N := nLk) (own := [("_law_c", 2), ("_law_d", 3)]) (sc := defScope (top 60)) (by decide +kernel))
              (fun _ _ _ _ _ => pg_tup rfl (pgs_cons (pg_name (i := 2) scLk.nd rfl (Or.inl rfl)) (pgs_cons (pg_name (i := 3) scLk.nd rfl (Or.inl rfl)) pgs_nil)) (by rfl)) (fun _ _ _ _ _ => pts_nil) (fun _ _ _ _ _ => pe_cal ih hr (by rfl) (pa_cons (pv 2) (pa_cons (pv 3) pa_nil)))) pa_nil))))))) pss_nil)
        (pss_cons (ps_if (PW.pt (pw_or (pt_cmpR op_isN (pv 0) pe_non (by rfl)) (pw_or1 (pt_cmpR op_isN (pv 1) pe_non (by rfl))))) (pss_one (ps_ret (pe_and (pe_cmpR op_isN (pv 0) pe_non (by rfl)) (pe_one (pe_cmpR op_isN (pv 1) pe_non (by rfl)))))) pss_nil)
        (pss_cons (ps_if (PW.pt (pw_or (pt_cmpR op_ne (pe_callB call_isi (by rfl) B.isinstance (by decide +kernel) (pa_cons (pv 0) (pa_cons (pe_bltn (v := .ty "bool") (by rfl) B.bool (by decide +kernel) rfl) pa_nil))) (pe_callB call_isi (by rfl) B.isinstance (by decide +kernel) (pa_cons (pv 1) (pa_cons (pe_bltn (v := .ty "bool") (by rfl) B.bool (by decide +kernel) rfl) pa_nil))) (by rfl))
            (pw_or1 (pt_cmpR op_ne (pe_callB call_isi (by rfl) B.isinstance (by decide +kernel) (pa_cons (pv 0) (pa_cons (pe_bltn (v := .ty "int") (by rfl) B.int (by decide +kernel) rfl) pa_nil))) (pe_callB call_isi (by rfl) B.isinstance (by decide +kernel) (pa_cons (pv 1) (pa_cons (pe_bltn (v := .ty "int") (by rfl) B.int (by decide +kernel) rfl) pa_nil))) (by rfl))))) (pss_one (ps_ret pe_bl)) pss_nil)
        (pss_one (ps_ret (pe_and (pe_cmpR op_eq (pe_callB call_isi (by rfl) B.isinstance (by decide +kernel) (pa_cons (pv 0) (pa_cons (pe_bltn (v := .ty "str") (by rfl) B.str (by decide +kernel) rfl) pa_nil))) (pe_callB call_isi (by rfl) B.isinstance (by decide +kernel) (pa_cons (pv 1) (pa_cons (pe_bltn (v := .ty "str") (by rfl) B.str (by decide +kernel) rfl) pa_nil))) (by rfl)) (pe_one (pe_cmpR op_eq (pv 0) (pv 1) (by rfl))))))))), ?_⟩
      have q0 := q H (L2.Same.refl _)
      cases d with
      | none =>
        cases ha
        cases hb
        have t : TyX K H .non (.type "NoneType") := .base .non
        refine ⟨_, rfl, _, .ty "dict", .type "NoneType", .type "dict", false, rfl, .ty "dict", t, kit_ty (by decide +kernel), ⟨false, rfl, iteF ⟨_, rfl, _, .ty "list", .type "NoneType", .type "list", false, rfl, .ty "list", t, kit_ty (by decide +kernel), ⟨false, rfl, iteF ⟨_, rfl, _, .ty "tuple", .type "NoneType", .type "tuple", false, rfl, .ty "tuple", t, kit_ty (by decide +kernel), ⟨false, rfl, iteF ⟨_, rfl, rfl, true, rfl, iteT ?_⟩⟩⟩⟩⟩⟩⟩
        exact ⟨_, rfl, rfl, true, rfl, iteT ⟨_, rfl, rfl, q0⟩⟩
      | bool k =>
        cases ha
        cases hb
        have t : TyX K H (.bl k) (.type "bool") := .base (.bl k)
        refine ⟨_, rfl, _, .ty "dict", .type "bool", .type "dict", false, rfl, .ty "dict", t, kit_ty (by decide +kernel), ⟨false, rfl, iteF ⟨_, rfl, _, .ty "list", .type "bool", .type "list", false, rfl, .ty "list", t, kit_ty (by decide +kernel), ⟨false, rfl, iteF ⟨_, rfl, _, .ty "tuple", .type "bool", .type "tuple", false, rfl, .ty "tuple", t, kit_ty (by decide +kernel), ⟨false, rfl, iteF ⟨_, rfl, rfl, false, rfl, iteF ⟨_, rfl, rfl, false, rfl, iteF ?_⟩⟩⟩⟩⟩⟩⟩⟩
        refine ⟨_, rfl, _, .ty "bool", .type "bool", .type "bool", true, rfl, .ty "bool", t, kit_ty (by decide +kernel), ⟨_, rfl, _, .ty "bool", .type "bool", .type "bool", true, rfl, .ty "bool", t, kit_ty (by decide +kernel), ⟨rfl, false, rfl, iteF ⟨_, rfl, _, .ty "int", .type "bool", .type "int", true, rfl, .ty "int", t, kit_ty (by decide +kernel), ⟨_, rfl, _, .ty "int", .type "bool", .type "int", true, rfl, .ty "int", t, kit_ty (by decide +kernel), ⟨rfl, false, rfl, iteF ?_⟩⟩⟩⟩⟩⟩
        refine ⟨_, rfl, _, .ty "str", .type "bool", .type "str", false, rfl, .ty "str", t, kit_ty (by decide +kernel), ⟨_, rfl, _, .ty "str", .type "bool", .type "str", false, rfl, .ty "str", t, kit_ty (by decide +kernel), ⟨rfl, true, rfl, iteT ⟨_, rfl, _, rfl, rfl, ?_⟩⟩⟩⟩
        rw [decide_eq_true rfl]
        exact q0
      | int k =>
        cases ha
        cases hb
        have t : TyX K H (.int k) (.type "int") := .base (.int k)
        refine ⟨_, rfl, _, .ty "dict", .type "int", .type "dict", false, rfl, .ty "dict", t, kit_ty (by decide +kernel), ⟨false, rfl, iteF ⟨_, rfl, _, .ty "list", .type "int", .type "list", false, rfl, .ty "list", t, kit_ty (by decide +kernel), ⟨false, rfl, iteF ⟨_, rfl, _, .ty "tuple", .type "int", .type "tuple", false, rfl, .ty "tuple", t, kit_ty (by decide +kernel), ⟨false, rfl, iteF ⟨_, rfl, rfl, false, rfl, iteF ⟨_, rfl, rfl, false, rfl, iteF ?_⟩⟩⟩⟩⟩⟩⟩⟩
        refine ⟨_, rfl, _, .ty "bool", .type "int", .type "bool", false, rfl, .ty "bool", t, kit_ty (by decide +kernel), ⟨_, rfl, _, .ty "bool", .type "int", .type "bool", false, rfl, .ty "bool", t, kit_ty (by decide +kernel), ⟨rfl, false, rfl, iteF ⟨_, rfl, _, .ty "int", .type "int", .type "int", true, rfl, .ty "int", t, kit_ty (by decide +kernel), ⟨_, rfl, _, .ty "int", .type "int", .type "int", true, rfl, .ty "int", t, kit_ty (by decide +kernel), ⟨rfl, false, rfl, iteF ?_⟩⟩⟩⟩⟩⟩
        refine ⟨_, rfl, _, .ty "str", .type "int", .type "str", false, rfl, .ty "str", t, kit_ty (by decide +kernel), ⟨_, rfl, _, .ty "str", .type "int", .type "str", false, rfl, .ty "str", t, kit_ty (by decide +kernel), ⟨rfl, true, rfl, iteT ⟨_, rfl, _, rfl, rfl, ?_⟩⟩⟩⟩
        rw [decide_eq_true rfl]
        exact q0
      | str k =>
        cases ha
        cases hb
        have t : TyX K H (.str k) (.type "str") := .base (.str k)
        refine ⟨_, rfl, _, .ty "dict", .type "str", .type "dict", false, rfl, .ty "dict", t, kit_ty (by decide +kernel), ⟨false, rfl, iteF ⟨_, rfl, _, .ty "list", .type "str", .type "list", false, rfl, .ty "list", t, kit_ty (by decide +kernel), ⟨false, rfl, iteF ⟨_, rfl, _, .ty "tuple", .type "str", .type "tuple", false, rfl, .ty "tuple", t, kit_ty (by decide +kernel), ⟨false, rfl, iteF ⟨_, rfl, rfl, false, rfl, iteF ⟨_, rfl, rfl, false, rfl, iteF ?_⟩⟩⟩⟩⟩⟩⟩⟩
        refine ⟨_, rfl, _, .ty "bool", .type "str", .type "bool", false, rfl, .ty "bool", t, kit_ty (by decide +kernel), ⟨_, rfl, _, .ty "bool", .type "str", .type "bool", false, rfl, .ty "bool", t, kit_ty (by decide +kernel), ⟨rfl, false, rfl, iteF ⟨_, rfl, _, .ty "int", .type "str", .type "int", false, rfl, .ty "int", t, kit_ty (by decide +kernel), ⟨_, rfl, _, .ty "int", .type "str", .type "int", false, rfl, .ty "int", t, kit_ty (by decide +kernel), ⟨rfl, false, rfl, iteF ?_⟩⟩⟩⟩⟩⟩
        refine ⟨_, rfl, _, .ty "str", .type "str", .type "str", true, rfl, .ty "str", t, kit_ty (by decide +kernel), ⟨_, rfl, _, .ty "str", .type "str", .type "str", true, rfl, .ty "str", t, kit_ty (by decide +kernel), ⟨rfl, true, rfl, iteT ⟨_, rfl, _, rfl, rfl, ?_⟩⟩⟩⟩
        rw [decide_eq_true rfl]
        exact q0
      | list ds =>
        cases ha with
        | lst sqa dpa =>
          cases hb with
          | lst sqb dpb =>
            rename_i aa xs bb ys
            obtain ⟨hl, hok⟩ := ok
            have lx := dpA_len dpa
            have ly := dpA_len dpb
            have ta := tyL sqa
            have tb := tyL sqb
            refine ⟨_, rfl, _, .ty "dict", .type "list", .type "dict", false, rfl, .ty "dict", tb, kit_ty (by decide +kernel), false, rfl, iteF ⟨_, rfl, _, .ty "list", .type "list", .type "list", true, rfl, .ty "list", tb, kit_ty (by decide +kernel), true, rfl, iteT (iteT ?_)⟩⟩
            refine ⟨_, rfl, _, .ty "list", .type "list", .type "list", true, rfl, .ty "list", ta, kit_ty (by decide +kernel), _, rfl, _, .ty "list", .type "list", .type "list", true, rfl, .ty "list", tb, kit_ty (by decide +kernel), rfl, false, rfl, iteF ⟨_, rfl, _, .ty "tuple", .type "list", .type "tuple", false, rfl, .ty "tuple", ta, kit_ty (by decide +kernel), _, rfl, _, .ty "tuple", .type "list", .type "tuple", false, rfl, .ty "tuple", tb, kit_ty (by decide +kernel), rfl, false, rfl, iteF ?_⟩⟩
            refine ⟨_, rfl, aa, xs, rfl, .inl sqa, _, rfl, bb, ys, rfl, .inl sqb, rfl, _, rfl, ?_⟩
            rw [lx, ly, decide_eq_true rfl]
            refine iteT ⟨_, rfl, _, rfl, aa, bb, xs, ys, rfl, .inl ⟨sqa, sqb, ?_⟩⟩
            refine lcV (srcZL aa bb xs ys (by rw [lx, ly])) (by omega) ((List.replicate xs.length true).map V.bl) (by simp) (fun H' sm => ⟨sm.seq sqa, sm.seq sqb⟩) (fun i x y H' hi hR hy sm Y hY => ?_) (fun Dl H' hD sm eD => ?_)
            · obtain ⟨p1, q1, hp1, hq1, T, rfl, eT⟩ := hR
              obtain ⟨kb, hkb, rfl⟩ := map_at hy
              have eb := rep_at hkb
              subst eb
              obtain ⟨d1, hd1, dd1⟩ := dpA_get dpa hp1
              obtain ⟨d2, hd2, dd2⟩ := dpA_get dpb hq1
              rw [hd1] at hd2
              cases hd2
              have st : L2.Same H H' := sm
              exact ⟨T, _, rfl, SqT.of eT, rfl, _, _, rfl, _, _, rfl, rfl, rfl, _, rfl, _, rfl, ⟨p1, q1, d1, rfl, dp_same st d1 _ dd1, dp_same st d1 _ dd2, hok d1 (List.mem_of_getElem? hd1)⟩, fun H4 s4 => hY H4 s4⟩
            · refine ⟨Dl, List.replicate xs.length true, rfl, SqL.of eD, ?_⟩
              rw [all_rep]
              exact q H' sm
      | tuple ds =>
        cases ha with
        | tup sqa dpa =>
          cases hb with
          | tup sqb dpb =>
            rename_i aa xs bb ys
            obtain ⟨hl, hok⟩ := ok
            have lx := dpA_len dpa
            have ly := dpA_len dpb
            have ta := tyT sqa
            have tb := tyT sqb
            refine ⟨_, rfl, _, .ty "dict", .type "tuple", .type "dict", false, rfl, .ty "dict", tb, kit_ty (by decide +kernel), false, rfl, iteF ⟨_, rfl, _, .ty "list", .type "tuple", .type "list", false, rfl, .ty "list", tb, kit_ty (by decide +kernel), false, rfl, iteF ⟨_, rfl, _, .ty "tuple", .type "tuple", .type "tuple", true, rfl, .ty "tuple", tb, kit_ty (by decide +kernel), true, rfl, iteT ?_⟩⟩⟩
            refine ⟨_, rfl, _, .ty "list", .type "tuple", .type "list", false, rfl, .ty "list", ta, kit_ty (by decide +kernel), _, rfl, _, .ty "list", .type "tuple", .type "list", false, rfl, .ty "list", tb, kit_ty (by decide +kernel), rfl, false, rfl, iteF ⟨_, rfl, _, .ty "tuple", .type "tuple", .type "tuple", true, rfl, .ty "tuple", ta, kit_ty (by decide +kernel), _, rfl, _, .ty "tuple", .type "tuple", .type "tuple", true, rfl, .ty "tuple", tb, kit_ty (by decide +kernel), rfl, false, rfl, iteF ?_⟩⟩
            refine ⟨_, rfl, aa, xs, rfl, .inr sqa, _, rfl, bb, ys, rfl, .inr sqb, rfl, _, rfl, ?_⟩
            rw [lx, ly, decide_eq_true rfl]
            refine iteT ⟨_, rfl, _, rfl, aa, bb, xs, ys, rfl, .inr ⟨sqa, sqb, ?_⟩⟩
            refine lcV (srcZT aa bb xs ys (by rw [lx, ly])) (by omega) ((List.replicate xs.length true).map V.bl) (by simp) (fun H' sm => ⟨Kb.Same.tup sm sqa, Kb.Same.tup sm sqb⟩) (fun i x y H' hi hR hy sm Y hY => ?_) (fun Dl H' hD sm eD => ?_)
            · obtain ⟨p1, q1, hp1, hq1, T, rfl, eT⟩ := hR
              obtain ⟨kb, hkb, rfl⟩ := map_at hy
              have eb := rep_at hkb
              subst eb
              obtain ⟨d1, hd1, dd1⟩ := dpA_get dpa hp1
              obtain ⟨d2, hd2, dd2⟩ := dpA_get dpb hq1
              rw [hd1] at hd2
              cases hd2
              have st : L2.Same H H' := sm
              exact ⟨T, _, rfl, SqT.of eT, rfl, _, _, rfl, _, _, rfl, rfl, rfl, _, rfl, _, rfl, ⟨p1, q1, d1, rfl, dp_same st d1 _ dd1, dp_same st d1 _ dd2, hok d1 (List.mem_of_getElem? hd1)⟩, fun H4 s4 => hY H4 s4⟩
            · refine ⟨Dl, List.replicate xs.length true, rfl, SqL.of eD, ?_⟩
              rw [all_rep]
              exact q H' sm
      | dict ds => exact ok.elim
end
end Kb
/-! _law_weights_so: the plain law, the call by keywords, the walk. -/
namespace Kb
open PySem PySem.Spec PyProof.Rows L2
/-! ### the plain law -/
/-- a vector as the order bears it -/
def bor (ns : List Str) (f : Str → Int) : Str → Int := if brs f ns = true then f else fun z => -(f z)
theorem bor_ab {ns : List Str} {f : Str → Int} (z : Str) : ab (bor ns f z) = ab (f z) := by
  unfold bor
  split
  · rfl
  · exact ab_neg _
theorem bor_ok {ss ns : List Str} {f : Str → Int} (h : Okf ss f) : Okf ss (bor ns f) := by
  refine ⟨?_, fun z hz => by rw [bor_ab]; exact h.lt z hz⟩
  obtain ⟨z, hz, nz⟩ := h.nz
  refine ⟨z, hz, ?_⟩
  unfold bor
  split
  · exact nz
  · intro e
    have e2 : -(f z) = 0 := e
    omega
theorem bor_brs {ns : List Str} {f : Str → Int} : brs (bor ns f) ns = true := by
  unfold bor
  by_cases h : brs f ns = true
  · rw [if_pos h]
    exact h
  · rw [if_neg h]
    exact lead_brs (brs_not (by simpa using h))
theorem mgf_bor {ns : List Str} {fs : List (Str → Int)} : mgf (fs.map (bor ns)) = mgf fs := by
  funext z
  unfold mgf
  rw [List.map_map]
  congr 1
  exact List.map_congr_left fun f _ => bor_ab z
theorem wts_bor {ns : List Str} {fs : List (Str → Int)} : wts ns (fs.map (bor ns)) = wts ns fs := by
  unfold wts
  rw [mgf_bor]
theorem bears_bor {ns : List Str} (hn : AreNs ns) {fs : List (Str → Int)} (h : ∀ f ∈ fs, Okf (srt ns) f) : Bears (srt ns) (wt (mgf (fs.map (bor ns))) ns) (fs.map (bor ns)) := by
  have hb : ∀ f ∈ fs.map (bor ns), Okf (srt ns) f := fun f hf => by
    obtain ⟨g, hg, rfl⟩ := List.mem_map.mp hf
    exact bor_ok (h g hg)
  refine ⟨fun z _ => ?_, fun z _ => (wt_lt hb (srt_perm ns) hn.len z).2, fun f hf => ?_⟩
  · have := (wt_lt hb (srt_perm ns) hn.len z).1
    omega
  · have hof := hb f hf
    obtain ⟨g, hg, rfl⟩ := List.mem_map.mp hf
    have hl : lead (bor ns g) ns := brs_lead (by
      obtain ⟨z, hz, nz⟩ := hof.nz
      exact ⟨z, srt_mem.mp hz, nz⟩) bor_brs
    have hp := sm_pos (mg := mgf (fs.map (bor ns))) (l := ns) (fun z _ => mgf_le hf z) hl
    rw [sm_wt (p := []) hn.nd] at hp
    rw [perm_sum (srt_perm ns)]
    exact hp
/-! ### f(k = v, ..) -/
theorem pe_callN0 {X : Cx} {CX : CXT} {k : Nat} {f : Addr} {fd : FuncData} {ps ks : List Str} {sp : Sp} {E : XK} {x : Str} {p pos : Pos} {kws : List Keyword} {tk : TA} {g : List Value → List Value → List Value} {gV : List V → List V → List V}
    (F : FnOk X.prog X.w X.K X.mg X.base CX k f fd ps sp) (hr : Room k X.A) (hg : Gl X x) (hm : X.mg x = some (.ref f)) (hk : PySem.W.keepIn X.K (.ref f) = true) (hb : KBn X.K fd ps 0 ks g gV) (hx : Passes CX X E)
    (hkw : PK X kws tk) (hall : (backToKw pos (keywordEach kws X.env)).all (·.1.isSome) = true := by rfl) (hks : (backToKw pos (keywordEach kws X.env)).filterMap (·.1) = ks := by rfl)
    (hdb : (x == ("__debug__" : Str)) = false := by decide)
    (hpl : ((backTo pos (starEach [] X.env)).any (·.1) || (backToKw pos (keywordEach kws X.env)).any (·.1.isNone)) = false := by rfl) :
    PE X (.Call (.Name x p) [] kws pos) (fun σ H Q => tk σ H fun zs H2 => zs.length = ks.length ∧ sp (gV [] zs) H2 Q E) := by
  refine ⟨fun pins s σ H Q I h => ?_⟩
  refine wpAny_Call_Name_kw (ld_glob I hg hm ?_ hdb)
  refine PySem.W.callWith_KW0 (h₀ := X.base) I.ok.mod.kin hk hall (thn (hkw.run pos pins s σ H _ I h) fun ws s2 ⟨zs, H2, I2, rz, l2, q2⟩ => ⟨I2.kIn, ?_⟩) hpl
  rw [hks]
  exact run_fnN (us := []) (vs := []) F hr hb hx I2 .nil rz rfl l2 q2
theorem vals_rev {vs : List V} {us : List Value} (r : Vals vs us) : Vals vs.reverse us.reverse := r.reverse
/-! ### data of rows -/
def rowD (p : List Str × List Str) : PyData := .tuple [.tuple (p.1.map PyData.str), .tuple (p.2.map PyData.str)]
theorem rowD_dp {K : PySem.W.Frag} {H : Hp} {v : V} {p : List Str × List Str} (h : PairRow K H v p.1 p.2) : Dp K H v (rowD p) := by
  obtain ⟨r, a, c, rfl, h1, h2, h3⟩ := h
  exact .tup (SqT.of h1) (.cons (.tup h2 (dp_strs _)) (.cons (.tup h3 (dp_strs _)) .nil))
theorem rows_dp {K : PySem.W.Frag} {H : Hp} : ∀ {vs : List V} {ps : List (List Str × List Str)}, Paired (fun v (p : List Str × List Str) => PairRow K H v p.1 p.2) vs ps → DpAll K H vs (ps.map rowD)
  | _, _, .nil => .nil
  | _, _, .cons h t => .cons (rowD_dp h) (rows_dp t)
theorem ok_strs (ns : List Str) (h : ns.length ≤ 1000) (n : Nat) : okD (n + 1) (.tuple (ns.map PyData.str)) := by
  refine ⟨by rw [List.length_map]; exact h, fun d hd => ?_⟩
  obtain ⟨z, _, rfl⟩ := List.mem_map.mp hd
  cases n <;> trivial
theorem ok_ints (ns : List Int) (h : ns.length ≤ 1000) (n : Nat) : okD (n + 1) (.tuple (ns.map PyData.int)) := by
  refine ⟨by rw [List.length_map]; exact h, fun d hd => ?_⟩
  obtain ⟨z, _, rfl⟩ := List.mem_map.mp hd
  cases n <;> trivial
theorem ok_rows {ss : List Str} {fs : List (Str → Int)} (h : fs.length ≤ 12) (h7 : ss.length ≤ 7) : okD 3 (.list ((rowsOf ss fs).map rowD)) := by
  refine ⟨by unfold rowsOf; rw [List.length_map, List.length_map]; omega, fun d hd => ?_⟩
  obtain ⟨p, hp, rfl⟩ := List.mem_map.mp hd
  obtain ⟨f, _, rfl⟩ := List.mem_map.mp hp
  refine ⟨show 2 ≤ 1000 by decide, fun d hd => ?_⟩
  have h1 : (posN ss f).length ≤ 1000 := Nat.le_trans (List.length_filter_le _ _) (by omega)
  have h2 : (negN ss f).length ≤ 1000 := Nat.le_trans (List.length_filter_le _ _) (by omega)
  rcases List.mem_cons.mp hd with e | hd
  · rw [e]
    exact ok_strs _ h1 0
  · rw [List.mem_singleton.mp hd]
    exact ok_strs _ h2 0
theorem rev_ns {ns : List Str} (h : AreNs ns) : AreNs ns.reverse := ⟨fun z hz => h.nm z (List.mem_reverse.mp hz), (List.reverse_perm ns).nodup_iff.mpr h.nd, by rw [List.length_reverse]; exact h.len⟩
theorem srt_rev (ns : List Str) : srt ns.reverse = srt ns := srt_of_perm (List.reverse_perm ns)
end Kb
/-! _law_weights_so: the walk. -/
namespace Kb
open PySem PySem.Spec PyProof.Rows L2
/-- the defs that it calls -/
structure WsC (P : Program) (w : World) (K : PySem.W.Frag) (mg : Str → Option Value) (base : Heap) (C Cr Co Ci Ct fR fB : Addr) : Prop where
  lo : ∃ f fd, Cal P w K mg base 6 "_law_order" ["_law_names_here"] (spLo K Co) f fd
  lb : ∃ f fd, Cal P w K mg base 1 "_law_bears" ["_law_ranked", "_law_row"] (spLb K) f fd
  lr : ∃ f fd, Cal P w K mg base 1 "_law_row_of" ["_law_names_here", "_law_one"] (spLr K) f fd
  ls : ∃ f fd, Cal P w K mg base 1 "_law_less" ["_law_one"] (spLs K) f fd
  ow : ∃ f fd, Cal P w K mg base 4 "order_weights" ["order", "vectors"] (spOw K Co Ci Ct) f fd ∧ KBn K fd ["order", "vectors"] 0 ["vectors", "order"] (fun us ws => ws.reverse) (fun us ws => ws.reverse)
  ld : ∃ f fd, Cal P w K mg base 1 "_law_weights_due" ["_law_names_here", "_law_given"] (spLd K) f fd
  lk : ∃ f fd, Cal P w K mg base 4 "_law_like" ["_law_a", "_law_b"] (spT (preLk K 3)) f fd
  lq : ∃ f fd, Cal P w K mg base 2 "_law_weights_of" ["_law_item", "_law_given", "_law_wide"] (spT (preLq K)) f fd
  iw : ∃ f fd, CalW P w K mg base 4 "is_weights" ["vectors", "value", "width"] (spT (preIw K)) 2 ["width"] (fun us ws => us ++ ws) (fun us ws => us ++ ws) f fd
  vb : ∃ f fd, Cal P w K mg base 8 "vector_book" ["reasons", "vectors"] (spVb K C Cr) f fd
  fi : ∃ f fd, Cal P w K mg base 4 "fits" ["book", "order"] (spT (preUn K C Co Cr)) f fd
  re : ∃ fd, FnOk P w K mg base (L2.CX P w) 1 fR fd ["self"] (spRe K C) ∧ Binds K fd ["self"] []
  be : ∃ fd, FnOk P w K mg base (L2.CX P w) 2 fB fd ["self", "row"] (spBe K Co Cr) ∧ Binds K fd ["self", "row"] []
section
variable {P : Program} {w : World} {K : PySem.W.Frag} {mg : Str → Option Value} {base : Heap} {f C Cr Co Ci Ct fI fI1 fI2 fN fD fB fR fG : Addr} {fd : FuncData}
abbrev nWs : List Str := ["_law_names_here", "_law_given", "_law_ranked", "_law_wide", "_law_borne", "_law_told", "_law_due", "_law_tome", "_law_plain", "_law_one", "_law_row"]
theorem scWs : FnScope nWs ["_law_names_here", "_law_given"] (defScope (top 76)) := ⟨rfl, rfl, rfl, by decide +kernel, rfl, by decide +kernel, by decide +kernel⟩
def preWs (K : PySem.W.Frag) : List V → Hp → Prop := fun vs H => ∃ (a : Addr) (vv : V) (ns : List Str) (fs : List (Str → Int)), vs = [.ref a, vv] ∧ SqT K H a (ns.map V.str) ∧ AreNs ns ∧ 1 ≤ ns.length ∧ VecsAt K H (srt ns) vv fs ∧ fs.length ≤ 12 ∧ (∀ f ∈ fs, Okf (srt ns) f)
theorem c_wso (B : Blt mg) (G : BookC K mg C fI fR fG) (R : RowC K mg Cr fI1) (Go : OrdC K mg Co fI2 fN fD fB) (W : WsC P w K mg base C Cr Co Ci Ct fR fB) (D : DefAt K mg "_law_weights_so" (top 76) f fd) : Cal P w K mg base 9 "_law_weights_so" ["_law_names_here", "_law_given"] (spT (preWs K)) f fd := by
  obtain ⟨_, _, Lo⟩ := W.lo
  obtain ⟨_, _, Lb⟩ := W.lb
  obtain ⟨_, _, Lr⟩ := W.lr
  obtain ⟨_, _, Ls⟩ := W.ls
  obtain ⟨_, _, Ow, OwK⟩ := W.ow
  obtain ⟨_, _, Ld⟩ := W.ld
  obtain ⟨_, _, Lk⟩ := W.lk
  obtain ⟨_, _, Lq⟩ := W.lq
  obtain ⟨_, _, Iw⟩ := W.iw
  obtain ⟨_, _, Vb⟩ := W.vb
  obtain ⟨_, _, Fi⟩ := W.fi
  obtain ⟨_, Re⟩ := W.re
  obtain ⟨_, Be⟩ := W.be
  refine D.cal scWs (fun _ _ _ _ _ _ us hl => match us, hl with | [_, _], _ => rfl) (fun vs H Q E h => ?_) (fun cdv A outer s H vs Q E hr h => ?_)
  · obtain ⟨⟨a, vv, ns, fs, rfl, _⟩, _⟩ := h
    rfl
  · obtain ⟨⟨a, vv, ns, fs, rfl, ha, hn, h1, hv, hfl, hfs⟩, q⟩ := h
    have r1 : Room 1 (A.deeper (envOfC "_law_weights_so" (defScope (top 76)) s.heap.objs.size f cdv)) := hr.mono (by omega)
    have r2 : Room 2 (A.deeper (envOfC "_law_weights_so" (defScope (top 76)) s.heap.objs.size f cdv)) := hr.mono (by omega)
    have r4 : Room 4 (A.deeper (envOfC "_law_weights_so" (defScope (top 76)) s.heap.objs.size f cdv)) := hr.mono (by omega)
    have r6 : Room 6 (A.deeper (envOfC "_law_weights_so" (defScope (top 76)) s.heap.objs.size f cdv)) := hr.mono (by omega)
    refine ⟨_, pss_cons (ps_asg (pe_tup (pa_cons (pe_cal Lo r6 (by rfl) (pa_cons (pv 0) pa_nil)) (pa_cons (pe_callB call_len_seq (by rfl) B.len (by decide +kernel) (pa_cons (pv 0) pa_nil)) pa_nil))) (pg_tup rfl (pgs_cons (pg_name (i := 2) scWs.nd rfl (Or.inr rfl)) (pgs_cons (pg_name (i := 3) scWs.nd rfl (Or.inl rfl)) pgs_nil)) (by rfl)))
      (pss_cons (ps_setLc (i := 4) (own := [("_law_one", 9)]) (g := gName 9) (tt := tYes) rfl scWs.nd rfl rfl (sw_true rfl rfl rfl (by decide +kernel)) (pi_seq (pv 1)) (blkOk_by (N := nWs) (own := [("_law_one", 9)]) (sc := defScope (top 76)) (by decide +kernel)) (fun _ _ _ _ _ => pg_name (i := 9) scWs.nd rfl (Or.inl rfl)) (fun _ _ _ _ _ => pts_nil)
          (fun _ _ _ _ _ => pe_ifExp (pt_val (pe_cal Lb r1 (by rfl) (pa_cons (pv 0) (pa_cons (pe_cal Lr r1 (by rfl) (pa_cons (pv 0) (pa_cons (pv 9) pa_nil))) pa_nil)))) (pv 9) (pe_cal Ls r1 (by rfl) (pa_cons (pv 9) pa_nil))))
      (pss_cons (ps_par (i := 5) (j := 6) rfl scWs.nd rfl rfl (by decide) rfl rfl (pa_cons (pe_cal Ow r4 (by rfl) (pa_cons (pv 2) (pa_cons (pv 4) pa_nil))) (pa_cons (pe_cal Ld r1 (by rfl) (pa_cons (pv 0) (pa_cons (pv 1) pa_nil))) pa_nil)) (by rfl))
      (pss_cons (ps_if (pt_not (pt_val (pe_cal Lk r4 (by rfl) (pa_cons (pe_lst (pa_cons (pv 5) (pa_cons (pe_cal Ow r4 (by rfl) (pa_cons (pv 2) (pa_cons (pv 1) pa_nil)))
            (pa_cons (pe_callN0 (E := E0) Ow.ok r4 (by rfl) Ow.gl Ow.kp OwK passL (pk_cons (pe_callTy call_tuple_of (by rfl) B.tuple (by decide +kernel) (pa_cons (pv 4) pa_nil)) (pk_cons (pv 2) pk_nil))) pa_nil)))) (pa_cons (pe_lst (pa_cons (pv 6) (pa_cons (pv 6) (pa_cons (pv 6) pa_nil)))) pa_nil))))) (pss_one (ps_ret pe_bl)) pss_nil)
      (pss_cons (ps_if (PW.pt (pw_or (pt_not (pt_val (pe_cal Lq r2 (by rfl) (pa_cons (pv 5) (pa_cons (pv 4) (pa_cons (pv 3) pa_nil)))))) (pw_or1 (pt_not (pt_val (pe_cal Lk r4 (by rfl) (pa_cons (pe_callN (E := E0) Iw.ok r4 (by rfl) Iw.gl Iw.kp Iw.kb passL (pa_cons (pv 4) (pa_cons (pv 5) pa_nil)) (pk_cons (pv 3) pk_nil)) (pa_cons pe_bl pa_nil)))))))) (pss_one (ps_ret pe_bl)) pss_nil)
      (pss_cons (ps_set (i := 7) scWs.nd rfl (Or.inl rfl) (pe_cal Vb hr (by rfl) (pa_cons (pe_revL (pe_callTy call_list_of (by rfl) B.list (by decide +kernel) (pa_cons (pv 0) pa_nil))) (pa_cons (pv 4) pa_nil))))
      (pss_cons (ps_setLc (i := 8) (own := [("_law_one", 9)]) (g := gName 9) (tt := tYes) (te := tOp (rIxT K) (tVar 9) (tC (.int 1))) rfl scWs.nd rfl rfl (sw_true rfl rfl rfl (by decide +kernel)) (pi_list (pe_meth0 (E := E0) (pl := _) (pv 7) G.cl G.mR Re.1 r1 Re.2 .nil passL)) (blkOk_by (N := nWs) (own := [("_law_one", 9)]) (sc := defScope (top 76)) (by decide +kernel)) (fun _ _ _ _ _ => pg_name (i := 9) scWs.nd rfl (Or.inl rfl)) (fun _ _ _ _ _ => pts_nil)
          (fun _ _ _ _ _ => pe_ix ix_tup (pv 9) pe_int (fun _ _ => rfl)))
      (pss_cons (ps_if (pt_not (pt_val (pe_cal Lk r4 (by rfl) (pa_cons
            (pe_lc (own := [("_law_row", 10)]) (g := gName 10) (tt := tYes) (te := tTup (tCons (tFld K (tVar 10) "pro") (tCons (tFld K (tVar 10) "con") tNil))) rfl scWs.nd (pi_list (pv 8)) (blkOk_by (N := nWs) (own := [("_law_row", 10)]) (sc := defScope (top 76)) (by decide +kernel)) (fun _ _ _ _ _ => pg_name (i := 10) scWs.nd rfl (Or.inl rfl)) (fun _ _ _ _ _ => pts_nil)
              (fun _ _ _ _ _ => pe_tup (pa_cons (pe_fld (pv 10) (by rfl)) (pa_cons (pe_fld (pv 10) (by rfl)) pa_nil))))
          (pa_cons (pe_lc (own := [("_law_one", 9)]) (g := gName 9) (tt := tYes) rfl scWs.nd (pi_list (pv 4)) (blkOk_by (N := nWs) (own := [("_law_one", 9)]) (sc := defScope (top 76)) (by decide +kernel)) (fun _ _ _ _ _ => pg_name (i := 9) scWs.nd rfl (Or.inl rfl)) (fun _ _ _ _ _ => pts_nil)
              (fun _ _ _ _ _ => pe_cal Lr r1 (by rfl) (pa_cons (pv 0) (pa_cons (pv 9) pa_nil)))) pa_nil))))) (pss_one (ps_ret pe_bl)) pss_nil)
      (pss_one (ps_ret (pe_and (pe_callB (cr_all rfl) (by rfl) B.all (by decide +kernel) (pa_cons
            (pe_lc (own := [("_law_row", 10)]) (g := gName 10) (tt := tYes) rfl scWs.nd (pi_list (pv 8)) (blkOk_by (N := nWs) (own := [("_law_row", 10)]) (sc := defScope (top 76)) (by decide +kernel)) (fun _ _ _ _ _ => pg_name (i := 10) scWs.nd rfl (Or.inl rfl)) (fun _ _ _ _ _ => pts_nil)
              (fun _ _ _ _ _ => pe_meth (E := E0) (pl := _) (pv 2) Go.cl Go.mB Be.1 r2 Be.2 .nil passL (pa_cons (pv 10) pa_nil))) pa_nil))
          (pe_one (pe_cal Lk r4 (by rfl) (pa_cons (pe_cal Fi r4 (by rfl) (pa_cons (pv 7) (pa_cons (pv 2) pa_nil))) (pa_cons pe_bl pa_nil)))))))))))))), ?_⟩
    have l7 := hn.len
    have lss : (srt ns).length = ns.length := srt_len ns
    have hmem : ∀ z ∈ ns, z ∈ srt ns := fun z hz => srt_mem.mpr hz
    have hmem2 : ∀ z ∈ srt ns, z ∈ ns := fun z hz => srt_mem.mp hz
    refine ⟨_, rfl, a, ns, rfl, .inr ha, hn, h1, fun H1 vo s1 ho => ⟨_, rfl, a, _, rfl, .inr (Kb.Same.tup s1 ha), sz (show 2 ≤ 100000 by decide), fun t nt => ⟨t, _, rfl, SqT.of upd_same, rfl, _, _, rfl, _, _, rfl, rfl, ?_⟩⟩⟩
    rw [List.length_map, ← lss]
    have s2 : L2.Same H1 (upd H1 t (.tup [vo, .int ((srt ns).length : Nat)])) := same_new nt
    have s02 := s1.trans s2
    have ho2 := ho.same s2
    generalize upd H1 t (.tup [vo, .int ((srt ns).length : Nat)]) = H2 at s2 s02 ho2 ⊢
    obtain ⟨av, vs, rfl, hav, hp⟩ := hv
    have hvl : vs.length = fs.length := Paired.length hp
    refine seq_var rfl (hav.same s02) fun J Kp hK S => ?_
    refine lcI S (by omega) (fun i acc H' => Paired (VecAt K H' (srt ns)) acc ((fs.take i).map (bor ns))) (fun i acc H4 H5 st hI => Paired.mapP hI fun _ _ z => by
        obtain ⟨b, e, z2⟩ := z
        exact ⟨b, e, st.sqT z2⟩) .nil (fun H' sm => hK H' sm) (fun i y acc H4 hi hR sm hI Y Z hY hZ => ?_) (fun Dl acc H3 hD sm eD hI => ?_)
    · obtain ⟨fv, hg, hvec⟩ := paired_get hp hR
      have s04 := s02.trans sm
      have ha4 := Kb.Same.tup s04 ha
      refine ⟨rfl, _, rfl, _, rfl, _, rfl, a, y, ns, fv, rfl, ha4, hn, hvec.same s04, fun H5 u s5 pr => ⟨a, u, ns, srt ns, fv, rfl, .inr (Kb.Same.tup s5 ha4), hmem, pr, fun H6 s6 => ⟨_, rfl, ?_⟩⟩⟩
      have s46 := s5.trans s6
      have hold : Paired (VecAt K H6 (srt ns)) acc ((fs.take i).map (bor ns)) := Paired.mapP hI fun _ _ z => z.same s46
      refine iteB (fun e => ⟨_, rfl, hY _ H6 s46 ?_⟩) (fun e => ⟨_, rfl, y, srt ns, fv, rfl, by omega, hvec.same (s04.trans s46), fun H7 u2 s7 v7 => hY _ H7 (s46.trans s7) ?_⟩)
      · rw [take_snoc hg, List.map_append]
        refine paired_app hold (.cons ?_ .nil)
        have eb : bor ns fv = fv := if_pos e
        rw [eb]
        exact hvec.same (s04.trans s46)
      · rw [take_snoc hg, List.map_append]
        refine paired_app (Paired.mapP hold fun _ _ z => z.same s7) (.cons ?_ .nil)
        have eb : bor ns fv = fun z => -(fv z) := if_neg (by rw [e]; exact Bool.false_ne_true)
        rw [eb]
        exact v7
    rw [hvl, List.take_length] at hI
    have s03 := s02.trans sm
    have ha3 := Kb.Same.tup s03 ha
    have hv3 : VecsAt K H3 (srt ns) (.ref av) fs := VecsAt.same ⟨av, vs, rfl, hav, hp⟩ s03
    have ho3 := ho2.same sm
    have hb3 : VecsAt K H3 (srt ns) (.ref Dl) (fs.map (bor ns)) := ⟨Dl, acc, rfl, .inl (SqL.of eD), hI⟩
    have hbl : (fs.map (bor ns)).length ≤ 12 := by rw [List.length_map]; exact hfl
    have hbf : ∀ f ∈ fs.map (bor ns), Okf (srt ns) f := fun f hf => by
      obtain ⟨g, hg, rfl⟩ := List.mem_map.mp hf
      exact bor_ok (hfs g hg)
    refine ⟨_, rfl, _, rfl, vo, .ref Dl, ns, rfl, ho3, hn, h1, .inr ⟨fs.map (bor ns), hb3, hbl, hbf, fun H4 t1 s4 e4 => ?_⟩⟩
    refine ⟨_, rfl, _, rfl, a, .ref av, ns, fs, rfl, Kb.Same.tup s4 ha3, hn, h1, hv3.same s4, hfl, hfs, fun H5 t2 s5 e5 => ⟨_, _, rfl, ?_⟩⟩
    rw [wts_bor] at e4
    have e45 := s5 _ _ e4
    have s35 := s4.trans s5
    -- like
    refine ⟨_, rfl, _, rfl, _, rfl, vo, .ref av, ns, rfl, ho3.same s35, hn, h1, .inr ⟨fs, hv3.same s35, hfl, hfs, fun H6 t3 s6 e6 => ?_⟩⟩
    have s36 := s35.trans s6
    refine ⟨_, rfl, Dl, _, rfl, .inl ⟨SqL.of (s36 _ _ eD), fun tb ntb => ?_⟩⟩
    have s7 : L2.Same H6 (upd H6 tb (.tup acc)) := same_new ntb
    have s37 := s36.trans s7
    refine ⟨_, rfl, rfl, vo, .ref tb, ns, rfl, ho3.same s37, hn, h1, .inr ⟨fs.map (bor ns), ⟨tb, acc, rfl, .inr (SqT.of upd_same), Paired.mapP hI fun _ _ z => z.same s37⟩, hbl, hbf, fun H8 t4 s8 e8 => ?_⟩⟩
    rw [wts_bor] at e8
    refine ⟨sz (show 3 ≤ 100000 by decide), fun l1 nl1 => ⟨_, rfl, _, rfl, _, rfl, sz (show 3 ≤ 100000 by decide), fun l2 nl2 => ?_⟩⟩
    have s9 : L2.Same H8 (upd H8 l1 (.lst [.ref t1, .ref t3, .ref t4])) := same_new nl1
    have s10 := s9.trans (same_new (o := .lst [.ref t2, .ref t2, .ref t2]) nl2)
    have s310 := (s37.trans s8).trans s10
    have wl : ((wts ns fs)).length ≤ 1000 := by unfold wts; rw [List.length_map]; omega
    have dp : ∀ (H' : Hp) (tt : Addr), H' tt = some (.tup ((wts ns fs).map V.int)) → Dp K H' (.ref tt) (.tuple ((wts ns fs).map PyData.int)) := fun H' tt e => .tup (SqT.of e) (dp_ints _)
    refine ⟨⟨.ref l1, .ref l2, .list [.tuple ((wts ns fs).map PyData.int), .tuple ((wts ns fs).map PyData.int), .tuple ((wts ns fs).map PyData.int)], rfl,
      .lst (SqL.of ((same_new nl2) _ _ upd_same)) (.cons (dp _ _ (s10 _ _ (s8 _ _ (s7 _ _ (s6 _ _ e45))))) (.cons (dp _ _ (s10 _ _ (s8 _ _ (s7 _ _ e6)))) (.cons (dp _ _ (s10 _ _ e8)) .nil))),
      .lst (SqL.of upd_same) (.cons (dp _ _ (s10 _ _ (s8 _ _ (s7 _ _ (s6 _ _ e5))))) (.cons (dp _ _ (s10 _ _ (s8 _ _ (s7 _ _ (s6 _ _ e5))))) (.cons (dp _ _ (s10 _ _ (s8 _ _ (s7 _ _ (s6 _ _ e5))))) .nil))), ⟨show 3 ≤ 1000 by decide, fun d hd => ?_⟩⟩, fun H11 s11 => ⟨_, rfl, iteF ?_⟩⟩
    · have ed : d = .tuple ((wts ns fs).map PyData.int) := by
        simp only [List.mem_cons, List.not_mem_nil, or_false] at hd
        rcases hd with h | h | h <;> exact h
      rw [ed]
      exact ok_ints _ wl 1
    have s311 := s310.trans s11
    have e1B : H11 t1 = some (.tup (((srt ns).map (wt (mgf (fs.map (bor ns))) ns)).map V.int)) := by
      have q9 := s11 _ _ (s10 _ _ (s8 _ _ (s7 _ _ (s6 _ _ e45))))
      rw [q9, mgf_bor]
      rfl
    have hbe := bears_bor hn hfs
    refine ⟨_, rfl, _, rfl, _, rfl, ⟨.ref Dl, t1, srt ns, wt (mgf (fs.map (bor ns))) ns, fs.map (bor ns), rfl, hb3.same s311, hbl, hbf, by omega, SqT.of e1B, hbe⟩, fun H12 s12 => ⟨_, rfl, iteF ?_⟩⟩
    have s312 := s311.trans s12
    refine ⟨_, rfl, _, rfl, _, rfl, rfl, rfl, ⟨.ref Dl, t1, srt ns, wt (mgf (fs.map (bor ns))) ns, fs.map (bor ns), rfl, hb3.same s312, hbl, hbf, ⟨by omega, by omega⟩, SqT.of (s12 _ _ e1B), hbe⟩, fun H13 s13 => ?_⟩
    refine ⟨⟨.bl true, .bl true, .bool true, rfl, .bl true, .bl true, True.intro⟩, fun H14 s14 => ⟨_, rfl, iteF ?_⟩⟩
    have s314 := (s312.trans s13).trans s14
    -- the book
    refine ⟨_, rfl, a, _, rfl, .inr (Kb.Same.tup s314 ha3), fun l3 nl3 => ⟨l3, _, rfl, SqL.of upd_same, fun l4 nl4 => ?_⟩⟩
    have s15 : L2.Same H14 (upd H14 l3 (.lst (ns.map V.str))) := same_new nl3
    have s16 := s15.trans (same_new (o := .lst (ns.map V.str).reverse) nl4)
    have s316 := s314.trans s16
    have erev : (ns.map V.str).reverse = ns.reverse.map V.str := List.map_reverse.symm
    refine ⟨_, rfl, l4, .ref Dl, ns.reverse, fs.map (bor ns), rfl, .inl (SqL.of (by rw [upd_same, erev])), rev_ns hn, by rw [List.length_reverse]; exact h1, by rw [srt_rev]; exact hb3.same s316, hbl, by rw [srt_rev]; exact hbf, fun H17 vt rvs s17 hlen bk rows => ?_⟩
    rw [srt_rev] at bk rows
    have s317 := s316.trans s17
    have bk0 := bk
    obtain ⟨b, dxb, fl, rr, dd, rfl, g1, g2, g3, g4, g5, g6, g7, g8⟩ := bk
    refine ⟨_, rfl, b, dxb, fl, rfl, g1, g4, ?_⟩
    refine ⟨.ref b, srt ns, mkd 0 rvs, rfl, bk0, fun H18 p ts s18 np hne hpl hts => ⟨p, rfl, ⟨_, SqL.of hpl⟩, ?_⟩⟩
    have tl : ts.length = rvs.length := by rw [Paired.length hts, mkd_len]
    have rl : rvs.length ≤ 12 := by rw [hlen]; exact hbl
    refine lcV (srcL p (ts.map V.ref)) (by rw [List.length_map]; omega) rvs (by rw [List.length_map, tl]) (fun H' sm => SqL.of (sm _ _ hpl)) (fun i y z H19 hi hR hz sm Y hY => ?_) (fun D8 H19 hD8 s19 eD8 => ?_)
    · obtain ⟨t', ht', rfl⟩ := map_at hR
      obtain ⟨e, he, hte⟩ := paired_get hts ht'
      have hz2 : z = e.2 := by
        have q9 : ((mkd 0 rvs).map (·.2))[i]? = some e.2 := by rw [List.getElem?_map, he]; rfl
        rw [mkd_snd, hz] at q9
        exact Option.some.inj q9
      subst hz2
      exact ⟨rfl, _, rfl, t', _, 1, _, rfl, rfl, SqT.of (sm _ _ hte), rfl, hY _ (L2.Same.refl _)⟩
    have s1719 := s18.trans s19
    have s319 := s317.trans s1719
    have rows19 := RowsAt.same rows s1719
    -- the rows
    refine ⟨_, rfl, D8, rfl, ⟨_, SqL.of eD8⟩, ?_⟩
    have hrl : (rowsOf (srt ns) (fs.map (bor ns))).length = rvs.length := by unfold rowsOf; rw [List.length_map, hlen]
    refine lcI (srcL D8 rvs) (by omega) (fun i acc H' => Paired (fun v (p : List Str × List Str) => PairRow K H' v p.1 p.2) acc ((rowsOf (srt ns) (fs.map (bor ns))).take i)) (fun i acc H4 H5 st hI => Paired.mapP hI fun _ _ z => z.sameT st) .nil (fun H' sm => SqL.of (sm _ _ eD8)) (fun i y acc H20 hi hR sm hI Y Z hY hZ => ?_) (fun D9 acc9 H20 hD9 s20 eD9 hI9 => ?_)
    · obtain ⟨pc, hpc, hrow⟩ := paired_get rows19 hR
      obtain ⟨r, dx, fr, pp, pcn, pn, rfl, k1, k2, k3, k4, k5, k6, k7⟩ := RowAt.same hrow sm
      refine ⟨rfl, _, rfl, r, Cr, dx, fr, _, rfl, k1, R.cl, R.n1, k2, _, rfl, r, Cr, dx, fr, _, rfl, k1, R.cl, R.n2, k3, sz (show 2 ≤ 100000 by decide), fun t9 nt9 => hY _ _ (same_new nt9) ?_⟩
      rw [take_snoc hpc]
      exact paired_app (Paired.mapP hI fun _ _ z => z.sameT (SameT.of (same_new nt9))) (.cons ⟨t9, pp, pcn, rfl, upd_same, Kb.Same.tup (same_new nt9) k5, Kb.Same.tup (same_new nt9) k6⟩ .nil)
    have hI9' : Paired (fun v (p : List Str × List Str) => PairRow K H20 v p.1 p.2) acc9 (rowsOf (srt ns) (fs.map (bor ns))) := by
      rw [← hrl, List.take_length] at hI9
      exact hI9
    have s320 := s319.trans s20
    refine ⟨_, rfl, Dl, rfl, ⟨_, SqL.of (s320 _ _ eD)⟩, ?_⟩
    have hal : acc.length = (fs.map (bor ns)).length := Paired.length hI
    refine lcI (srcL Dl acc) (by omega) (fun i acc H' => Paired (fun v (p : List Str × List Str) => PairRow K H' v p.1 p.2) acc ((rowsOf (srt ns) (fs.map (bor ns))).take i)) (fun i acc H4 H5 st hI => Paired.mapP hI fun _ _ z => z.sameT st) .nil (fun H' sm => SqL.of (sm _ _ (s320 _ _ eD))) (fun i y acc2 H21 hi hR sm hI2 Y Z hY hZ => ?_) (fun D10 acc10 H21 hD10 s21 eD10 hI10 => ?_)
    · obtain ⟨fv, hg, hvec⟩ := paired_get hI hR
      have s321 := s320.trans sm
      have hrg : (rowsOf (srt ns) (fs.map (bor ns)))[i]? = some (posN (srt ns) fv, negN (srt ns) fv) := by
        unfold rowsOf
        rw [List.getElem?_map, hg]
        rfl
      refine ⟨rfl, _, rfl, _, rfl, a, y, ns, fv, rfl, Kb.Same.tup s321 ha3, hn, hvec.same s321, fun H22 u s22 pr => hY _ H22 s22 ?_⟩
      rw [take_snoc hrg]
      exact paired_app (Paired.mapP hI2 fun _ _ z => z.sameT (SameT.of s22)) (.cons pr .nil)
    have hI10' : Paired (fun v (p : List Str × List Str) => PairRow K H21 v p.1 p.2) acc10 (rowsOf (srt ns) (fs.map (bor ns))) := by
      have e9 : acc.length = (rowsOf (srt ns) (fs.map (bor ns))).length := by rw [hal, hrl, hlen]
      rw [e9, List.take_length] at hI10
      exact hI10
    refine ⟨⟨.ref D9, .ref D10, .list ((rowsOf (srt ns) (fs.map (bor ns))).map rowD), rfl, .lst (SqL.of (s21 _ _ eD9)) (rows_dp (Paired.mapP hI9' fun _ _ z => z.sameT (SameT.of s21))), .lst (SqL.of eD10) (rows_dp hI10'), ok_rows hbl (by omega)⟩, fun H22 s22 => ⟨_, rfl, iteF ?_⟩⟩
    -- bears, fits
    have s2022 := s21.trans s22
    have s322 := s320.trans s2022
    have eD8b := s2022 _ _ (s20 _ _ eD8)
    have rows22 := RowsAt.same rows19 (s20.trans s2022)
    have ho22 := ho3.same s322
    have hbrs : ∀ p ∈ rowsOf (srt ns) (fs.map (bor ns)), bear ns p.1 p.2 = true := fun p hp2 => by
      obtain ⟨f, hf, rfl⟩ := List.mem_map.mp hp2
      obtain ⟨g, hg, rfl⟩ := List.mem_map.mp hf
      rw [bear_brs hmem]
      exact bor_brs
    have hrin : ∀ p ∈ rowsOf (srt ns) (fs.map (bor ns)), ∀ z, z ∈ p.1 ++ p.2 → z ∈ ns := fun p hp2 z hz => hmem2 z (rows_in p hp2 z hz)
    refine ⟨_, rfl, D8, rfl, ⟨_, SqL.of eD8b⟩, ?_⟩
    refine lcV (srcL D8 rvs) (by omega) ((List.replicate rvs.length true).map V.bl) (by simp) (fun H' sm => SqL.of (sm _ _ eD8b)) (fun i y z H23 hi hR hz sm Y hY => ?_) (fun D11 H23 hD11 s23 eD11 => ?_)
    · obtain ⟨kb, hkb, rfl⟩ := map_at hz
      have eb := rep_at hkb
      subst eb
      obtain ⟨pc, hpc, hrow⟩ := paired_get rows22 hR
      have hpm := List.mem_of_getElem? hpc
      have ho23 := ho22.same sm
      obtain ⟨o, dxo, fo, ko, po, ro, eo, j1, j2, j3, j4, j5, j6, j7, j8, j9, j10⟩ := ho23
      refine ⟨rfl, _, rfl, o, dxo, fo, eo, j1, j7, _, rfl, vo, y, ns, pc.1, pc.2, rfl, ho22.same sm, RowAt.same hrow sm, hrin pc hpm, fun H24 s24 => ?_⟩
      rw [hbrs pc hpm]
      exact hY H24 s24
    refine ⟨D11, List.replicate rvs.length true, rfl, SqL.of eD11, true, ?_, iteT ?_⟩
    · rw [all_rep]
    have s1723 := (s1719.trans (s20.trans s2022)).trans s23
    refine ⟨_, rfl, _, rfl, ⟨.ref b, vo, ns, mkd 0 rvs, _, rfl, bk0.same s1723, ho22.same s23, by rw [mkd_snd]; exact RowsAt.same rows22 s23, hrin, hbrs, by rw [mkd_len]; omega, hn⟩, fun H25 s25 => ?_⟩
    exact ⟨⟨.bl true, .bl true, .bool true, rfl, .bl true, .bl true, True.intro⟩, fun H26 s26 => q H26 (((s03.trans s322).trans s23).trans (s25.trans s26))⟩
end
end Kb
/-! try: .. except (A, B, C) as e: the suite calls a def with the exception. -/
namespace Kb
open PySem PySem.Spec PyProof.Rows L2
theorem flying_push {B h : Heap} {l : List Env} {e : Addr} {Z : Obj → Prop} (x : HandSPX.FlyingZ B l e Z h) (o : Obj) : HandSPX.FlyingZ B l e Z (h.push o) := by
  obtain ⟨k1, k2, k3, oe, vs, T, oT, ts, he, hz, hd, h1, hn, hTe, hT, hdT, h3⟩ := x
  exact ⟨fun b u hb => Heap.get?_push_of_some _ (k1 b u hb), k2, Heap.FunFrames.of_keeps (fun b u e _ => ⟨u, Heap.get?_push_of_some _ e, rfl⟩) k3, oe, vs, T, oT, ts, Heap.get?_push_of_some _ he, hz, hd, h1, hn, hTe, Heap.get?_push_of_some _ hT, hdT, h3⟩
/-- what the clause wishes of an exception of the body -/
def wAs3 (K : PySem.W.Frag) (cs : List Value) (l i : Nat) (ts : Addr → Value → Option Addr → TS) (D : Ends) : WX := fun cls d σ H =>
  PySem.W.exmAny K cls cs = some true ∧ ∀ a, H a = none → σ.length = l → ts a cls d { nx := fun σ' H' => D.nx (σ'.set i none) H', rt := D.rt, bk := fun σ' H' => D.bk (σ'.set i none) H', ct := fun σ' H' => D.ct (σ'.set i none) H' } (σ.set i (some (.ref a))) H
section
variable {X : Cx} {x1 x2 x3 n : Str} {c1 c2 c3 : Value} {i kk : Nat} {body suite : List Stmt} {b₀ : Stmt} {np1 np2 np3 tp pos pos' : Pos} {tb : WX → TS} {ts : Addr → Value → Option Addr → TS}
theorem ps_try3 (hs : X.stack = X.env :: X.outer) (hf : X.env.frame = some X.env.locals) (hN : X.N.Nodup) (hi : X.N[i]? = some n) (hln : X.env.kindOf n = some .local)
    (g1 : Gl X x1) (g2 : Gl X x2) (g3 : Gl X x3) (m1 : X.mg x1 = some c1) (m2 : X.mg x2 = some c2) (m3 : X.mg x3 = some c3)
    (d1 : (x1 == ("__debug__" : Str)) = false) (d2 : (x2 == ("__debug__" : Str)) = false) (d3 : (x3 == ("__debug__" : Str)) = false)
    (hb : ∀ (W : WX) (pn : List (Addr × Obj)) (xe : Value → Shared → Prop), Takes (X.tr pn xe) W → PassesOwn (model X.prog X.w) X.A X.env xe → PSs (X.tr pn xe) body (tb W))
    (hsu : ∀ (a : Addr) (oe : Obj) (cls : Value) (d : Option Addr) (pn : List (Addr × Obj)), L2.Zc cls d oe → (∃ vs, oe.data = .fields vs) → PSs (X.suite a ((a, oe) :: pn)) (b₀ :: suite) (ts a cls d)) :
    PS X (.Try body [.ExceptHandler (some (.Tuple [.Name x1 np1, .Name x2 np2, .Name x3 np3] kk tp)) (some n) (b₀ :: suite) pos'] [] [] pos) (fun D σ H => tb (wAs3 X.K [c1, c2, c3] X.N.length i ts D) D σ H) := by
  refine ⟨fun pins s σ H D I h => ?_⟩
  have ok := I.ok
  have hfr : X.A.frames = some (X.env :: X.outer) := by rw [ok.frames, hs]
  have hloc : Loc X.env.scope n := .inl hln
  refine wpAny_Try_except ?_
  refine wpAny_mono ((hb (wAs3 X.K [c1, c2, c3] X.N.length i ts D) (X.pn ++ pins) (fun e s₁ => wpAny (model X.prog X.w) X.A (noteFrame e X.env) (fun _ s₂ => wpAny (model X.prog X.w) X.A (setFlight e none) (fun _ s₃ =>
    wpAny (model X.prog X.w) X.A (handleBy e X.env [.ExceptHandler (some (.Tuple [.Name x1 np1, .Name x2 np2, .Name x3 np3] kk tp)) (some n) (b₀ :: suite) pos']) (SP X pins D) X.xe s₃) X.xe s₂) X.xe s₁) (fun u s' xx => ?_) PassesOwn.looking).run [] s σ H D (I.toTry _) h) (fun f s1 hsp => ?_) (fun e s1 he => he)
  · -- the catch
    obtain ⟨a, B, sI, pins', σ', H', cls, d, rfl, J', nb, up, sky, na, os, ag, hb1, hyes⟩ := xx
    have J : Inv X pins σ' H' sI := J'.ofTry ok
    have sky' : Sky B (X.env :: X.outer) a (L2.Zc cls d) X.env.locals s'.heap := by rw [← hs]; exact sky
    show wpAny (model X.prog X.w) X.A (noteFrame (.ref a) X.env) _ _ _
    refine Sky.land L2.Zc.steady hfr hf sky' fun h3 fl3 up3 => ?_
    have J3 : Inv X pins σ' H' { s' with heap := h3 } := J.landed nb fl3.1 (up.trans up3) os ag
    obtain ⟨oe3, vs3, he3, hz3, hd3⟩ := fl3.there
    have notFr : ∀ {h : Heap} {o : Obj} {vs : Array Value}, h.FunFrames B (X.env :: X.outer) → h.get? a = some o → o.data = .fields vs → a ∉ frs (X.env :: X.outer) := fun {h o vs} ff e dd hm => by
      obtain ⟨_, o', e', hnf⟩ := ff.mem hm
      rw [e] at e'; cases e'
      exact hnf _ dd
    have nfr := notFr fl3.2.2.1 he3 hd3
    have nL : a ≠ X.env.locals := fun z => nfr (List.mem_filterMap.mpr ⟨X.env, List.mem_cons_self, by rw [hf, z]⟩)
    have nF : a ∉ X.fs := fun hm => by
      obtain ⟨e, he, q⟩ := List.mem_filterMap.mp hm
      exact nfr (List.mem_filterMap.mpr ⟨e, List.mem_cons_of_mem _ he, q⟩)
    have S3 := J3.suite he3 hd3 na nL nF
    refine wpAny_handleBy_cons (codeAny_handlers_test ?_) (by intro q; cases q)
    refine Tuple_ (spliced_more (ld_glob (X := X.suite a ((a, oe3) :: (X.pn ++ pins))) S3 g1 m1 (spliced_more (ld_glob (X := X.suite a ((a, oe3) :: (X.pn ++ pins))) S3 g2 m2 (spliced_more (ld_glob (X := X.suite a ((a, oe3) :: (X.pn ++ pins))) S3 g3 m3 (spliced_none ?_) d3)) d2)) d1))
    refine wpAny_newObj_type ?_
    have fl4 := flying_push fl3 { cls := .type "tuple", dict := none, data := .seq [c1, c2, c3].toArray }
    have up4 : h3.UpToSlots (h3.push { cls := .type "tuple", dict := none, data := .seq [c1, c2, c3].toArray }) := Heap.UpToSlots.of_keeps fun b o e => Heap.get?_push_of_some _ e
    have LT : PySem.W.Looks (model X.prog X.w) (h3.push { cls := .type "tuple", dict := none, data := .seq [c1, c2, c3].toArray }) (typeOf (.ref a)) cls := fun A Q E s k q => wpAny_typeOf_ref (k _ _ (Heap.get?_push_of_some _ he3)) (by rw [hz3.1]; exact q)
    have J4 : Inv X pins σ' H' { s' with heap := h3.push { cls := .type "tuple", dict := none, data := .seq [c1, c2, c3].toArray } } := J.landed nb fl4.1 ((up.trans up3).trans up4) os ag
    have LM := PySem.W.exm_tup3 (M := model X.prog X.w) (e := a) (tp := h3.objs.size) (J4.kIn) LT (Heap.get?_push_size _ rfl) hb1
    refine LM.here ?_
    refine codeAny_handlers_suite_as ?_
    refine HandSPX.lands_againZ fl4 fun h5 fl5 up5 => ?_
    have J5 : Inv X pins σ' H' { s' with heap := h5 } := J.landed nb fl5.1 (((up.trans up3).trans up4).trans up5) os ag
    obtain ⟨oe4, vs4, he4, hz4, hd4⟩ := fl5.there
    have S4 := J5.suite he4 hd4 na nL nF
    refine store_ok (X := X.suite a ((a, oe4) :: (X.pn ++ pins))) (v := .ref a) S4 hN hi hloc rfl (fun s5 S5 => ?_) (.inr hln)
    refine wpAny_mono ((hsu a oe4 cls d (X.pn ++ pins) hz4 ⟨_, hd4⟩).run [] s5 _ H' _ S5 (hyes a na J5.len)) (fun f s6 hsp => ?_) (fun _ _ z => False.elim z)
    have end_ : ∀ {σ6 : L2.St} {H6 : Hp} {Q : Shared → Prop}, Inv (X.suite a ((a, oe4) :: (X.pn ++ pins))) [] σ6 H6 s6 → (∀ s7, Inv X pins (σ6.set i none) H6 s7 → Q s7) →
        wpAny (model X.prog X.w) X.A (do bindName X.env n .none; unbindBehindTheSuite X.env n pos') (fun _ s7 => Q s7) X.xe s6 := fun {σ6 H6 Q} S6 hq => gone_ok (S6.unsuite ok) hN hi hln hq
    cases f with
    | next =>
      obtain ⟨σ6, H6, S6, q6⟩ := hsp
      exact end_ S6 fun s7 J7 => ⟨_, _, J7, q6⟩
    | brk =>
      obtain ⟨σ6, H6, S6, q6⟩ := hsp
      exact end_ S6 fun s7 J7 => ⟨_, _, J7, q6⟩
    | cont =>
      obtain ⟨σ6, H6, S6, q6⟩ := hsp
      exact end_ S6 fun s7 J7 => ⟨_, _, J7, q6⟩
    | ret u =>
      obtain ⟨v6, σ6, H6, S6, r6, q6⟩ := hsp
      exact end_ S6 fun s7 J7 => ⟨_, _, _, J7, r6, q6⟩
  · cases f with
    | next =>
      obtain ⟨σ', H', J', q⟩ := hsp
      exact wpAny_execs_nil ⟨σ', H', J'.ofTry ok, q⟩
    | brk =>
      obtain ⟨σ', H', J', q⟩ := hsp
      exact ⟨σ', H', J'.ofTry ok, q⟩
    | cont =>
      obtain ⟨σ', H', J', q⟩ := hsp
      exact ⟨σ', H', J'.ofTry ok, q⟩
    | ret u =>
      obtain ⟨v, σ', H', J', r, q⟩ := hsp
      exact ⟨v, σ', H', J'.ofTry ok, r, q⟩
end
end Kb
/-! _law_field (called in an except suite with the exception). -/
namespace Kb
open PySem PySem.Spec PyProof.Rows L2 L2H
/-- what a def promises that is called in an except suite with the exception -/
def FnP (P : Program) (w : World) (K : PySem.W.Frag) (mg : Str → Option Value) (base : Heap) (CX : CXT) (k : Nat) (f : Addr) (fd : FuncData) (ps : List Str) (sp : Addr × Obj → Sp) : Prop :=
  ∀ (A : Around) (outer : List Env) (s : Shared) (H : Hp) (args : Args) (us : List Value) (vs : List V) (Q : VK) (E : XK) (p : Addr × Obj), RoomH k A → PinOk outer H s p → Env0 P w K mg base A outer s H → BindsTo s fd args (ps.zip us) → Vals vs us → vs.length = ps.length → sp p vs H Q E →
    codeAny (model P w) A (.call (.ref f) args) (CR CX outer P w H s Q E) s
theorem fnP_of {CX : CXT} {P : Program} {w : World} {K : PySem.W.Frag} {mg : Str → Option Value} {base : Heap} {k : Nat} {f : Addr} {x qual : Str} {params : Arguments} {body : List Stmt} {scope : Scope} {fd : FuncData} {N ps : List Str} {sp : Addr × Obj → Sp}
    (F : FunD K x qual params body scope [] [] f fd) (S : FnScope N ps scope)
    (hbody : ∀ (cdv : Value) (A : Around) (outer : List Env) (s : Shared) (H : Hp) (vs : List V) (Q : VK) (E : XK) (p : Addr × Obj), RoomH k (A.deeper (envOfC qual scope s.heap.objs.size f cdv)) → sp p vs H Q E →
      ∃ t, PSs (cxH CX P w K mg base N qual scope f cdv A outer s H E p).nox body t ∧ t { nx := fun _ H' => Q .non H', rt := Q } (L2.start N vs) H) : FnP P w K mg base CX (k + 1) f fd ps sp := by
  intro A outer s H args us vs Q E p hr hpin e0 hb r hl hsp
  obtain ⟨oc, od, dV, kV, doc, pm, an, cdv, ct, osl, rfl, lk, hcd, _, _⟩ := F.ex
  have KX : K.In s.heap := e0.mod.kin.keeps fun b o e => (e0.bs b o e).1
  have lim : s.heap.NoLimit := e0.mod.nolimit.keeps fun b o e => (e0.bs b o e).1
  have hkind : ∀ y ∈ ps.zip us, scope.names.lookup y.1 = some .local ∨ (scope.names.lookup y.1 = some .cell ∧ ((cellsFrom (s.heap.objs.size + 1) scope.names []).lookup y.1).isSome = true) := fun ⟨n, v⟩ hy => by
    rcases S.par n (List.of_mem_zip hy).1 with q | q
    · exact .inl q
    · exact .inr ⟨q, PySem.W.cellsFrom_some _ _ _ (.inl q)⟩
  refine codeAny_call_function hr.depth (KX _ _ lk) rfl S.co S.gen rfl (PySem.W.codeRec_of KX hcd) (hb _ _ _ _ ?_)
  refine wpAny_newFunctionEnv_cells S.kind hkind fun env he s1 x => ?_
  subst he
  refine ⟨lim.keeps x.toInCall.keep, codeAny_func ?_⟩
  obtain ⟨t, ht', hq⟩ := hbody cdv A outer s H vs Q E p (hr.deeper _) hsp
  have ht := ht'.nox
  have I : Inv (cxH CX P w K mg base N qual scope f cdv A outer s H E p) [] (L2.start N vs) H s1 := inv_startH S hpin e0 hl r x
  refine wpAny_mono (ht.run [] s1 (L2.start N vs) H _ I hq) (fun fl s' hs => ?_) fun e s' hs => hs
  have fin : ∀ {σ' : L2.St} {H' : Hp} {v : V} {u : Value}, Inv (cxH CX P w K mg base N qual scope f cdv A outer s H E p) [] σ' H' s' → RelV v u → Q v H' → CE outer P w H s Q u s' :=
    fun {σ' H' v u} J rv q => ⟨v, H', J.os, J.bare, J.base, J.hok, rv, q⟩
  cases fl with
  | ret u =>
    obtain ⟨v, σ', H', J, rv, q⟩ := hs
    exact fin J rv q
  | next =>
    obtain ⟨σ', H', J, q⟩ := hs
    exact fin (v := V.non) (u := Value.none) J rfl q
  | brk =>
    obtain ⟨_, _, _, q⟩ := hs
    exact False.elim q
  | cont =>
    obtain ⟨_, _, _, q⟩ := hs
    exact False.elim q
/-- x(e) in the suite -/
theorem pe_callP {X : Cx} {CX : CXT} {k : Nat} {f : Addr} {fd : FuncData} {ps : List Str} {sp : Addr × Obj → Sp} {x : Str} {q pos : Pos} {e : Expr} {es : List Expr} {t : TA} {p0 : Addr × Obj} (F : FnP X.prog X.w X.K X.mg X.base CX k f fd ps sp) (hr : RoomH k X.A) (hp0 : p0 ∈ X.pn) (hg : Gl X x) (hm : X.mg x = some (.ref f)) (hk : PySem.W.keepIn X.K (.ref f) = true) (hb : Binds X.K fd ps []) (hx : Passes CX X E0)
    (ha : PA X (e :: es) t) (hdb : (x == ("__debug__" : Str)) = false := by decide) (he : starEach (e :: es) X.env = (false, eval e X.env) :: starEach es X.env := by rfl) (hpl : (backTo pos (starEach es X.env)).any (·.1) = false := by rfl) :
    PE X (.Call (.Name x q) (e :: es) [] pos) (fun σ H Q => t σ H fun vs H1 => vs.length = ps.length ∧ sp p0 vs H1 Q E0) := by
  refine ⟨fun pins s σ H Q I h => ?_⟩
  refine wpAny_Call_Name_kw (ld_glob I hg hm ?_ hdb)
  refine PySem.W.callWith_K (h₀ := X.base) I.ok.mod.kin hk (thn (ha.run pos pins s σ H _ I h) fun us s1 ⟨vs, H1, I1, r, hl, q⟩ => ⟨I1.kIn, ?_⟩) he hpl
  have hlu : us.length = ps.length := by rw [← r.length]; exact hl
  have b := hb s1 us I1.kIn (by rw [List.append_nil]; exact hlu)
  rw [List.append_nil] at b
  have P1 := I1.pin p0 (List.mem_append_left _ hp0)
  have hpin : PinOk X.stack H1 s1 p0 := ⟨P1.1, P1.2.1, fun hm => (List.mem_cons.mp (I1.stkSub p0.1 hm)).elim P1.2.2.1 P1.2.2.2.1, P1.2.2.2.2⟩
  refine wpAny_call (codeAny_mono (F X.A X.stack s1 H1 ⟨us, []⟩ us vs Q E0 p0 hr hpin I1.env0 b r hl q) fun r s' hq => ?_)
  cases r with
  | error e => exact hx pins σ H1 s1 e s' I1 hq
  | ok fl =>
    cases fl with
    | ret u => exact I1.after hq
    | next => exact False.elim hq
    | brk => exact False.elim hq
    | cont => exact False.elim hq
/-- e.f of a pinned exception -/
theorem pe_xfp {X : Cx} {a C : Addr} {oe : Obj} {cls : Value} {d : Option Addr} {e : Expr} {te : TE} {pos : Pos} {n : Str} (hp : (a, oe) ∈ X.pn) (T : XfC X.K C) (hno : PySem.W.findIn X.K (.ref C) n = some none)
    (hz : L2.Zc cls d oe) (hf : ∃ vs, oe.data = .fields vs) (he : PE X e te) (hb : attributeBase e n X.env (eval e X.env) = eval e X.env := by rfl) :
    PE X (.Attribute e n pos) (tXf a cls d C n te) := by
  refine ⟨fun pins s σ H Q I h => ?_⟩
  refine attr_of hb (thn (he.run pins s σ H _ I h) fun u s1 hh => ?_)
  obtain ⟨x, H1, I1, rx, ex, ec, dd, fs, v, ed, ea, l, q⟩ := hh
  subst ex
  obtain rfl : u = Value.ref a := rx
  subst ec
  subst ed
  obtain ⟨ha, _⟩ := I1.pin (a, oe) (List.mem_append_left _ hp)
  obtain ⟨vs, hd⟩ := hf
  have hx : ObjOk X.prog X.w H1 s1.heap dd (.xd fs) := I1.hok dd _ ea
  obtain ⟨mA, hns, hr⟩ := hx
  obtain ⟨od, ho, hl⟩ := lookIn_ns hns
  obtain ⟨u, hu, ru⟩ := RelO.some_of (v := v) (o := mA n) (by rw [← l]; exact hr n)
  have J : PySem.W.InstAt s1.heap a oe C (some od) := ⟨ha, hz.1, by unfold PySem.W.notCls; rw [hd] <;> rfl, by rw [hz.2]; exact ho⟩
  exact HandSPX.exc_get I1.kIn J T.ga T.gg T.exC (PySem.W.findObj_own T.hdC hno rfl (by rw [hl, hu])) (handed_of ru) ⟨v, H1, I1.tok _, ru, q⟩
/-- an error as the suite finds it: its class C, its dict dd, its text x, its field f with y -/
structure Told (K : PySem.W.Frag) (C dd : Addr) (oe : Obj) (x f : Str) (H : Hp) (y : V) : Prop where
  z : L2.Zc (.ref C) (some dd) oe
  d : ∃ vs, oe.data = .fields vs
  at_ : H dd = some (.xd [(f, y), ("code", .str x)])
  T : XfC K C
  nc : PySem.W.findIn K (.ref C) "code" = some none
  nf : PySem.W.findIn K (.ref C) f = some none
def spFd (K : PySem.W.Frag) : Addr × Obj → Sp := fun p vs H Q _ => vs = [.ref p.1] ∧ ∃ (C dd : Addr) (x f : Str) (y : V), Told K C dd p.2 x f H y ∧ ((x = "InvalidVector" ∧ f = "at") ∨ (x = "TooMany" ∧ f = "most")) ∧ ∀ r H1, L2.Same H H1 → H1 r = some (.tup [y]) → Q (.ref r) H1
section
variable {P : Program} {w : World} {K : PySem.W.Frag} {mg : Str → Option Value} {base : Heap} {f : Addr} {fd : FuncData}
theorem scFd : FnScope ["_law_e"] ["_law_e"] (defScope (top 61)) := ⟨rfl, rfl, rfl, by decide +kernel, rfl, by decide +kernel, by decide +kernel⟩
theorem in_no {K : PySem.W.Frag} {H : Hp} {tp : Addr} {x : V} {xs : List V} {q : Prop} (h : H tp = some (.tup xs)) (fx : flatV x = true) (fs : xs.all flatV = true) (k : inV x xs = false) {Q : VK} (z : Q (.bl false) H) : rIn K false x (.ref tp) H Q :=
  ⟨tp, xs, rfl, .inr (.inl (.inl h)), fx, fs, by rw [k]; exact z⟩
theorem in_yes {K : PySem.W.Frag} {H : Hp} {tp : Addr} {x : V} {xs : List V} {q : Prop} (h : H tp = some (.tup xs)) (fx : flatV x = true) (fs : xs.all flatV = true) (k : inV x xs = true) {Q : VK} (z : Q (.bl true) H) : rIn K false x (.ref tp) H Q :=
  ⟨tp, xs, rfl, .inr (.inl (.inl h)), fx, fs, by rw [k]; exact z⟩
theorem lk_code {f : Str} {y v : V} (h : (("code" : Str) == f) = false) : [(f, y), (("code" : Str), v)].lookup ("code" : Str) = some v := by
  rw [List.lookup_cons, h]
  simp
theorem c_field (CX : CXT) (D : DefAt K mg "_law_field" (top 61) f fd) : FnP P w K mg base CX 1 f fd ["_law_e"] (spFd K) := by
  refine fnP_of D.fn scFd fun cdv A outer s H vs Q E p hr h => ?_
  obtain ⟨a, oe⟩ := p
  obtain ⟨rfl, C, dd, x, fl, y, ⟨hz, hd, hat, T, nc, nf⟩, hx, q⟩ := h
  have hm : (a, oe) ∈ (cxH CX P w K mg base ["_law_e"] "_law_field" (defScope (top 61)) f cdv A outer s H E (a, oe)).nox.pn := List.mem_cons_self
  have gt : ∀ {H1 : Hp}, L2.Same H H1 → ∀ {Q : VK} {n : Str} {v : V}, [(fl, y), ("code", V.str x)].lookup n = some v → Q v H1 → (V.ref a = V.ref a ∧ Value.ref C = Value.ref C ∧ ∃ (d2 : Addr) (fs : List (Str × V)) (v : V), some dd = some d2 ∧ H1 d2 = some (.xd fs) ∧ fs.lookup n = some v ∧ Q v H1) :=
    fun {H1} s1 {Q n v} l z => ⟨rfl, rfl, dd, _, v, rfl, s1 _ _ hat, l, z⟩
  rcases hx with ⟨rfl, rfl⟩ | ⟨rfl, rfl⟩
  · refine ⟨_, pss_cons (ps_if (pt_cmpR op_in_seq (pe_xfp hm T nc hz hd (pv 0)) (pe_tup (pa_cons pe_str (pa_cons pe_str (pa_cons pe_str pa_nil)))) (by rfl)) pss_never pss_nil)
      (pss_cons (ps_if (pt_cmpR op_in_seq (pe_xfp hm T nc hz hd (pv 0)) (pe_tup (pa_cons pe_str (pa_cons pe_str (pa_cons pe_str (pa_cons pe_str (pa_cons pe_str pa_nil)))))) (by rfl)) (pss_one (ps_ret (pe_tup (pa_cons (pe_xfp hm T nf hz hd (pv 0)) pa_nil)))) pss_nil) pss_never), ?_⟩
    refine ⟨_, rfl, gt (L2.Same.refl _) (n := "code") (v := .str "InvalidVector") (lk_code (f := "at") (by decide +kernel)) ?_⟩
    refine ⟨by decide +kernel, fun t1 n1 => in_no (q := True) upd_same rfl rfl (by decide +kernel) ⟨false, rfl, iteF ?_⟩⟩
    have s1 := same_new (o := .tup [.str "InvalidName", .str "InvalidNumber", .str "InvalidGroup"]) n1
    refine ⟨_, rfl, gt s1 (n := "code") (v := .str "InvalidVector") (lk_code (f := "at") (by decide +kernel)) ?_⟩
    refine ⟨by decide +kernel, fun t2 n2 => in_yes (q := True) upd_same rfl rfl (by decide +kernel) ⟨true, rfl, iteT ?_⟩⟩
    have s2 := s1.trans (same_new (o := .tup [.str "InvalidRecord", .str "InvalidSheet", .str "InvalidWeights", .str "InvalidVector", .str "InvalidDeed"]) n2)
    refine ⟨_, rfl, gt s2 (n := "at") (v := y) (by simp) ?_⟩
    exact ⟨show 1 ≤ sizeLine by decide +kernel, fun t3 n3 => q t3 _ (s2.trans (same_new n3)) upd_same⟩
  · refine ⟨_, pss_cons (ps_if (pt_cmpR op_in_seq (pe_xfp hm T nc hz hd (pv 0)) (pe_tup (pa_cons pe_str (pa_cons pe_str (pa_cons pe_str pa_nil)))) (by rfl)) pss_never pss_nil)
      (pss_cons (ps_if (pt_cmpR op_in_seq (pe_xfp hm T nc hz hd (pv 0)) (pe_tup (pa_cons pe_str (pa_cons pe_str (pa_cons pe_str (pa_cons pe_str (pa_cons pe_str pa_nil)))))) (by rfl)) pss_never pss_nil)
      (pss_cons (ps_if (pt_cmpR op_in_seq (pe_xfp hm T nc hz hd (pv 0)) (pe_tup (pa_cons pe_str (pa_cons pe_str (pa_cons pe_str pa_nil)))) (by rfl)) pss_never pss_nil)
      (pss_cons (ps_if (pt_cmpR op_in_seq (pe_xfp hm T nc hz hd (pv 0)) (pe_tup (pa_cons pe_str (pa_cons pe_str pa_nil))) (by rfl)) pss_never pss_nil)
      (pss_cons (ps_if (pt_cmpR op_in_seq (pe_xfp hm T nc hz hd (pv 0)) (pe_tup (pa_cons pe_str pa_nil)) (by rfl)) pss_never pss_nil)
      (pss_cons (ps_if (pt_cmpR op_eq (pe_xfp hm T nc hz hd (pv 0)) pe_str (by rfl)) (pss_one (ps_ret (pe_tup (pa_cons (pe_xfp hm T nf hz hd (pv 0)) pa_nil)))) pss_nil) pss_never))))), ?_⟩
    refine ⟨_, rfl, gt (L2.Same.refl _) (n := "code") (v := .str "TooMany") (lk_code (f := "most") (by decide +kernel)) ?_⟩
    refine ⟨by decide +kernel, fun t1 n1 => in_no (q := True) upd_same rfl rfl (by decide +kernel) ⟨false, rfl, iteF ?_⟩⟩
    have s1 := same_new (o := .tup [.str "InvalidName", .str "InvalidNumber", .str "InvalidGroup"]) n1
    refine ⟨_, rfl, gt s1 (n := "code") (v := .str "TooMany") (lk_code (f := "most") (by decide +kernel)) ?_⟩
    refine ⟨by decide +kernel, fun t2 n2 => in_no (q := True) upd_same rfl rfl (by decide +kernel) ⟨false, rfl, iteF ?_⟩⟩
    have s2 := s1.trans (same_new (o := .tup [.str "InvalidRecord", .str "InvalidSheet", .str "InvalidWeights", .str "InvalidVector", .str "InvalidDeed"]) n2)
    refine ⟨_, rfl, gt s2 (n := "code") (v := .str "TooMany") (lk_code (f := "most") (by decide +kernel)) ?_⟩
    refine ⟨by decide +kernel, fun t3 n3 => in_no (q := True) upd_same rfl rfl (by decide +kernel) ⟨false, rfl, iteF ?_⟩⟩
    have s3 := s2.trans (same_new (o := .tup [.str "DuplicateName", .str "InUse", .str "UnknownName"]) n3)
    refine ⟨_, rfl, gt s3 (n := "code") (v := .str "TooMany") (lk_code (f := "most") (by decide +kernel)) ?_⟩
    refine ⟨by decide +kernel, fun t4 n4 => in_no (q := True) upd_same rfl rfl (by decide +kernel) ⟨false, rfl, iteF ?_⟩⟩
    have s4 := s3.trans (same_new (o := .tup [.str "UnknownMark", .str "Hopeless"]) n4)
    refine ⟨_, rfl, gt s4 (n := "code") (v := .str "TooMany") (lk_code (f := "most") (by decide +kernel)) ?_⟩
    refine ⟨by decide +kernel, fun t5 n5 => in_no (q := True) upd_same rfl rfl (by decide +kernel) ⟨false, rfl, iteF ?_⟩⟩
    have s5 := s4.trans (same_new (o := .tup [.str "UnknownReason"]) n5)
    refine ⟨_, rfl, rfl, rfl, dd, _, _, rfl, s5 _ _ hat, lk_code (f := "most") (by decide +kernel), ?_⟩
    refine ⟨by decide +kernel, true, by decide +kernel, iteT ?_⟩
    refine ⟨_, rfl, gt s5 (n := "most") (v := y) (by simp) ?_⟩
    exact ⟨show 1 ≤ sizeLine by decide +kernel, fun t3 n3 => q t3 _ (s5.trans (same_new n3)) upd_same⟩
end
end Kb
/-! _law_try: what it makes of the lambda that it got. -/
namespace Kb
open PySem PySem.Spec PyProof.Rows L2 L2H
section
variable {X : Cx} {a : Addr} {oe : Obj} {cls : Value} {d : Option Addr} {e : Expr} {te : TE} {pos : Pos} {n : Str}
def tXq (K : PySem.W.Frag) (a : Addr) (cls : Value) (d : Option Addr) (n : Str) (te : TE) : TE := fun σ H Q => te σ H fun x H1 => x = .ref a ∧ ∃ C, cls = .ref C ∧ XfC K C ∧ PySem.W.findIn K (.ref C) n = some none ∧
  ∃ (dd : Addr) (fs : List (Str × V)) (v : V), d = some dd ∧ H1 dd = some (.xd fs) ∧ fs.lookup n = some v ∧ Q v H1
theorem pe_xfq (K0 : PySem.W.Frag) (hK : X.K = K0) (hp : (a, oe) ∈ X.pn) (hz : L2.Zc cls d oe) (hf : ∃ vs, oe.data = .fields vs) (he : PE X e te) (hb : attributeBase e n X.env (eval e X.env) = eval e X.env := by rfl) :
    PE X (.Attribute e n pos) (tXq K0 a cls d n te) := by
  subst hK
  refine ⟨fun pins s σ H Q I h => ?_⟩
  refine attr_of hb (thn (he.run pins s σ H _ I h) fun u s1 hh => ?_)
  obtain ⟨x, H1, I1, rx, ex, C, ec, T, hno, dd, fs, v, ed, ea, l, q⟩ := hh
  subst ex
  obtain rfl : u = Value.ref a := rx
  subst ec
  subst ed
  obtain ⟨ha, _⟩ := I1.pin (a, oe) (List.mem_append_left _ hp)
  obtain ⟨vs, hd⟩ := hf
  have hx : ObjOk X.prog X.w H1 s1.heap dd (.xd fs) := I1.hok dd _ ea
  obtain ⟨mA, hns, hr⟩ := hx
  obtain ⟨od, ho, hl⟩ := lookIn_ns hns
  obtain ⟨u, hu, ru⟩ := RelO.some_of (v := v) (o := mA n) (by rw [← l]; exact hr n)
  have J : PySem.W.InstAt s1.heap a oe C (some od) := ⟨ha, hz.1, by unfold PySem.W.notCls; rw [hd] <;> rfl, by rw [hz.2]; exact ho⟩
  exact HandSPX.exc_get I1.kIn J T.ga T.gg T.exC (PySem.W.findObj_own T.hdC hno rfl (by rw [hl, hu])) (handed_of ru) ⟨v, H1, I1.tok _, ru, q⟩
def tCallQ (sp : Addr × Obj → Sp) (n : Nat) (a : Addr) (cls : Value) (d : Option Addr) (t : TA) : TE := fun σ H Q => t σ H fun vs H1 => vs.length = n ∧ ∀ oe, L2.Zc cls d oe → (∃ us, oe.data = .fields us) → sp (a, oe) vs H1 Q E0
theorem pe_callQ {CX : CXT} {k : Nat} {f : Addr} {fd : FuncData} {ps : List Str} {sp : Addr × Obj → Sp} {x : Str} {q pos : Pos} {e : Expr} {es : List Expr} {t : TA} (F : FnP X.prog X.w X.K X.mg X.base CX k f fd ps sp) (hr : RoomH k X.A) (hp : (a, oe) ∈ X.pn) (hz : L2.Zc cls d oe) (hf : ∃ vs, oe.data = .fields vs)
    (hg : Gl X x) (hm : X.mg x = some (.ref f)) (hk : PySem.W.keepIn X.K (.ref f) = true) (hb : Binds X.K fd ps []) (hx : Passes CX X E0)
    (ha : PA X (e :: es) t) (hdb : (x == ("__debug__" : Str)) = false := by decide) (he : starEach (e :: es) X.env = (false, eval e X.env) :: starEach es X.env := by rfl) (hpl : (backTo pos (starEach es X.env)).any (·.1) = false := by rfl) :
    PE X (.Call (.Name x q) (e :: es) [] pos) (tCallQ sp ps.length a cls d t) := by
  refine ⟨fun pins s σ H Q I h => ?_⟩
  refine wpAny_Call_Name_kw (ld_glob I hg hm ?_ hdb)
  refine PySem.W.callWith_K (h₀ := X.base) I.ok.mod.kin hk (thn (ha.run pos pins s σ H _ I h) fun us s1 ⟨vs, H1, I1, r, hl, q⟩ => ⟨I1.kIn, ?_⟩) he hpl
  have hlu : us.length = ps.length := by rw [← r.length]; exact hl
  have b := hb s1 us I1.kIn (by rw [List.append_nil]; exact hlu)
  rw [List.append_nil] at b
  have P1 := I1.pin (a, oe) (List.mem_append_left _ hp)
  have hpin : PinOk X.stack H1 s1 (a, oe) := ⟨P1.1, P1.2.1, fun hm => (List.mem_cons.mp (I1.stkSub a hm)).elim P1.2.2.1 P1.2.2.2.1, P1.2.2.2.2⟩
  refine wpAny_call (codeAny_mono (F X.A X.stack s1 H1 ⟨us, []⟩ us vs Q E0 (a, oe) hr hpin I1.env0 b r hl (q oe hz hf)) fun r s' hq => ?_)
  cases r with
  | error e => exact hx pins σ H1 s1 e s' I1 hq
  | ok fl =>
    cases fl with
    | ret u => exact I1.after hq
    | next => exact False.elim hq
    | brk => exact False.elim hq
    | cont => exact False.elim hq
end
/-- what _law_try makes of the lambda's reading -/
def TTry (K : PySem.W.Frag) (cs : List Value) : (XK → Hp → VK → Prop) → Hp → VK → Prop := fun tl H Q =>
  tl (fun cls d H' => PySem.W.exmAny K cls cs = some true ∧ ∃ (C dd : Addr) (x f : Str) (y : V), cls = .ref C ∧ d = some dd ∧ H' dd = some (.xd [(f, y), ("code", .str x)]) ∧ XfC K C ∧ PySem.W.findIn K (.ref C) "code" = some none ∧ PySem.W.findIn K (.ref C) f = some none ∧
      ((x = "InvalidVector" ∧ f = "at") ∨ (x = "TooMany" ∧ f = "most")) ∧ ∀ r H2, L2.Same H' H2 → H2 r = some (.tup [.str x, y]) → Q (.ref r) H2)
    H (fun v H1 => [V.str "", v].length ≤ sizeLine ∧ ∀ t, H1 t = none → Q (.ref t) (upd H1 t (.tup [.str "", v])))
theorem scTy : FnScope ["_law_ask", "_law_e"] ["_law_ask"] (defScope (top 62)) := ⟨rfl, rfl, rfl, by decide +kernel, rfl, by decide +kernel, by decide +kernel⟩
theorem roomH_mark {k : Nat} {A : Around} {v : Option Value} (h : RoomH k A) : RoomH k (A.mark v) := ⟨h.dp, h.un⟩
abbrev cxT (X : Cx) (g : Addr) (cdg : Value) (s : Shared) (H : Hp) : Cx := (cxOf C8.CX0 X.prog X.w X.K X.mg X.base ["_law_ask", "_law_e"] "_law_try" (defScope (top 62)) g cdg X.A X.stack s H C8.E0).nox
theorem try_gives {X : Cx} {g fF Cc Cm Cn : Addr} {fdF : FuncData} {cdg : Value} {q : Str} (m1 : X.mg "ChoiceError" = some (.ref Cc)) (m2 : X.mg "Missing" = some (.ref Cm)) (m3 : X.mg "NothingLeft" = some (.ref Cn))
    (F : FnP X.prog X.w X.K X.mg X.base C8.CX0 1 fF fdF ["_law_e"] (spFd X.K)) (mF : X.mg "_law_field" = some (.ref fF)) (kF : PySem.W.keepIn X.K (.ref fF) = true) (bF : Binds X.K fdF ["_law_e"] []) (hr : RoomH 2 X.A) :
    LamX.GivesTo X ["_law_ask", "_law_e"] "_law_try" (defScope (top 62)) g cdg (defBody (top 62)) "_law_ask" q (TTry X.K [.ref Cc, .ref Cm, .ref Cn]) := by
  intro f c' s H Q tl act hc h
  have hr1 : RoomH 1 ((X.A.deeper (envOfC "_law_try" (defScope (top 62)) s.heap.objs.size g cdg))) := hr.deeper _
  refine ⟨_, pss_one (ps_try3 (X := cxT X g cdg s H) (i := 1)
      (tb := fun W D σ H => ∃ Ech : XK, (∀ cls d σ' H', Ech cls d H' → W cls d σ' H') ∧ σ[0]? = some (some (.ref f)) ∧ H c' = some (LamX.CodeO c' q) ∧ tl Ech H fun v H1 => [V.str "", v].length ≤ sizeLine ∧ ∀ t, H1 t = none → D.rt (.ref t) (upd H1 t (.tup [.str "", v])))
      rfl rfl scTy.nd rfl (by rfl) (by rfl) (by rfl) (by rfl) m1 m2 m3 (by decide) (by decide) (by decide) (fun W pn xe tk _ => ?_)
      (fun a oe cls d pn hz hf => pss_one (ps_ret (pe_op (r := rCatT X.K) op_catT (pe_tup (pa_cons (pe_xfq (X := (cxT X g cdg s H).suite a ((a, oe) :: pn)) X.K rfl (List.mem_cons_self) hz hf (pv 1)) pa_nil)) (pe_callQ (X := (cxT X g cdg s H).suite a ((a, oe) :: pn)) F (roomH_mark hr1) (List.mem_cons_self) hz hf (by rfl) mF kF bF C8.pass0 (pa_cons (pv 1) pa_nil)))))), ?_⟩
  · refine ⟨fun pins s' σ H' D I h' => ?_⟩
    obtain ⟨Ech, hW, h1, h2, h3⟩ := h'
    refine PSs.run (t := _) (pss_one (ps_ret (pe_tup (pa_cons pe_str (pa_cons (act W pn xe Ech _ _ tk hW) pa_nil))))) pins s' σ H' D I ?_
    exact ⟨h1, h2, h3⟩
  · refine ⟨_, fun cls d σ' H' hh => ?_, rfl, hc, h⟩
    obtain ⟨e1, C, dd, x, fl, y, rfl, rfl, hat, T, nc, nf, hx, q⟩ := hh
    refine ⟨e1, fun a na hl => ?_⟩
    obtain ⟨v0, v1, rfl⟩ : ∃ v0 v1, σ' = [v0, v1] := match σ', hl with | [v0, v1], _ => ⟨v0, v1, rfl⟩
    have lk : [(fl, y), (("code" : Str), V.str x)].lookup ("code" : Str) = some (V.str x) := lk_code (by rcases hx with ⟨_, rfl⟩ | ⟨_, rfl⟩ <;> decide +kernel)
    refine ⟨_, rfl, rfl, C, rfl, T, nc, dd, _, _, rfl, hat, lk, show 1 ≤ sizeLine by decide +kernel, fun t1 n1 => ?_⟩
    refine ⟨_, rfl, rfl, fun oe hz hd => ⟨rfl, C, dd, x, fl, y, ⟨hz, hd, same_new n1 _ _ hat, T, nc, nf⟩, hx, fun r H1 s1 hr2 => ?_⟩⟩
    refine ⟨t1, r, [.str x], [y], rfl, rfl, .inl (.inl (s1 _ _ upd_same)), .inl (.inl hr2), List.cons_ne_nil _ _, show 2 ≤ sizeLine by decide +kernel, fun z => absurd z (List.cons_ne_nil _ _), fun _ p hp => ?_⟩
    exact q p _ ((same_new n1).trans (s1.trans (same_new hp))) upd_same
end Kb
/-! tuple * k, k from 0 on. -/
namespace Kb
open PySem PySem.Spec PyProof.Rows L2
theorem tuple_mul1 (l : Addr) (items : Array Value) (n : Nat) (dd : Option Addr) (sl : Array (Option Value)) (u : Tok) :
    Meets (Builtin.«tuple.__mul__» ⟨[.ref l, .int 1 u], []⟩) (fun _ R s => s.heap.get? l = some { cls := .type "tuple", dict := dd, data := .seq items n, slots := sl } ∧ R (.ok (.ret (Value.ref l))) s) :=
  .of_wp fun prog w A R s h => by
    obtain ⟨hp, g, d, tk, os⟩ := s
    obtain ⟨hl, h⟩ := h
    have f1 := AutoSeq1.idx_int
    have c1 : (items.isEmpty || (1 : Int) == 1) = true := by simp
    wp_walk using wpAny_loadPart' hl
    repeat (first
      | (refine wpAny_ite_false (decide_eq_false (by decide)) ?_; wp_walk using wpAny_loadPart' hl)
      | (refine wpAny_ite_true (decide_eq_true c1) ?_; wp_walk using wpAny_loadPart' hl))
    exact ⟨_, rfl, h⟩
theorem tuple_mul0 (l : Addr) (items : Array Value) (n : Nat) (dd : Option Addr) (sl : Array (Option Value)) (u : Tok) (c1 : items.isEmpty = false) :
    Meets (Builtin.«tuple.__mul__» ⟨[.ref l, .int 0 u], []⟩) (fun _ R s => s.heap.get? l = some { cls := .type "tuple", dict := dd, data := .seq items n, slots := sl } ∧ R (.ok (.ret (Value.ref s.heap.objs.size))) { s with heap := s.heap.push { cls := Value.type "tuple", data := Data.seq #[] }, toks := s.toks }) :=
  .of_wp fun prog w A R s h => by
    obtain ⟨hp, g, d, tk, os⟩ := s
    obtain ⟨hl, h⟩ := h
    have f1 := AutoSeq1.idx_int
    have c2 : (items.isEmpty || (0 : Int) == 1) = false := by rw [c1]; rfl
    wp_walk using wpAny_loadPart' hl
    repeat (first
      | (refine wpAny_ite_false (decide_eq_false (by rw [c2]; exact Bool.false_ne_true)) ?_; wp_walk using wpAny_loadPart' hl)
      | (refine wpAny_ite_false (decide_eq_false (by decide)) ?_; wp_walk using wpAny_loadPart' hl)
      | (refine wpAny_ite_true (decide_eq_true (by rw [c1] <;> decide)) ?_; wp_walk using wpAny_loadPart' hl))
    exact ⟨_, rfl, h⟩
/-- t * k: k is 1: t itself; else a new tuple -/
def rRepN (K : PySem.W.Frag) : R2 := fun x y H Q => ∃ l k xs, x = .ref l ∧ y = .int ((k : Nat) : Int) ∧ SqT K H l xs ∧ xs ≠ [] ∧ k ≤ 1000 ∧ xs.length ≤ 1000 ∧ ∀ p H', L2.Same H H' → SqT K H' p (List.replicate k xs).flatten → Q (.ref p) H'
section
variable {X : Cx}
theorem op_repN : OpR X (binaryOp .Mult) (rRepN X.K) := by
  intro pins s σ H x y v u Q I rx ry h
  obtain ⟨l, k, xs, rfl, rfl, hT, hne, h2, hz, q⟩ := h
  by_cases hk : 2 ≤ k
  · exact op_repT pins s σ H _ _ v u Q I rx ry ⟨l, (k : Int), xs, rfl, rfl, hT, hne, by omega, by omega, hz, fun p hp => q p _ (same_new hp) (.inl (.inl (by rw [upd_same, Int.toNat_natCast])))⟩
  · cases rx
    obtain ⟨t, rfl⟩ := ry
    obtain ⟨its, r, ⟨⟨cls, dd, data, sl⟩, ho, hc, n, hd⟩, hs⟩ := I.tuple hT
    simp only at hc hd
    subst hc hd
    have hn : its ≠ [] := fun e => hne (by
      have hle : its.length = xs.length := r.length.symm
      rw [e] at hle
      exact List.eq_nil_of_length_eq_zero hle.symm)
    have hi : its.toArray.isEmpty = false := by
      cases its with
      | nil => exact absurd rfl hn
      | cons a b => rfl
    have hk' : k = 0 ∨ k = 1 := by omega
    rcases hk' with rfl | rfl
    · refine wpAny_binaryOp_repeat_ref (T := "tuple") (U := "int") (by decide) ⟨_, ho, rfl⟩ (fun s' => typeIs_int s' _ t) noFill_tuple_mul F.fills_int_mul F.slot_int_rmul repeat_tuple F.slot_int_index.lookup
        (call_meets F.slot_int_rmul (typeIs_int s _ t) F.entry_int_rmul (F.args_int_rmul_2 _ _) (int_rmul_tuple _ t l its.toArray n dd sl)
          ⟨ho, rfl, ⟨_, ho, rfl⟩, call_meets F.slot_tuple_mul ⟨_, ho, rfl⟩ F.entry_tuple_mul (F.args_tuple_mul_2 _ _) (tuple_mul0 l its.toArray n dd sl t hi) ⟨ho, ?_⟩⟩)
      refine ⟨.ref s.heap.objs.size, _, I.laid (t' := s.toks) (o := .tup []) (fun b ob q => Heap.get?_push_of_some _ q) (Nat.le_refl _) ?_, rfl, q _ _ (same_new (I.hok.fresh (Nat.le_refl _))) (.inl (.inl upd_same))⟩
      exact ⟨Nat.zero_le _, [], .nil, IsTup.new _ _⟩
    · refine wpAny_binaryOp_repeat_ref (T := "tuple") (U := "int") (by decide) ⟨_, ho, rfl⟩ (fun s' => typeIs_int s' _ t) noFill_tuple_mul F.fills_int_mul F.slot_int_rmul repeat_tuple F.slot_int_index.lookup
        (call_meets F.slot_int_rmul (typeIs_int s _ t) F.entry_int_rmul (F.args_int_rmul_2 _ _) (int_rmul_tuple _ t l its.toArray n dd sl)
          ⟨ho, rfl, ⟨_, ho, rfl⟩, call_meets F.slot_tuple_mul ⟨_, ho, rfl⟩ F.entry_tuple_mul (F.args_tuple_mul_2 _ _) (tuple_mul1 l its.toArray n dd sl t) ⟨ho, ?_⟩⟩)
      refine ⟨.ref l, H, I, rfl, q l H (L2.Same.refl _) ?_⟩
      have e : (List.replicate 1 xs).flatten = xs := by simp
      rw [e]
      exact hT
end
end Kb
/-! Data told by PyData: repr, the items that check_vectors sees. -/
namespace Kb
open PySem PySem.Spec PyProof.Rows L2
/-- data of small text -/
structure Gd (n m : Nat) (d : PyData) : Prop where
  lv : d.leavesShort 13 = true
  sh : d.showable = true
  hd : d.hasDict = false
  dp : d.depth ≤ n
  wt : d.weight ≤ m
theorem Gd.mono {n m n' m' : Nat} {d : PyData} (g : Gd n m d) (h : n ≤ n') (h2 : m ≤ m') : Gd n' m' d := ⟨g.lv, g.sh, g.hd, Nat.le_trans g.dp h, Nat.le_trans g.wt h2⟩
theorem gd_all {n m : Nat} : ∀ {ds : List PyData}, (∀ d ∈ ds, Gd n m d) → PyData.leavesShortAll 13 ds = true ∧ PyData.showableAll ds = true ∧ PyData.hasDictAll ds = false ∧ PyData.depthAll ds ≤ n ∧ PyData.weightAll ds ≤ ds.length * (m + 1)
  | [], _ => ⟨rfl, rfl, rfl, Nat.zero_le _, Nat.zero_le _⟩
  | d :: r, h => by
    obtain ⟨a1, a2, a3, a4, a5⟩ := gd_all (ds := r) fun x hx => h x (List.mem_cons_of_mem _ hx)
    obtain ⟨b1, b2, b3, b4, b5⟩ := h d List.mem_cons_self
    refine ⟨?_, ?_, ?_, ?_, ?_⟩
    · show (d.leavesShort 13 && PyData.leavesShortAll 13 r) = true
      rw [b1, a1]
      rfl
    · show (d.showable && PyData.showableAll r) = true
      rw [b2, a2]
      rfl
    · show (d.hasDict || PyData.hasDictAll r) = false
      rw [b3, a3]
      rfl
    · exact Nat.max_le.mpr ⟨b4, a4⟩
    · show d.weight + 1 + PyData.weightAll r ≤ (r.length + 1) * (m + 1)
      rw [Nat.add_mul]
      omega
theorem Gd.lst {n m l : Nat} {ds : List PyData} (h : ∀ d ∈ ds, Gd n m d) (hl : ds.length ≤ l) : Gd (n + 1) (l * (m + 1)) (.list ds) := by
  obtain ⟨a1, a2, a3, a4, a5⟩ := gd_all h
  exact ⟨a1, a2, a3, Nat.succ_le_succ a4, Nat.le_trans a5 (Nat.mul_le_mul_right _ hl)⟩
theorem Gd.tup {n m l : Nat} {ds : List PyData} (h : ∀ d ∈ ds, Gd n m d) (hl : ds.length ≤ l) : Gd (n + 1) (l * (m + 1)) (.tuple ds) := by
  obtain ⟨a1, a2, a3, a4, a5⟩ := gd_all h
  exact ⟨a1, a2, a3, Nat.succ_le_succ a4, Nat.le_trans a5 (Nat.mul_le_mul_right _ hl)⟩
theorem log2_of {i : Int} (h : -1000000000 ≤ i ∧ i ≤ 1000000000) : i.natAbs.log2 ≤ 30 := by
  have h1 : i.natAbs < 2 ^ 30 := by
    have : (2 : Nat) ^ 30 = 1073741824 := by decide
    omega
  by_cases h0 : i.natAbs = 0
  · rw [h0]
    decide
  · exact Nat.le_of_lt ((Nat.log2_lt h0).mpr h1)
theorem Gd.int {i : Int} (h : -1000000000 ≤ i ∧ i ≤ 1000000000) : Gd 0 40 (.int i) := by
  refine ⟨?_, ?_, rfl, Nat.le_refl _, ?_⟩
  · show decide ((Str.ofString (toString i)).length ≤ 13) = true
    rw [decide_eq_true_eq, PySem.ofString_length]
    have := int_text_length_le10 (a := i) (k := 10) (by decide) (by omega)
    omega
  · show decide (i.natAbs.log2 < 1920) = true
    have := log2_of h
    exact decide_eq_true (by omega)
  · show (if (i == 0) = true then 0 else i.natAbs.log2 + 1) ≤ 40
    have := log2_of h
    split <;> omega
theorem Gd.bool {b : Bool} : Gd 0 40 (.bool b) := ⟨rfl, rfl, rfl, Nat.le_refl _, Nat.zero_le _⟩
theorem Gd.none : Gd 0 40 .none := ⟨rfl, rfl, rfl, Nat.le_refl _, Nat.zero_le _⟩
theorem Gd.size {n m : Nat} {d : PyData} (g : Gd n m d) (h : m ≤ 100000) : d.shown.length ≤ sizeLine := by
  refine PyData.shown_fits (B := 13) (by decide) (by decide) g.lv (Nat.le_trans g.wt (Nat.le_trans h ?_))
  decide
section
variable {X : Cx}
/-- repr(x) of data -/
theorem call_repr_dp (hg : X.A.guards = some []) (hu : X.A.units + 70 < cLine) : CallR X (.builtin "repr") (fun xs H Q => ∃ v d, xs = [v] ∧ Dp X.K H v d ∧ Gd 60 100000 d ∧ Q (.str d.shown) H) := by
  intro pins s σ H xs us Q I r h
  obtain ⟨v, d, rfl, hd, g, q⟩ := h
  obtain ⟨u, rfl, ru⟩ := vals1 r
  have hz := g.size (Nat.le_refl _)
  cases hd with
  | non =>
    cases ru
    exact PySem.P.repr_of_none ⟨.str _, H, I.tok _, ⟨_, rfl⟩, q⟩
  | bl b =>
    cases ru
    exact PySem.P.repr_of_bool ⟨.str _, H, I.tok _, ⟨_, rfl⟩, q⟩
  | int i =>
    obtain ⟨t, rfl⟩ := ru
    have h1 : i.natAbs.log2 < 1920 := of_decide_eq_true g.sh
    exact PySem.P.repr_of_int h1 ⟨.str _, H, I.tok _, ⟨_, rfl⟩, q⟩
  | str x =>
    obtain ⟨t, rfl⟩ := ru
    exact PySem.P.repr_of_str ⟨.str _, H, I.tok _, ⟨_, rfl⟩, q⟩ hz
  | lst hq ha =>
    have hd : Dp X.K H (.ref _) (.list _) := .lst hq ha
    obtain ⟨as, rd⟩ := Dp.reads I _ _ _ hd ru
    cases ru
    exact repr_of_reads' rd g.sh (PyData.noDict_hsm g.hd) hg (by have := g.dp; omega) (fun _ _ e => e) (fun h' u tk hk => ⟨.str _, H, I.kept hk, ⟨_, rfl⟩, q⟩) hz
  | tup hq ha =>
    have hd : Dp X.K H (.ref _) (.tuple _) := .tup hq ha
    obtain ⟨as, rd⟩ := Dp.reads I _ _ _ hd ru
    cases ru
    exact repr_of_reads' rd g.sh (PyData.noDict_hsm g.hd) hg (by have := g.dp; omega) (fun _ _ e => e) (fun h' u tk hk => ⟨.str _, H, I.kept hk, ⟨_, rfl⟩, q⟩) hz
end
/-! ### what check_vectors sees of data -/
def celD : PyData → Cel
  | .int n => .i n
  | .bool k => .b k
  | _ => .b false
def itmD : PyData → Itm
  | .tuple ds => .tup (ds.map celD)
  | _ => .no
def givD : PyData → Giv
  | .list ds => .its (ds.map itmD)
  | .tuple ds => .its (ds.map itmD)
  | _ => .no
def flD : PyData → Prop
  | .int n => -1000000000 ≤ n ∧ n ≤ 1000000000
  | .bool _ => True
  | _ => False
/-- items of late -/
def itD : PyData → Prop
  | .tuple ds => ds.length ≤ 8 ∧ ∀ d ∈ ds, flD d
  | .list ds => ds.length ≤ 8 ∧ ∀ d ∈ ds, flD d
  | .none => True
  | .int n => -1000000000 ≤ n ∧ n ≤ 1000000000
  | .bool _ => True
  | .str x => x = "" ∨ x = "a"
  | .dict _ => False
def ltD : PyData → Prop
  | .tuple ds => ds.length ≤ 20 ∧ ∀ d ∈ ds, itD d
  | .list ds => ds.length ≤ 20 ∧ ∀ d ∈ ds, itD d
  | d => itD d
theorem flD.gd : ∀ {d : PyData}, flD d → Gd 0 40 d
  | .int _, h => Gd.int h
  | .bool _, _ => Gd.bool
theorem itD.gd : ∀ {d : PyData}, itD d → Gd 1 400 d
  | .int _, h => (Gd.int h).mono (by decide) (by decide)
  | .bool _, _ => Gd.bool.mono (by decide) (by decide)
  | .none, _ => Gd.none.mono (by decide) (by decide)
  | .str x, h => by
    rcases h with rfl | rfl
    · exact ⟨by decide +kernel, rfl, rfl, Nat.zero_le _, by decide +kernel⟩
    · exact ⟨by decide +kernel, rfl, rfl, Nat.zero_le _, by decide +kernel⟩
  | .list ds, h => (Gd.lst (fun d hd => (h.2 d hd).gd) h.1).mono (by decide) (by decide)
  | .tuple ds, h => (Gd.tup (fun d hd => (h.2 d hd).gd) h.1).mono (by decide) (by decide)
theorem ltD.gd : ∀ {d : PyData}, ltD d → Gd 60 100000 d
  | .int _, h => (itD.gd (d := .int _) h).mono (by decide) (by decide)
  | .bool _, h => (itD.gd (d := .bool _) h).mono (by decide) (by decide)
  | .none, h => (itD.gd (d := .none) h).mono (by decide) (by decide)
  | .str x, h => (itD.gd (d := .str x) h).mono (by decide) (by decide)
  | .list ds, h => (Gd.lst (fun d hd => (h.2 d hd).gd) h.1).mono (by decide) (by decide)
  | .tuple ds, h => (Gd.tup (fun d hd => (h.2 d hd).gd) h.1).mono (by decide) (by decide)
theorem fl_at {K : PySem.W.Frag} {H : Hp} : ∀ {ds : List PyData} {vs : List V}, (∀ d ∈ ds, flD d) → DpAll K H vs ds → vs = (ds.map celD).map Cel.v
  | [], _, _, h => by cases h; rfl
  | d :: r, _, hf, h => by
    cases h with
    | cons a t =>
      have e := fl_at (fun x hx => hf x (List.mem_cons_of_mem _ hx)) t
      have hd := hf d List.mem_cons_self
      cases a with
      | int i => rw [e]; rfl
      | bl b => rw [e]; rfl
      | non => exact hd.elim
      | str x => exact hd.elim
      | lst _ _ => exact hd.elim
      | tup _ _ => exact hd.elim
theorem it_at {K : PySem.W.Frag} {H : Hp} {v : V} {d : PyData} (hd : itD d) (h : Dp K H v d) : ItAt K H v (itmD d) := by
  cases h with
  | non => exact ⟨_, .base .non, by decide +kernel⟩
  | bl b => exact ⟨_, .base (.bl b), by decide +kernel⟩
  | int i => exact ⟨_, .base (.int i), by decide +kernel⟩
  | str x => exact ⟨_, .base (.str x), by decide +kernel⟩
  | lst hq ha => exact ⟨_, tyL hq, by decide +kernel⟩
  | tup hq ha =>
    refine ⟨_, rfl, ?_⟩
    rw [← fl_at hd.2 ha]
    exact hq
theorem its_at {K : PySem.W.Frag} {H : Hp} : ∀ {ds : List PyData} {vs : List V}, (∀ d ∈ ds, itD d) → DpAll K H vs ds → Paired (ItAt K H) vs (ds.map itmD)
  | [], _, _, h => by cases h; exact .nil
  | d :: r, _, hf, h => by
    cases h with
    | cons a t => exact .cons (it_at (hf d List.mem_cons_self) a) (its_at (fun x hx => hf x (List.mem_cons_of_mem _ hx)) t)
theorem giv_dp {K : PySem.W.Frag} {H : Hp} {v : V} {d : PyData} (hd : ltD d) (h : Dp K H v d) : GivAt K H v (givD d) := by
  cases h with
  | non => exact ⟨_, .base .non, by decide +kernel, by decide +kernel⟩
  | bl b => exact ⟨_, .base (.bl b), by decide +kernel, by decide +kernel⟩
  | int i => exact ⟨_, .base (.int i), by decide +kernel, by decide +kernel⟩
  | str x => exact ⟨_, .base (.str x), by decide +kernel, by decide +kernel⟩
  | lst hq ha => exact ⟨_, _, rfl, .inl hq, its_at hd.2 ha⟩
  | tup hq ha => exact ⟨_, _, rfl, .inr hq, its_at hd.2 ha⟩
theorem itm_sm : ∀ {d : PyData}, itD d → (itmD d).sm
  | .tuple ds, h => by
    show (ds.map celD).length ≤ 100
    rw [List.length_map]
    exact Nat.le_trans h.1 (by decide)
  | .none, _ => True.intro
  | .int _, _ => True.intro
  | .bool _, _ => True.intro
  | .str _, _ => True.intro
  | .list _, _ => True.intro
theorem cel_bd : ∀ {d : PyData}, flD d → (celD d).bd
  | .int _, h => h
  | .bool _, _ => True.intro
theorem itm_bd : ∀ {d : PyData}, itD d → (itmD d).bd
  | .tuple ds, h => fun c hc => by
    obtain ⟨d, hd, rfl⟩ := List.mem_map.mp hc
    exact cel_bd (h.2 d hd)
  | .none, _ => True.intro
  | .int _, _ => True.intro
  | .bool _, _ => True.intro
  | .str _, _ => True.intro
  | .list _, _ => True.intro
theorem giv_sb : ∀ {d : PyData}, ltD d → (givD d).sm ∧ (givD d).bd
  | .tuple ds, h => ⟨⟨by rw [List.length_map]; exact Nat.le_trans h.1 (by decide), fun t ht => by
      obtain ⟨d, hd, rfl⟩ := List.mem_map.mp ht
      exact itm_sm (h.2 d hd)⟩, fun t ht => by
      obtain ⟨d, hd, rfl⟩ := List.mem_map.mp ht
      exact itm_bd (h.2 d hd)⟩
  | .list ds, h => ⟨⟨by rw [List.length_map]; exact Nat.le_trans h.1 (by decide), fun t ht => by
      obtain ⟨d, hd, rfl⟩ := List.mem_map.mp ht
      exact itm_sm (h.2 d hd)⟩, fun t ht => by
      obtain ⟨d, hd, rfl⟩ := List.mem_map.mp ht
      exact itm_bd (h.2 d hd)⟩
  | .none, _ => ⟨True.intro, True.intro⟩
  | .int _, _ => ⟨True.intro, True.intro⟩
  | .bool _, _ => ⟨True.intro, True.intro⟩
  | .str _, _ => ⟨True.intro, True.intro⟩
/-! ### a tuple of ints as a function on the names -/
theorem fun_of : ∀ {ss : List Str} {zs : List Int}, ss.Nodup → zs.length = ss.length → ∃ f : Str → Int, ss.map f = zs
  | [], [], _, _ => ⟨fun _ => 0, rfl⟩
  | s :: r, z :: t, hn, hl => by
    obtain ⟨n1, n2⟩ := List.nodup_cons.mp hn
    obtain ⟨f, e⟩ := fun_of (ss := r) (zs := t) n2 (Nat.succ.inj hl)
    refine ⟨fun x => if x = s then z else f x, ?_⟩
    rw [List.map_cons, if_pos rfl, ← e]
    refine congrArg (z :: ·) (List.map_congr_left fun x hx => if_neg fun (q : x = s) => n1 (q ▸ hx))
/-- no idle row of known size -/
structure Vz (w : Nat) (zs : List Int) : Prop where
  len : zs.length = w
  nz : ∃ z ∈ zs, z ≠ 0
  bd : ∀ z ∈ zs, -999999999 ≤ z ∧ z ≤ 999999999
/-- the tuples of ints at v -/
def TupsAt (K : PySem.W.Frag) (H : Hp) (vs : List V) (zss : List (List Int)) : Prop := Paired (fun v zs => ∃ t, v = V.ref t ∧ SqT K H t (zs.map V.int)) vs zss
theorem ab_lt {z : Int} (h : -1000000000 ≤ z ∧ z ≤ 1000000000) : ab z < 2 ^ 30 := by
  have e : (2 : Int) ^ 30 = 1073741824 := by decide
  rw [e]
  unfold ab
  split <;> omega
theorem vec_one {K : PySem.W.Frag} {H : Hp} {ss : List Str} {v : V} {zs : List Int} (hn : ss.Nodup) (hl : zs.length = ss.length) (hz : ∃ z ∈ zs, z ≠ 0) (hb : ∀ z ∈ zs, -1000000000 ≤ z ∧ z ≤ 1000000000) (h : ∃ t, v = V.ref t ∧ SqT K H t (zs.map V.int)) : ∃ f, VecAt K H ss v f ∧ Okf ss f := by
  obtain ⟨f, e⟩ := fun_of hn hl
  obtain ⟨t, rfl, ht⟩ := h
  refine ⟨f, ⟨t, rfl, by rw [e]; exact ht⟩, ?_, fun z hz => ab_lt (hb _ (by rw [← e]; exact List.mem_map.mpr ⟨z, hz, rfl⟩))⟩
  obtain ⟨z, h1, h2⟩ := hz
  rw [← e] at h1
  obtain ⟨s, h3, rfl⟩ := List.mem_map.mp h1
  exact ⟨s, h3, h2⟩
theorem vecs_all {K : PySem.W.Frag} {H : Hp} {ss : List Str} (hn : ss.Nodup) : ∀ {vs : List V} {zss : List (List Int)}, TupsAt K H vs zss → (∀ zs ∈ zss, zs.length = ss.length ∧ (∃ z ∈ zs, z ≠ 0) ∧ ∀ z ∈ zs, -1000000000 ≤ z ∧ z ≤ 1000000000) → ∃ fs, Paired (VecAt K H ss) vs fs ∧ fs.length = zss.length ∧ ∀ f ∈ fs, Okf ss f
  | _, _, .nil, _ => ⟨[], .nil, rfl, fun _ h => by cases h⟩
  | _, _, @Paired.cons _ _ _ _ zs _ _ a t, h => by
    obtain ⟨fs, h1, h2, h3⟩ := vecs_all hn t fun x hx => h x (List.mem_cons_of_mem _ hx)
    obtain ⟨b1, b2, b3⟩ := h zs List.mem_cons_self
    obtain ⟨f, g1, g2⟩ := vec_one hn b1 b2 b3 a
    refine ⟨f :: fs, .cons g1 h1, congrArg Nat.succ h2, fun x hx => ?_⟩
    rcases List.mem_cons.mp hx with rfl | hx
    · exact g2
    · exact h3 x hx
/-! ### data of vectors only -/
theorem ints_of : ∀ {ds : List PyData}, (∀ d ∈ ds, flD d) → ((ds.map celD).all Cel.isI) = true → ∃ zs : List Int, ds = zs.map PyData.int ∧ (ds.map celD) = zs.map Cel.i ∧ ∀ z ∈ zs, -1000000000 ≤ z ∧ z ≤ 1000000000
  | [], _, _ => ⟨[], rfl, rfl, fun _ h => by cases h⟩
  | d :: r, hf, ha => by
    rw [List.map_cons, List.all_cons, Bool.and_eq_true] at ha
    obtain ⟨zs, e1, e2, e3⟩ := ints_of (ds := r) (fun x hx => hf x (List.mem_cons_of_mem _ hx)) ha.2
    have hd := hf d List.mem_cons_self
    cases d with
    | int i =>
      refine ⟨i :: zs, by rw [e1, List.map_cons], by rw [List.map_cons, List.map_cons, e2]; rfl, fun z hz => ?_⟩
      rcases List.mem_cons.mp hz with rfl | hz
      · exact hd
      · exact e3 z hz
    | bool b => exact absurd ha.1 Bool.false_ne_true
    | none => exact hd.elim
    | str _ => exact hd.elim
    | list _ => exact hd.elim
    | tuple _ => exact hd.elim
    | dict _ => exact hd.elim
theorem vec_of {w : Nat} {d : PyData} (hd : itD d) (h : isVec w (itmD d) = true) : ∃ zs : List Int, d = .tuple (zs.map PyData.int) ∧ zs.length = w ∧ (∃ z ∈ zs, z ≠ 0) ∧ ∀ z ∈ zs, -1000000000 ≤ z ∧ z ≤ 1000000000 := by
  cases d with
  | tuple ds =>
    have h' : (decide ((ds.map celD).length = w) && ((ds.map celD).all Cel.isI && (ds.map celD).any Cel.nz)) = true := h
    rw [Bool.and_eq_true, Bool.and_eq_true, decide_eq_true_eq, List.length_map] at h'
    obtain ⟨zs, e1, e2, e3⟩ := ints_of hd.2 h'.2.1
    refine ⟨zs, by rw [e1], by rw [← h'.1, e1, List.length_map], ?_, e3⟩
    have h3 := h'.2.2
    rw [e2, List.any_map, List.any_eq_true] at h3
    obtain ⟨z, hz, k⟩ := h3
    exact ⟨z, hz, of_decide_eq_true k⟩
  | none => cases h
  | int _ => cases h
  | bool _ => cases h
  | str _ => cases h
  | list _ => cases h
  | dict _ => exact hd.elim
theorem dp_ints_inv {K : PySem.W.Frag} {H : Hp} : ∀ {zs : List Int} {vs : List V}, DpAll K H vs (zs.map PyData.int) → vs = zs.map V.int
  | [], _, h => by cases h; rfl
  | z :: r, _, h => by
    cases h with
    | cons a t =>
      cases a with
      | int _ => rw [dp_ints_inv t]; rfl
theorem vecs_of {K : PySem.W.Frag} {H : Hp} {w : Nat} : ∀ {ds : List PyData} {vs : List V}, (∀ d ∈ ds, itD d) → (∀ d ∈ ds, isVec w (itmD d) = true) → DpAll K H vs ds → ∃ zss, TupsAt K H vs zss ∧ zss.length = ds.length ∧ ∀ zs ∈ zss, zs.length = w ∧ (∃ z ∈ zs, z ≠ 0) ∧ ∀ z ∈ zs, -1000000000 ≤ z ∧ z ≤ 1000000000
  | [], _, _, _, h => by cases h; exact ⟨[], .nil, rfl, fun _ h => by cases h⟩
  | d :: r, _, hd, hv, h => by
    cases h with
    | cons a t =>
      obtain ⟨zss, h1, h2, h3⟩ := vecs_of (fun x hx => hd x (List.mem_cons_of_mem _ hx)) (fun x hx => hv x (List.mem_cons_of_mem _ hx)) t
      obtain ⟨zs, rfl, g⟩ := vec_of (hd d List.mem_cons_self) (hv d List.mem_cons_self)
      cases a with
      | tup hq ha =>
        refine ⟨zs :: zss, .cons ⟨_, rfl, by rw [← dp_ints_inv ha]; exact hq⟩ h1, congrArg Nat.succ h2, fun x hx => ?_⟩
        rcases List.mem_cons.mp hx with rfl | hx
        · exact g
        · exact h3 x hx
/-- data that check_vectors lets through are vectors -/
theorem good_vecs {K : PySem.W.Frag} {H : Hp} {w : Nat} {ss : List Str} {v : V} {d : PyData} (hn : ss.Nodup) (hw : ss.length = w) (hd : ltD d) (hf : fault w (givD d) = none) (h : Dp K H v d) : ∃ fs, VecsAt K H ss v fs ∧ fs.length ≤ 12 ∧ ∀ f ∈ fs, Okf ss f := by
  have key : ∀ {ds : List PyData} {vs : List V} {a : Addr}, (∀ d ∈ ds, itD d) → fault w (.its (ds.map itmD)) = none → DpAll K H vs ds → SqA K H a vs → ∃ fs, VecsAt K H ss (.ref a) fs ∧ fs.length ≤ 12 ∧ ∀ f ∈ fs, Okf ss f := fun {ds vs a} hi hf ha hq => by
    have hf2 : (if 12 < (ds.map itmD).length then some Flt.many else ((ds.map itmD).findIdx? fun t => !isVec w t).map fun i => .at (i : Nat)) = none := hf
    by_cases h12 : 12 < (ds.map itmD).length
    · rw [if_pos h12] at hf2
      cases hf2
    · rw [if_neg h12, Option.map_eq_none_iff, List.findIdx?_eq_none_iff] at hf2
      obtain ⟨zss, h1, h2, h3⟩ := vecs_of hi (fun d hd => by
        have q := hf2 (itmD d) (List.mem_map.mpr ⟨d, hd, rfl⟩)
        simpa using q) ha
      obtain ⟨fs, g1, g2, g3⟩ := vecs_all (ss := ss) hn h1 fun zs hz => by rw [hw]; exact h3 zs hz
      refine ⟨fs, ⟨a, vs, rfl, hq, g1⟩, ?_, g3⟩
      rw [List.length_map] at h12
      omega
  cases h with
  | non => cases hf
  | bl _ => cases hf
  | int _ => cases hf
  | str _ => cases hf
  | lst hq ha => exact key hd.2 hf ha (.inl hq)
  | tup hq ha => exact key hd.2 hf ha (.inr hq)
end Kb
/-! A def that asks for an empty repr guard; heaps in which tables grow. -/
namespace Kb
open PySem PySem.Spec PyProof.Rows L2
/-- a promise where no repr is under way -/
structure FnG (P : Program) (w : World) (K : PySem.W.Frag) (mg : Str → Option Value) (base : Heap) (CX : CXT) (k : Nat) (f : Addr) (fd : FuncData) (ps : List Str) (sp : Sp) : Prop where
  len : ∀ vs H Q E, sp vs H Q E → vs.length = ps.length
  run : ∀ (A : Around) (outer : List Env) (s : Shared) (H : Hp) (args : Args) (us : List Value) (vs : List V) (Q : VK) (E : XK), Room k A → A.guards = some [] → Env0 P w K mg base A outer s H → BindsTo s fd args (ps.zip us) → Vals vs us → sp vs H Q E →
    codeAny (model P w) A (.call (.ref f) args) (CR CX outer P w H s Q E) s
theorem fnG_of {CX : CXT} {P : Program} {w : World} {K : PySem.W.Frag} {mg : Str → Option Value} {base : Heap} {k : Nat} {f : Addr} {x qual : Str} {params : Arguments} {body : List Stmt} {scope : Scope} {fd : FuncData} {N ps : List Str} {sp : Sp}
    (F : FunD K x qual params body scope [] [] f fd) (S : FnScope N ps scope) (len : ∀ vs H Q E, sp vs H Q E → vs.length = ps.length)
    (hbody : ∀ (A : Around) (outer : List Env) (s : Shared) (H : Hp) (vs : List V) (Q : VK) (E : XK), Room k (A.deeper (envOfC qual scope s.heap.objs.size f fd.code)) → A.guards = some [] → sp vs H Q E →
      ∃ t, PSs (cxOf CX P w K mg base N qual scope f fd.code A outer s H E).nox body t ∧ t { nx := fun _ H' => Q .non H', rt := Q } (L2.start N vs) H) : FnG P w K mg base CX (k + 1) f fd ps sp := by
  refine ⟨len, fun A outer s H args us vs Q E hr hg e0 hb r hsp => ?_⟩
  obtain ⟨oc, od, dV, kV, doc, pm, an, cdv, ct, osl, rfl, lk, hcd, _, _⟩ := F.ex
  exact LamX.run_ofS lk hcd S hr e0 hb r (len _ _ _ _ hsp) fun hr' => by
    obtain ⟨t, h1, h2⟩ := hbody A outer s H vs Q E hr' hg hsp
    exact ⟨t, h1.nox, h2⟩
/-- x(e, ..) -/
theorem pe_callG {X : Cx} {CX : CXT} {k : Nat} {f : Addr} {fd : FuncData} {ps : List Str} {sp : Sp} {x : Str} {q pos : Pos} {e : Expr} {es : List Expr} {t : TA} (F : FnG X.prog X.w X.K X.mg X.base CX k f fd ps sp) (hr : Room k X.A) (hG : X.A.guards = some []) (hg : Gl X x) (hm : X.mg x = some (.ref f)) (hk : PySem.W.keepIn X.K (.ref f) = true) (hb : Binds X.K fd ps []) (hx : Passes CX X E0)
    (ha : PA X (e :: es) t) (hdb : (x == ("__debug__" : Str)) = false := by decide) (he : starEach (e :: es) X.env = (false, eval e X.env) :: starEach es X.env := by rfl) (hpl : (backTo pos (starEach es X.env)).any (·.1) = false := by rfl) :
    PE X (.Call (.Name x q) (e :: es) [] pos) (tCall sp [] E0 t) := by
  refine ⟨fun pins s σ H Q I h => ?_⟩
  refine wpAny_Call_Name_kw (ld_glob I hg hm ?_ hdb)
  refine PySem.W.callWith_K (h₀ := X.base) I.ok.mod.kin hk (thn (ha.run pos pins s σ H _ I h) fun us s1 ⟨vs, H1, I1, r, q⟩ => ⟨I1.kIn, ?_⟩) he hpl
  have q' : sp vs H1 Q E0 := by
    have q2 : sp (vs ++ []) H1 Q E0 := q
    rw [List.append_nil] at q2
    exact q2
  have hlu : us.length = ps.length := by rw [← r.length]; exact F.len _ _ _ _ q'
  have b := hb s1 us I1.kIn (by rw [List.append_nil]; exact hlu)
  rw [List.append_nil] at b
  refine wpAny_call (codeAny_mono (F.run X.A X.stack s1 H1 ⟨us, []⟩ us vs Q E0 hr hG I1.env0 b r q') fun r s' hq => ?_)
  cases r with
  | error e => exact hx pins σ H1 s1 e s' I1 hq
  | ok fl =>
    cases fl with
    | ret u => exact I1.after hq
    | next => exact False.elim hq
    | brk => exact False.elim hq
    | cont => exact False.elim hq
/-! ### heaps in which tables grow -/
/-- all but b and the tables stay -/
def ButT (b : Addr) (H H' : Hp) : Prop := ∀ c o, c ≠ b → (∀ ps, o ≠ .tbl ps) → H c = some o → H' c = some o
theorem ButT.of {b : Addr} {H H' : Hp} (k : But b H H') : ButT b H H' := fun c o n _ e => k c o n e
theorem ButT.ext {b : Addr} {H H' : Hp} (k : LamX.ExtN H H') : ButT b H H' := fun c o _ n e => k c o e n
theorem ButT.trans {b : Addr} {H H1 H2 : Hp} (x : ButT b H H1) (y : ButT b H1 H2) : ButT b H H2 := fun c o n m e => y c o n m (x c o n m e)
theorem BagAt.ext {b l : Addr} {H H' : Hp} (h : BagAt b l H) (k : LamX.ExtN H H') : BagAt b l H' := by
  obtain ⟨n, zs, p, g, sd, c, h1, h2, h3⟩ := h
  exact ⟨n, zs, p, g, sd, c, k _ _ h1 (fun _ z => nomatch z), k _ _ h2 (fun _ z => nomatch z), h3⟩
theorem ButT.sqT {K : PySem.W.Frag} {b l : Addr} {H H' : Hp} {a : Addr} {xs : List V} (k : ButT b H H') (hb : BagAt b l H) (h : SqT K H a xs) : SqT K H' a xs := by
  obtain ⟨n, zs, p, g, sd, c, h1, h2, h3⟩ := hb
  rcases h with (h | ⟨o, h⟩) | h
  · exact .inl (.inl (k _ _ (fun z => by rw [z, h1] at h; cases h) (fun _ z => nomatch z) h))
  · exact .inl (.inr ⟨o, k _ _ (fun z => by rw [z, h1] at h; cases h) (fun _ z => nomatch z) h⟩)
  · exact .inr h
theorem ext_sqT {K : PySem.W.Frag} {H H' : Hp} {a : Addr} {xs : List V} (k : LamX.ExtN H H') (h : SqT K H a xs) : SqT K H' a xs := by
  rcases h with (h | ⟨o, h⟩) | h
  · exact .inl (.inl (k _ _ h (fun _ z => nomatch z)))
  · exact .inl (.inr ⟨o, k _ _ h (fun _ z => nomatch z)⟩)
  · exact .inr h
theorem ext_sqL {K : PySem.W.Frag} {H H' : Hp} {a : Addr} {xs : List V} (k : LamX.ExtN H H') (h : SqL K H a xs) : SqL K H' a xs := by
  rcases h with (h | ⟨o, h⟩) | h
  · exact .inl (.inl (k _ _ h (fun _ z => nomatch z)))
  · exact .inl (.inr ⟨o, k _ _ h (fun _ z => nomatch z)⟩)
  · exact .inr h
mutual
theorem dp_ext {K : PySem.W.Frag} {H H' : Hp} (s : LamX.ExtN H H') : ∀ (d : PyData) (v : V), Dp K H v d → Dp K H' v d
  | .none, _, h => by cases h; exact .non
  | .bool b, _, h => by cases h; exact .bl b
  | .int i, _, h => by cases h; exact .int i
  | .str x, _, h => by cases h; exact .str x
  | .list ds, _, h => by
    cases h with
    | lst q a => exact .lst (ext_sqL s q) (dp_extA s ds _ a)
  | .tuple ds, _, h => by
    cases h with
    | tup q a => exact .tup (ext_sqT s q) (dp_extA s ds _ a)
  | .dict _, _, h => by cases h
theorem dp_extA {K : PySem.W.Frag} {H H' : Hp} (s : LamX.ExtN H H') : ∀ (ds : List PyData) (vs : List V), DpAll K H vs ds → DpAll K H' vs ds
  | [], _, h => by cases h; exact .nil
  | d :: ds, _, h => by
    cases h with
    | cons a t => exact .cons (dp_ext s d _ a) (dp_extA s ds _ t)
end
theorem tabs_but {T : List (Addr × Str)} {b l : Addr} {H H' : Hp} (t : LamX.Tabs T H) (hb : BagAt b l H) (k : But b H H') : LamX.Tabs T H' := fun p hp => by
  obtain ⟨n, zs, q, g, sd, c, e1, _⟩ := hb
  obtain ⟨ps, h1, h2, h3⟩ := t p hp
  refine ⟨ps, k _ _ (fun z => by rw [z, e1] at h1; cases h1) h1, h2, fun pos cv hc => ?_⟩
  obtain ⟨c2, e2, e3⟩ := h3 pos cv hc
  exact ⟨c2, e2, k _ _ (fun z => by rw [z, e1] at e3; cases e3) e3⟩
/-- data that stand while the bag at b changes -/
def DpB (K : PySem.W.Frag) (b : Addr) (H : Hp) (v : V) (d : PyData) : Prop := ∀ H', But b H H' → Dp K H' v d
theorem DpB.but {K : PySem.W.Frag} {b : Addr} {H H1 : Hp} {v : V} {d : PyData} (h : DpB K b H v d) (k : But b H H1) : DpB K b H1 v d := fun H' k' => h H' (k.trans k')
theorem DpB.now {K : PySem.W.Frag} {b : Addr} {H : Hp} {v : V} {d : PyData} (h : DpB K b H v d) : Dp K H v d := h H (But.refl b H)
theorem dpB_all {K : PySem.W.Frag} {b : Addr} {H H' : Hp} (k : But b H H') : ∀ {vs : List V} {ds : List PyData}, Paired (DpB K b H) vs ds → DpAll K H' vs ds
  | _, _, .nil => .nil
  | _, _, .cons a t => .cons (a H' k) (dpB_all k t)
theorem DpB.lst {K : PySem.W.Frag} {b a : Addr} {H : Hp} {vs : List V} {ds : List PyData} (h : H a = some (.lst vs)) (n : a ≠ b) (p : Paired (DpB K b H) vs ds) : DpB K b H (.ref a) (.list ds) := fun H' k => .lst (SqL.of (k _ _ n h)) (dpB_all k p)
theorem DpB.tup {K : PySem.W.Frag} {b l a : Addr} {H : Hp} {vs : List V} {ds : List PyData} (hb : BagAt b l H) (h : SqT K H a vs) (p : Paired (DpB K b H) vs ds) : DpB K b H (.ref a) (.tuple ds) := fun H' k => .tup ((ButT.of k).sqT hb h) (dpB_all k p)
theorem pairB_ints {K : PySem.W.Frag} {b : Addr} {H : Hp} : ∀ zs : List Int, Paired (DpB K b H) (zs.map V.int) (zs.map PyData.int)
  | [] => .nil
  | z :: r => .cons (fun _ _ => .int z) (pairB_ints r)
theorem pairB_but {K : PySem.W.Frag} {b : Addr} {H H1 : Hp} {vs : List V} {ds : List PyData} (p : Paired (DpB K b H) vs ds) (k : But b H H1) : Paired (DpB K b H1) vs ds := Paired.mapP p fun _ _ h => h.but k
theorem tupsB {K : PySem.W.Frag} {b l : Addr} {H : Hp} (hb : BagAt b l H) : ∀ {vs : List V} {zss : List (List Int)}, TupsAt K H vs zss → Paired (DpB K b H) vs (zss.map fun zs => .tuple (zs.map PyData.int))
  | _, _, .nil => .nil
  | _, _, .cons ⟨t, e, h⟩ r => .cons (by rw [e]; exact DpB.tup hb h (pairB_ints _)) (tupsB hb r)
theorem TupsAt.butT {K : PySem.W.Frag} {b l : Addr} {H H' : Hp} (hb : BagAt b l H) (k : ButT b H H') {vs : List V} {zss : List (List Int)} (h : TupsAt K H vs zss) : TupsAt K H' vs zss := Paired.mapP h fun _ _ ⟨t, e, q⟩ => ⟨t, e, k.sqT hb q⟩
theorem vz_it {w : Nat} (hw : w ≤ 7) {zs : List Int} (h : Vz w zs) : itD (.tuple (zs.map PyData.int)) := by
  refine ⟨by rw [List.length_map, h.len]; omega, fun d hd => ?_⟩
  obtain ⟨z, hz, rfl⟩ := List.mem_map.mp hd
  obtain ⟨h1, h2⟩ := h.bd z hz
  exact ⟨by omega, by omega⟩
end Kb
/-! _law_refused_so. -/
namespace Kb
open PySem PySem.Spec PyProof.Rows L2
structure RsC (P : Program) (w : World) (K : PySem.W.Frag) (mg : Str → Option Value) (base : Heap) (Co Ci Ct Cc Cm Cn fIi fIt : Addr) : Prop where
  pu : ∃ f fd, Cal P w K mg base 1 "_law_pull" ["_law_bag", "_law_sides"] spPu f fd
  an : ∃ f fd, Cal P w K mg base 2 "_law_any" ["_law_bag", "_law_items"] (spAn K) f fd
  lf : ∃ f fd, Cal P w K mg base 3 "_law_vectors_fault" ["_law_given", "_law_wide"] (spLf K) f fd
  ow : ∃ f fd, Cal P w K mg base 4 "order_weights" ["order", "vectors"] (spOw K Co Ci Ct) f fd
  lo : ∃ f fd, Cal P w K mg base 6 "_law_order" ["_law_names_here"] (spLo K Co) f fd
  ld : ∃ f fd, Cal P w K mg base 1 "_law_weights_due" ["_law_names_here", "_law_given"] (spLd K) f fd
  lk : ∃ f fd, Cal P w K mg base 4 "_law_like" ["_law_a", "_law_b"] (spT (preLk K 3)) f fd
  ty : ∃ f fd, DefAt K mg "_law_try" (top 62) f fd
  fl : ∃ f fd, FnP P w K mg base C8.CX0 1 f fd ["_law_e"] (spFd K) ∧ mg "_law_field" = some (.ref f) ∧ PySem.W.keepIn K (.ref f) = true ∧ Binds K fd ["_law_e"] []
  mC : mg "ChoiceError" = some (.ref Cc)
  mM : mg "Missing" = some (.ref Cm)
  mN : mg "NothingLeft" = some (.ref Cn)
  xi : PySem.W.exmAny K (.ref Ci) [.ref Cc, .ref Cm, .ref Cn] = some true
  xt : PySem.W.exmAny K (.ref Ct) [.ref Cc, .ref Cm, .ref Cn] = some true
  Ti : XfC K Ci
  Tt : XfC K Ct
  Gi : ErrC K mg "InvalidVector" "at" Ci fIi
  Gt : ErrC K mg "TooMany" "most" Ct fIt
abbrev nRs : List Str := ["_law_bag", "_law_names_here", "_law_given", "_law_road", "_law_late", "_law_wide", "_law_spot", "_law_kept", "_law_fault", "_law_told"]
theorem scRs : FnScope nRs ["_law_bag", "_law_names_here", "_law_given"] (defScope (top 77)) := ⟨rfl, rfl, rfl, by decide +kernel, rfl, by decide +kernel, by decide +kernel⟩
/-- the lambda's name -/
def qRs : Str := (envOfC "_law_refused_so" (defScope (top 77)) 0 0 .none).qual ++ "<lambda>"
def spRs (K : PySem.W.Frag) (Pt : Addr) : Sp := fun vs H Q _ => ∃ (b l a D : Addr) (ns : List Str) (gs : List V) (zss : List (List Int)), vs = [.ref b, .ref a, .ref D] ∧ BagAt b l H ∧ SqT K H a (ns.map V.str) ∧ AreNs ns ∧ 1 ≤ ns.length ∧ H D = some (.lst gs) ∧ D ≠ b ∧ TupsAt K H gs zss ∧ zss.length ≤ 12 ∧ (∀ zs ∈ zss, Vz ns.length zs) ∧ LamX.Tabs [(Pt, qRs)] H ∧
  ∀ H', ButT b H H' → BagAt b l H' → LamX.Tabs [(Pt, qRs)] H' → Q (.bl true) H'
/-- what the law has settled on -/
def LateOk (K : PySem.W.Frag) (b : Addr) (H : Hp) (v : V) : Prop := ∃ d, ltD d ∧ DpB K b H v d
theorem But.sqTb {K : PySem.W.Frag} {b l : Addr} {H H' : Hp} {a : Addr} {xs : List V} (k : But b H H') (hb : BagAt b l H) (h : SqT K H a xs) : SqT K H' a xs := (ButT.of k).sqT hb h
theorem rep_one {α : Type} (v : α) : ∀ k : Nat, (List.replicate k [v]).flatten = List.replicate k v
  | 0 => rfl
  | k + 1 => by rw [List.replicate_succ, List.flatten_cons, rep_one v k, List.replicate_succ]; rfl
theorem pair_rep {α β : Type} {F : α → β → Prop} {v : α} {d : β} (h : F v d) : ∀ k : Nat, Paired F (List.replicate k v) (List.replicate k d)
  | 0 => .nil
  | k + 1 => .cons h (pair_rep h k)
theorem it_rep {k : Nat} {d : PyData} (hk : k ≤ 8) (hd : flD d) : itD (.tuple (List.replicate k d)) := ⟨by rw [List.length_replicate]; exact hk, fun x hx => by rw [List.eq_of_mem_replicate hx]; exact hd⟩
theorem it_repL {k : Nat} {d : PyData} (hk : k ≤ 8) (hd : flD d) : itD (.list (List.replicate k d)) := ⟨by rw [List.length_replicate]; exact hk, fun x hx => by rw [List.eq_of_mem_replicate hx]; exact hd⟩
theorem fl1 : flD (.int 1) := ⟨by decide, by decide⟩
theorem fl0 : flD (.int 0) := ⟨by decide, by decide⟩
theorem dpB_rep {K : PySem.W.Frag} {b l p : Addr} {H : Hp} {v : V} {d : PyData} {k : Nat} (hb : BagAt b l H) (h : SqT K H p (List.replicate k [v]).flatten) (hd : DpB K b H v d) : DpB K b H (.ref p) (.tuple (List.replicate k d)) := by
  rw [rep_one] at h
  exact DpB.tup hb h (pair_rep hd k)
theorem dpB_repL {K : PySem.W.Frag} {b p : Addr} {H : Hp} {v : V} {d : PyData} {k : Nat} (n : p ≠ b) (h : H p = some (.lst (List.replicate k [v]).flatten)) (hd : DpB K b H v d) : DpB K b H (.ref p) (.list (List.replicate k d)) := by
  rw [rep_one] at h
  exact DpB.lst h n (pair_rep hd k)
theorem bI {K : PySem.W.Frag} {b : Addr} {H : Hp} (i : Int) : DpB K b H (.int i) (.int i) := fun _ _ => .int i
theorem bB {K : PySem.W.Frag} {b : Addr} {H : Hp} (i : Bool) : DpB K b H (.bl i) (.bool i) := fun _ _ => .bl i
theorem bN {K : PySem.W.Frag} {b : Addr} {H : Hp} : DpB K b H .non .none := fun _ _ => .non
theorem bS {K : PySem.W.Frag} {b : Addr} {H : Hp} (x : Str) : DpB K b H (.str x) (.str x) := fun _ _ => .str x
/-- items that may stand in the list -/
def ItB (K : PySem.W.Frag) (b : Addr) (H : Hp) (v : V) : Prop := ∃ d, itD d ∧ DpB K b H v d
theorem ItB.but {K : PySem.W.Frag} {b : Addr} {H H1 : Hp} {v : V} (h : ItB K b H v) (k : But b H H1) : ItB K b H1 v := by
  obtain ⟨d, h1, h2⟩ := h
  exact ⟨d, h1, h2.but k⟩
theorem LateOk.but {K : PySem.W.Frag} {b : Addr} {H H1 : Hp} {v : V} (h : LateOk K b H v) (k : But b H H1) : LateOk K b H1 v := by
  obtain ⟨d, h1, h2⟩ := h
  exact ⟨d, h1, h2.but k⟩
/-- a list of items -/
theorem late_lst {K : PySem.W.Frag} {b a : Addr} {H : Hp} {vs : List V} (h : H a = some (.lst vs)) (n : a ≠ b) (hl : vs.length ≤ 20) (hi : ∀ v ∈ vs, ItB K b H v) : LateOk K b H (.ref a) := by
  have key : ∀ {vs : List V}, (∀ v ∈ vs, ItB K b H v) → ∃ ds : List PyData, (∀ d ∈ ds, itD d) ∧ Paired (DpB K b H) vs ds := by
    intro vs
    induction vs with
    | nil => exact fun _ => ⟨[], fun _ h => (by cases h), .nil⟩
    | cons v r ih =>
      intro hv
      obtain ⟨ds, h1, h2⟩ := ih fun x hx => hv x (List.mem_cons_of_mem _ hx)
      obtain ⟨d, h3, h4⟩ := hv v List.mem_cons_self
      refine ⟨d :: ds, fun x hx => ?_, .cons h4 h2⟩
      rcases List.mem_cons.mp hx with rfl | hx
      · exact h3
      · exact h1 x hx
  obtain ⟨ds, h1, h2⟩ := key hi
  exact ⟨.list ds, ⟨by rw [← Paired.length h2]; exact hl, h1⟩, DpB.lst h n h2⟩
theorem tups_it {K : PySem.W.Frag} {b l : Addr} {H : Hp} {w : Nat} (hw : w ≤ 7) (hb : BagAt b l H) : ∀ {vs : List V} {zss : List (List Int)}, TupsAt K H vs zss → (∀ zs ∈ zss, Vz w zs) → ∀ v ∈ vs, ItB K b H v
  | _, _, .nil, _, v, h => by cases h
  | _, _, @Paired.cons _ _ _ _ zs _ _ ⟨t, e, q⟩ r, hz, v, h => by
    rcases List.mem_cons.mp h with rfl | h
    · exact ⟨_, vz_it hw (hz zs List.mem_cons_self), by rw [e]; exact DpB.tup hb q (pairB_ints _)⟩
    · exact tups_it hw hb r (fun x hx => hz x (List.mem_cons_of_mem _ hx)) v h
section
variable {P : Program} {w : World} {K : PySem.W.Frag} {mg : Str → Option Value} {base : Heap} {f Co Ci Ct Cc Cm Cn fIi fIt Pt c : Addr} {fd : FuncData}
theorem c_rso (B : Blt mg) (W : RsC P w K mg base Co Ci Ct Cc Cm Cn fIi fIt) (D : DefAt K mg "_law_refused_so" (top 77) f fd) (hc : fd.code = .ref c) (TB : LamX.TabB base mg c Pt) : FnG P w K mg base (L2.CX P w) 9 f fd ["_law_bag", "_law_names_here", "_law_given"] (spRs K Pt) := by
  obtain ⟨_, _, Pu⟩ := W.pu
  obtain ⟨_, _, An⟩ := W.an
  obtain ⟨_, _, Lf⟩ := W.lf
  obtain ⟨_, _, Ow⟩ := W.ow
  obtain ⟨_, _, Lo⟩ := W.lo
  obtain ⟨_, _, Ld⟩ := W.ld
  obtain ⟨_, _, Lk⟩ := W.lk
  obtain ⟨fT, fdT, Ty⟩ := W.ty
  obtain ⟨fF, fdF, Fl, mF, kF, bF⟩ := W.fl
  have bT : Binds K fdT ["_law_ask"] [] := Ty.fn.bindsN (fun _ _ _ _ _ _ us hl => match us, hl with | [_], _ => rfl)
  obtain ⟨oc, od, dV, kV, doc, pm, an, cdv, ct, osl, rfl, lkT, hcT, _, _⟩ := Ty.fn.ex
  refine fnG_of D.fn scRs (fun vs H Q E h => ?_) (fun A outer s H vs Q E hr hG h => ?_)
  · obtain ⟨b, l, a, D, ns, gs, zss, rfl, _⟩ := h
    rfl
  · obtain ⟨b, l, a, D, ns, gs, zss, rfl, hb, ha, hn, h1, hD, nD, hT, hz12, hvz, hTab, q⟩ := h
    have r1 : Room 1 (A.deeper (envOfC "_law_refused_so" (defScope (top 77)) s.heap.objs.size f fd.code)) := hr.mono (by omega)
    have r2 : Room 2 (A.deeper (envOfC "_law_refused_so" (defScope (top 77)) s.heap.objs.size f fd.code)) := hr.mono (by omega)
    have r3 : Room 3 (A.deeper (envOfC "_law_refused_so" (defScope (top 77)) s.heap.objs.size f fd.code)) := hr.mono (by omega)
    have r4 : Room 4 (A.deeper (envOfC "_law_refused_so" (defScope (top 77)) s.heap.objs.size f fd.code)) := hr.mono (by omega)
    have hu : A.units + 3 + 70 < cLine := by have := hr.un; show A.units + 3 + 70 < cLine; have e : (A.deeper (envOfC "_law_refused_so" (defScope (top 77)) s.heap.objs.size f fd.code)).units = A.units + 3 := rfl; omega
    refine ⟨_, pss_cons (ps_asg (pe_tup (pa_cons (pe_cal Pu r1 (by rfl) (pa_cons (pv 0) (pa_cons pe_int pa_nil))) (pa_cons (pe_callTy call_list_of (by rfl) B.list (by decide +kernel) (pa_cons (pv 2) pa_nil)) (pa_cons (pe_callB call_len_seq (by rfl) B.len (by decide +kernel) (pa_cons (pv 1) pa_nil)) pa_nil))))
          (pg_tup rfl (pgs_cons (pg_name (i := 3) scRs.nd rfl (Or.inl rfl)) (pgs_cons (pg_name (i := 4) scRs.nd rfl (Or.inr rfl)) (pgs_cons (pg_name (i := 5) scRs.nd rfl (Or.inl rfl)) pgs_nil))) (by rfl)))
      (pss_cons (ps_set (i := 6) scRs.nd rfl (Or.inl rfl) (pe_cal Pu r1 (by rfl) (pa_cons (pv 0) (pa_cons (pe_op op_add (pe_callB call_len_seq (by rfl) B.len (by decide +kernel) (pa_cons (pv 4) pa_nil)) pe_int) pa_nil))))
      (pss_cons (ps_cut (ps_if (pt_cmpR op_eq (pv 3) pe_int (by rfl)) (pss_one (ps_set (i := 4) scRs.nd rfl (Or.inr rfl) (pe_cal An r2 (by rfl) (pa_cons (pv 0) (pa_cons (pe_lst (pa_cons pe_non (pa_cons pe_str (pa_cons pe_int (pa_cons (pe_tup (pa_cons pe_str pa_nil)) (pa_cons pe_bl
            (pa_cons (pe_lst (pa_cons (pe_op op_rep (pe_lst (pa_cons pe_int pa_nil)) (pv 5)) pa_nil)) (pa_cons (pe_op op_repN (pe_tup (pa_cons pe_int pa_nil)) (pv 5)) pa_nil)))))))) pa_nil))))) pss_nil))
      (pss_cons (ps_cut (ps_if (pt_cmpR op_eq (pv 3) pe_int (by rfl)) (pss_one (ps_set (i := 4) scRs.nd rfl (Or.inr rfl) (pe_op op_cat (pe_slice sl_list (pe_op op_cat (pv 4) (pe_op op_rep (pe_lst (pa_cons (pe_op op_repN (pe_tup (pa_cons pe_int pa_nil)) (pv 5)) pa_nil)) pe_int)) po_none (po_some pe_int))
            (pe_lst (pa_cons (pe_cal An r2 (by rfl) (pa_cons (pv 0) (pa_cons (pe_lst (pa_cons (pe_op op_repN (pe_tup (pa_cons pe_int pa_nil)) (pv 5)) (pa_cons pe_non pa_nil))) pa_nil))) pa_nil))))) pss_nil))
      (pss_cons (ps_cut (ps_if (pt_cmpR op_eq (pv 3) pe_int (by rfl)) (pss_one (ps_expr (pe_bm PySem.F.plainAttrs_list PySem.F.slot_list_insert PySem.F.type_list_insert mt_insert (pv 4) (pa_cons (pv 6) (pa_cons (pe_cal An r2 (by rfl) (pa_cons (pv 0) (pa_cons (pe_lst
            (pa_cons (pe_op op_repN (pe_tup (pa_cons pe_int pa_nil)) (pv 5)) (pa_cons (pe_op op_repN (pe_tup (pa_cons pe_int pa_nil)) (pe_op op_add (pv 5) pe_int)) (pa_cons (pe_op op_repN (pe_tup (pa_cons pe_int pa_nil)) (pe_op op_sub (pv 5) pe_int)) (pa_cons (pe_op op_repN (pe_tup (pa_cons pe_bl pa_nil)) (pv 5))
              (pa_cons pe_non (pa_cons (pe_op op_rep (pe_lst (pa_cons pe_int pa_nil)) (pv 5)) pa_nil))))))) pa_nil))) pa_nil))))) pss_nil))
      (pss_cons (ps_par (i := 7) (j := 8) rfl scRs.nd rfl rfl (by decide) rfl rfl (pa_cons (pe_callB (call_repr_dp hG hu) (by rfl) B.repr (by decide +kernel) (pa_cons (pv 4) pa_nil)) (pa_cons (pe_cal Lf r3 (by rfl) (pa_cons (pv 4) (pa_cons (pv 5) pa_nil))) pa_nil)) (by rfl))
      (pss_cons (ps_set (i := 9) scRs.nd rfl (Or.inl rfl) (LamX.pe_lamcall (T := [(Pt, qRs)]) (k := 6) (t := fun E => tCall (spOw K Co Ci Ct) [] E (tCons (tCall (spLo K Co) [] E0 (tCons (tVar 1) tNil)) (tCons (tVar 4) tNil))) (by rfl) Ty.gl Ty.fn.kp lkT hcT bT scTy rfl (Or.inl rfl)
          (try_gives W.mC W.mM W.mN Fl mF kF bF (L2H.roomH_of r2)) TB hc (List.mem_cons_self) (fun p hp _ => by rw [List.mem_singleton.mp hp]; rfl) hr (LamX.lamS_by (sc := defScope (top 77)) (by decide +kernel)) (by rfl) (by intros; rfl)
          (fun A2 o2 s2 H2 E2 f2 c2 hr2 => pe_calE (E := E2) Ow (hr2.mono (by omega)) (by rfl) (passes_call (takes_of rfl rfl rfl rfl) fun _ _ _ _ h => h) (pa_cons (pe_cal Lo hr2 (by rfl) (pa_cons (pv 1) pa_nil)) (pa_cons (pv 4) pa_nil)))))
      (pss_cons (ps_cut (ps_if (pt_cmpR op_isN (pv 8) pe_non (by rfl)) (pss_one (ps_set (i := 8) scRs.nd rfl (Or.inl rfl) (pe_tup (pa_cons pe_str (pa_cons (pe_cal Ld r1 (by rfl) (pa_cons (pv 1) (pa_cons (pv 4) pa_nil))) pa_nil))))) pss_nil))
      (pss_one (ps_ret (pe_and (pe_cal Lk r4 (by rfl) (pa_cons (pv 9) (pa_cons (pv 8) pa_nil))) (pe_one (pe_cmpR op_eq (pe_callB (call_repr_dp hG hu) (by rfl) B.repr (by decide +kernel) (pa_cons (pv 4) pa_nil)) (pv 7) (by rfl))))))))))))), ?_⟩
    have hw7 : ns.length ≤ 7 := hn.len
    have hgl : gs.length = zss.length := Paired.length hT
    refine ⟨_, rfl, b, l, 5, rfl, hb, by decide, by decide, fun H1 rd k1 hb1 rd0 rd5 => ?_⟩
    have hD1 := k1 _ _ nD hD
    refine ⟨_, rfl, D, gs, rfl, .inl (SqL.of hD1), fun L nL => ?_⟩
    have nLb := (hb1.ne nL).1
    have s2 : L2.Same H1 (upd H1 L (.lst gs)) := same_new nL
    have k2 : But b H (upd H1 L (.lst gs)) := k1.trans (But.of s2)
    have hb2 := hb1.same s2
    have eL2 : (upd H1 L (.lst gs)) L = some (.lst gs) := upd_same
    have ha2 : SqT K (upd H1 L (.lst gs)) a (ns.map V.str) := (ButT.of k2).sqT hb ha
    generalize upd H1 L (.lst gs) = H2 at s2 k2 hb2 eL2 ha2 ⊢
    refine ⟨_, rfl, a, _, rfl, .inr ha2, sz (show 3 ≤ 100000 by decide), fun t nt => ⟨t, _, rfl, SqT.of upd_same, rfl, _, _, rfl, _, _, rfl, _, _, rfl, rfl, ?_⟩⟩
    have s3 := same_new (o := .tup [.int rd, .ref L, .int ((ns.map V.str).length : Nat)]) nt
    have k3 := k2.trans (But.of s3)
    have hb3 := hb2.same s3
    have eL3 := s3 _ _ eL2
    have ha3 := Kb.Same.tup s3 ha2
    generalize upd H2 t (.tup [.int rd, .ref L, .int ((ns.map V.str).length : Nat)]) = H3 at s3 k3 hb3 eL3 ha3 ⊢
    rw [List.length_map]
    refine ⟨_, rfl, _, rfl, L, _, rfl, .inl (SqL.of eL3), _, _, rfl, rfl, b, l, _, rfl, hb3, by omega, by omega, fun H4 sp k4 hb4 sp0 sp1 => ?_⟩
    have k04 := k3.trans k4
    have eL4 := k4 _ _ nLb eL3
    have hT4 : TupsAt K H4 gs zss := TupsAt.butT hb (ButT.of k04) hT
    -- road 0
    refine ⟨fun σ' H' => ∃ v, σ' = [some (.ref b), some (.ref a), some (.ref D), some (.int rd), some v, some (.int (ns.length : Nat)), some (.int sp), none, none, none] ∧ But b H H' ∧ BagAt b l H' ∧
      ((rd = 0 ∧ LateOk K b H' v) ∨ (rd ≠ 0 ∧ v = .ref L ∧ H' L = some (.lst gs) ∧ TupsAt K H' gs zss)), ?_, ?_⟩
    · refine ⟨_, rfl, rfl, _, rfl, ?_⟩
      refine iteB (fun e => ?_) (fun e => ?_)
      · have erd : rd = 0 := V.int.inj (of_decide_eq_true e)
        refine ⟨_, rfl, sz (show 1 ≤ 100000 by decide), fun t1 n1 => ?_⟩
        have q1 := same_new (o := .tup [.str "a"]) n1
        refine ⟨sz (show 1 ≤ 100000 by decide), fun t2 n2 => ?_⟩
        have q2 := same_new (o := .lst [.int 1]) n2
        refine ⟨_, rfl, t2, _, _, rfl, rfl, upd_same, by omega, by omega, sz (by show 1 * ((ns.length : Int)).toNat ≤ 100000; omega), fun t3 n3 => ?_⟩
        have q3 := same_new (o := .lst (List.replicate ((ns.length : Int)).toNat [V.int 1]).flatten) n3
        refine ⟨sz (show 1 ≤ 100000 by decide), fun t4 n4 => ?_⟩
        have q4 := same_new (o := .lst [.ref t3]) n4
        refine ⟨sz (show 1 ≤ 100000 by decide), fun t5 n5 => ?_⟩
        have q5 := same_new (o := .tup [.int 1]) n5
        refine ⟨_, rfl, t5, ns.length, [.int 1], rfl, rfl, SqT.of upd_same, by simp, by omega, by show 1 ≤ 1000; decide, fun t6 H6 q6 e6 => ?_⟩
        refine ⟨sz (show 7 ≤ 100000 by decide), fun t7 n7 => ?_⟩
        have q7 := same_new (o := .lst [.non, .str "", .int 5, .ref t1, .bl true, .ref t4, .ref t6]) n7
        have q45 := q5.trans (q6.trans q7)
        have q34 := q4.trans q45
        have q23 := q3.trans q34
        have q02 := q2.trans q23
        have qA := q1.trans q02
        have hbA := hb4.same qA
        have kA := But.of (x := b) qA
        have nb3 : t3 ≠ b := (((hb4.same q1).same q2).ne n3).1
        have nb4 : t4 ≠ b := ((((hb4.same q1).same q2).same q3).ne n4).1
        have nb7 : t7 ≠ b := ((((((hb4.same q1).same q2).same q3).same q4).same q5).same q6 |>.ne n7).1
        refine ⟨b, l, _, rfl, hbA, .inl ⟨t7, _, rfl, SqB.lst upd_same nb7, by show 0 < 7; decide, by show 7 ≤ 1000; decide, fun H8 x k8 hb8 hx => ?_⟩⟩
        refine ⟨_, rfl, k04.trans (kA.trans k8), hb8, .inl ⟨erd, ?_⟩⟩
        have eT1 := SqT.of (K := K) (q02 _ _ upd_same)
        have e3 := q34 _ _ upd_same
        have e4 := q45 _ _ upd_same
        have e6' := Kb.Same.tup q7 e6
        simp only [List.mem_cons, List.not_mem_nil, or_false] at hx
        rcases hx with rfl | rfl | rfl | rfl | rfl | rfl | rfl
        · exact ⟨.none, True.intro, bN⟩
        · exact ⟨.str "", .inl rfl, bS _⟩
        · exact ⟨.int 5, ⟨by decide, by decide⟩, bI 5⟩
        · refine ⟨.tuple [.str "a"], ⟨by show 1 ≤ 20; decide, fun d hd => ?_⟩, (DpB.tup hbA eT1 (.cons (bS _) .nil)).but k8⟩
          rw [List.mem_singleton.mp hd]
          exact .inr rfl
        · exact ⟨.bool true, True.intro, bB true⟩
        · refine ⟨.list [.list (List.replicate ((ns.length : Int)).toNat (.int 1))], ⟨by show 1 ≤ 20; decide, fun d hd => ?_⟩, (DpB.lst e4 nb4 (.cons (dpB_repL nb3 e3 (bI 1)) .nil)).but k8⟩
          rw [List.mem_singleton.mp hd]
          exact it_repL (by omega) fl1
        · refine ⟨.tuple (List.replicate ns.length (.int 1)), ⟨by rw [List.length_replicate]; omega, fun d hd => ?_⟩, (dpB_rep hbA e6' (bI 1)).but k8⟩
          rw [List.eq_of_mem_replicate hd]
          exact fl1
      · refine ⟨_, rfl, k04, hb4, .inr ⟨fun z => ?_, rfl, eL4, hT4⟩⟩
        rw [z] at e
        cases e
    · rintro σ' H5 ⟨v5, rfl, k5, hb5, h5⟩
      -- road 1
      refine ⟨fun σ' H' => ∃ v, σ' = [some (.ref b), some (.ref a), some (.ref D), some (.int rd), some v, some (.int (ns.length : Nat)), some (.int sp), none, none, none] ∧ But b H H' ∧ BagAt b l H' ∧
        ((rd ≠ 2 ∧ LateOk K b H' v) ∨ (v = .ref L ∧ H' L = some (.lst gs) ∧ TupsAt K H' gs zss)), ?_, ?_⟩
      · refine ⟨_, rfl, rfl, _, rfl, ?_⟩
        refine iteB (fun e => ?_) (fun e => ?_)
        · have erd : rd = 1 := V.int.inj (of_decide_eq_true e)
          rcases h5 with ⟨z, _⟩ | ⟨_, rfl, eL5, hT5⟩
          · omega
          refine ⟨_, rfl, sz (show 1 ≤ 100000 by decide), fun t1 n1 => ?_⟩
          have q1 := same_new (o := .tup [.int 1]) n1
          refine ⟨_, rfl, t1, ns.length, [.int 1], rfl, rfl, SqT.of upd_same, by simp, by omega, by show 1 ≤ 1000; decide, fun t2 H6 q2 e2 => ?_⟩
          have q02 := q1.trans q2
          refine ⟨sz (show 1 ≤ 100000 by decide), fun t3 n3 => ?_⟩
          have q3 := same_new (o := .lst [.ref t2]) n3
          refine ⟨t3, 12, _, rfl, rfl, upd_same, by decide, by decide, sz (by show 1 * 12 ≤ 100000; decide), fun t4 n4 => ?_⟩
          have q4 := same_new (o := .lst (List.replicate (12 : Int).toNat [V.ref t2]).flatten) n4
          have q04 := q02.trans (q3.trans q4)
          have e12 : (List.replicate (12 : Int).toNat [V.ref t2]).flatten = List.replicate 12 (V.ref t2) := rep_one _ 12
          refine ⟨L, t4, gs, _, rfl, rfl, q04 _ _ eL5, upd_same, sz (by rw [e12, List.length_replicate]; omega), fun t5 n5 => ?_⟩
          have q5 := same_new (o := .lst (gs ++ (List.replicate (12 : Int).toNat [V.ref t2]).flatten)) n5
          refine ⟨12, rfl, t5, _, rfl, SqL.of upd_same, fun t6 n6 => ?_⟩
          have q6 := same_new (o := .lst (cutV (gs ++ (List.replicate (12 : Int).toNat [V.ref t2]).flatten) none (some 12))) n6
          have q06 := q04.trans (q5.trans q6)
          have ecut : cutV (gs ++ (List.replicate (12 : Int).toNat [V.ref t2]).flatten) none (some 12) = (gs ++ List.replicate 12 (V.ref t2)).take 12 := by
            rw [e12]
            unfold cutV
            rw [HT.sIx_none, show ((12 : Int)) = ((12 : Nat) : Int) from rfl, HT.sIx_nat, List.length_append, List.length_replicate, Nat.min_eq_left (by omega)]
            rfl
          rw [ecut] at q6 q06 ⊢
          have hb06 := hb5.same q06
          have e6 := Kb.Same.tup (q3.trans (q4.trans (q5.trans q6))) e2
          have nb6 := (((((hb5.same q02).same q3).same q4).same q5).ne n6).1
          have eT6 : (upd (upd (upd (upd H6 t3 (.lst [.ref t2])) t4 (.lst (List.replicate (12 : Int).toNat [V.ref t2]).flatten)) t5 (.lst (gs ++ (List.replicate (12 : Int).toNat [V.ref t2]).flatten))) t6 (.lst ((gs ++ List.replicate 12 (V.ref t2)).take 12))) t6 = some (.lst ((gs ++ List.replicate 12 (V.ref t2)).take 12)) := upd_same
          have hT6 : TupsAt K _ gs zss := TupsAt.butT hb5 (ButT.of (But.of q06)) hT5
          generalize (upd (upd (upd (upd H6 t3 (.lst [.ref t2])) t4 (.lst (List.replicate (12 : Int).toNat [V.ref t2]).flatten)) t5 (.lst (gs ++ (List.replicate (12 : Int).toNat [V.ref t2]).flatten))) t6 (.lst ((gs ++ List.replicate 12 (V.ref t2)).take 12))) = H7 at q06 hb06 e6 eT6 hT6 ⊢
          refine ⟨_, rfl, sz (show 1 ≤ 100000 by decide), fun t7 n7 => ?_⟩
          have q7 := same_new (o := .tup [.int 1]) n7
          refine ⟨_, rfl, t7, ns.length, [.int 1], rfl, rfl, SqT.of upd_same, by simp, by omega, by show 1 ≤ 1000; decide, fun t8 H9 q8 e8 => ?_⟩
          refine ⟨sz (show 2 ≤ 100000 by decide), fun t9 n9 => ?_⟩
          have q9 := same_new (o := .lst [.ref t8, .non]) n9
          have qA := q7.trans (q8.trans q9)
          have hbA := hb06.same qA
          have kA := k5.trans ((But.of q06).trans (But.of qA))
          have nb9 := (((hb06.same q7).same q8).ne n9).1
          have e8' := Kb.Same.tup q9 e8
          refine ⟨b, l, _, rfl, hbA, .inl ⟨t9, _, rfl, SqB.lst upd_same nb9, by show 0 < 2; decide, by show 2 ≤ 1000; decide, fun H10 x k10 hb10 hx => ?_⟩⟩
          have hxI : ItB K b H10 x := by
            simp only [List.mem_cons, List.not_mem_nil, or_false] at hx
            rcases hx with rfl | rfl
            · exact ⟨_, it_rep (k := ns.length) (by omega) fl1, (dpB_rep hbA e8' (bI 1)).but k10⟩
            · exact ⟨.none, True.intro, bN⟩
          have e10 := k10 _ _ nb6 (qA _ _ eT6)
          refine ⟨sz (show 1 ≤ 100000 by decide), fun t11 n11 => ?_⟩
          have q11 := same_new (o := .lst [x]) n11
          have hlen : ((gs ++ List.replicate 12 (V.ref t2)).take 12).length = 12 := by rw [List.length_take, List.length_append, List.length_replicate]; omega
          refine ⟨t6, t11, _, _, rfl, rfl, q11 _ _ e10, upd_same, sz (by rw [hlen]; show 12 + 1 ≤ 100000; decide), fun t12 n12 => ?_⟩
          have q12 := same_new (o := .lst ((gs ++ List.replicate 12 (V.ref t2)).take 12 ++ [x])) n12
          have qZ := q11.trans q12
          have nb12 := ((hb10.same q11).ne n12).1
          refine ⟨_, rfl, kA.trans (k10.trans (But.of qZ)), hb10.same qZ, .inl ⟨by rw [erd]; decide, late_lst upd_same nb12 (by rw [List.length_append, hlen]; show 12 + 1 ≤ 20; decide) fun v hv => ?_⟩⟩
          rcases List.mem_append.mp hv with h | h
          · have h2 := List.mem_of_mem_take h
            rcases List.mem_append.mp h2 with h3 | h3
            · exact (tups_it hw7 hb06 hT6 hvz v h3).but ((But.of qA).trans (k10.trans (But.of qZ)))
            · rw [List.eq_of_mem_replicate h3]
              exact ItB.but ⟨_, it_rep (k := ns.length) (by omega) fl1, dpB_rep hb06 e6 (bI 1)⟩ ((But.of qA).trans (k10.trans (But.of qZ)))
          · rw [List.mem_singleton.mp h]
            exact hxI.but (But.of qZ)
        · rcases h5 with ⟨rfl, h5⟩ | ⟨_, rfl, eL5, hT5⟩
          · exact ⟨_, rfl, k5, hb5, .inl ⟨by decide, h5⟩⟩
          · exact ⟨_, rfl, k5, hb5, .inr ⟨rfl, eL5, hT5⟩⟩
      · rintro σ' H6 ⟨v6, rfl, k6, hb6, h6⟩
        -- road 2
        refine ⟨fun σ' H' => ∃ v, σ' = [some (.ref b), some (.ref a), some (.ref D), some (.int rd), some v, some (.int (ns.length : Nat)), some (.int sp), none, none, none] ∧ But b H H' ∧ BagAt b l H' ∧ LateOk K b H' v, ?_, ?_⟩
        · refine ⟨_, rfl, rfl, _, rfl, ?_⟩
          refine iteB (fun e => ?_) (fun e => ?_)
          · have erd : rd = 2 := V.int.inj (of_decide_eq_true e)
            rcases h6 with ⟨z, _⟩ | ⟨rfl, eL6, hT6⟩
            · exact absurd erd z
            refine ⟨_, rfl, .inl ⟨rfl, gs, SqL.of eL6⟩, _, rfl, ?_⟩
            refine ⟨_, rfl, sz (show 1 ≤ 100000 by decide), fun t1 n1 => ?_⟩
            have q1 := same_new (o := .tup [.int 0]) n1
            refine ⟨_, rfl, t1, ns.length, [.int 0], rfl, rfl, SqT.of upd_same, by simp, by omega, by show 1 ≤ 1000; decide, fun u1 G1 p1 e1 => ?_⟩
            refine ⟨sz (show 1 ≤ 100000 by decide), fun t2 n2 => ?_⟩
            have q2 := same_new (o := .tup [.int 1]) n2
            refine ⟨_, rfl, _, _, rfl, rfl, t2, ns.length + 1, [.int 1], rfl, rfl, SqT.of upd_same, by simp, by omega, by show 1 ≤ 1000; decide, fun u2 G2 p2 e2 => ?_⟩
            refine ⟨sz (show 1 ≤ 100000 by decide), fun t3 n3 => ?_⟩
            have q3 := same_new (o := .tup [.int 1]) n3
            refine ⟨_, rfl, _, _, rfl, rfl, t3, ns.length - 1, [.int 1], rfl, congrArg V.int (by omega), SqT.of upd_same, by simp, by omega, by show 1 ≤ 1000; decide, fun u3 G3 p3 e3 => ?_⟩
            refine ⟨sz (show 1 ≤ 100000 by decide), fun t4 n4 => ?_⟩
            have q4 := same_new (o := .tup [.bl true]) n4
            refine ⟨_, rfl, t4, ns.length, [.bl true], rfl, rfl, SqT.of upd_same, by simp, by omega, by show 1 ≤ 1000; decide, fun u4 G4 p4 e4 => ?_⟩
            refine ⟨sz (show 1 ≤ 100000 by decide), fun t5 n5 => ?_⟩
            have q5 := same_new (o := .lst [.int 1]) n5
            refine ⟨_, rfl, t5, _, _, rfl, rfl, upd_same, by omega, by omega, sz (by show 1 * ((ns.length : Int)).toNat ≤ 100000; omega), fun t6 n6 => ?_⟩
            have q6 := same_new (o := .lst (List.replicate ((ns.length : Int)).toNat [V.int 1]).flatten) n6
            refine ⟨sz (show 6 ≤ 100000 by decide), fun t7 n7 => ?_⟩
            have q7 := same_new (o := .lst [.ref u1, .ref u2, .ref u3, .ref u4, .non, .ref t6]) n7
            have z4 := q5.trans (q6.trans q7)
            have z3 := (q4.trans p4).trans z4
            have z2 := (q3.trans p3).trans z3
            have z1 := (q2.trans p2).trans z2
            have z0 := (q1.trans p1).trans z1
            have hbA := hb6.same z0
            have nb6 : t6 ≠ b := ((((hb6.same (q1.trans p1)).same (q2.trans p2)).same ((q3.trans p3).trans (q4.trans p4))).same q5 |>.ne n6).1
            have nb7 : t7 ≠ b := ((((hb6.same (q1.trans p1)).same (q2.trans p2)).same ((q3.trans p3).trans (q4.trans p4))).same (q5.trans q6) |>.ne n7).1
            have eLA := z0 _ _ eL6
            have e1A := Kb.Same.tup z1 e1
            have e2A := Kb.Same.tup z2 e2
            have e3A := Kb.Same.tup z3 e3
            have e4A := Kb.Same.tup z4 e4
            have e6A := q7 _ _ (upd_same (H := upd G4 t5 (.lst [.int 1])) (a := t6) (o := .lst (List.replicate ((ns.length : Int)).toNat [V.int 1]).flatten))
            have nL6 : t6 ≠ L := Ne.symm (ne_of_none (((((q1.trans p1).trans (q2.trans p2)).trans ((q3.trans p3).trans (q4.trans p4))).trans q5) _ _ eL6) n6)
            have kA := k6.trans (But.of z0)
            have hTA : TupsAt K _ gs zss := TupsAt.butT hb6 (ButT.of (But.of z0)) hT6
            refine ⟨b, l, _, rfl, hbA, .inl ⟨t7, _, rfl, SqB.lst upd_same nb7, by show 0 < 6; decide, by show 6 ≤ 1000; decide, fun H10 x k10 hb10 hx => ?_⟩⟩
            have eL10 := k10 _ _ nLb eLA
            have nl := (hb1.ne nL).2
            have nL0 : H L = none := by
              cases e : H L with
              | none => rfl
              | some o =>
                have := k1 _ _ nLb e
                rw [this] at nL
                cases nL
            refine ⟨L, gs, sp, x, rfl, rfl, eL10, sz (by omega), sp0, by omega, ?_⟩
            have kN : But L H10 (upd H10 L (.lst (gs.take sp.toNat ++ [x] ++ gs.drop sp.toNat))) := fun c o n e => by
              rw [upd_ne n]
              exact e
            have sqN : ∀ {t : Addr} {xs : List V}, SqT K H10 t xs → SqT K (upd H10 L (.lst (gs.take sp.toNat ++ [x] ++ gs.drop sp.toNat))) t xs := fun h => kN.sqT (fun _ z => by rw [eL10] at z; cases z) (fun _ _ z => by rw [eL10] at z; cases z) h
            have hbN := hb10.put (o := .lst (gs.take sp.toNat ++ [x] ++ gs.drop sp.toNat)) nLb nl
            refine ⟨_, rfl, but_put (kA.trans k10) nL0, hbN, late_lst upd_same nLb (by rw [List.length_append, List.length_append, List.length_take, List.length_drop]; show _ + 1 + _ ≤ 20; omega) fun v hv => ?_⟩
            have hT10 : TupsAt K (upd H10 L (.lst (gs.take sp.toNat ++ [x] ++ gs.drop sp.toNat))) gs zss := Paired.mapP (TupsAt.butT hbA (ButT.of k10) hTA) fun _ _ ⟨t, e, g⟩ => ⟨t, e, sqN g⟩
            have hg : v ∈ gs ∨ v = x := by
              rcases List.mem_append.mp hv with h | h
              · rcases List.mem_append.mp h with h | h
                · exact .inl (List.mem_of_mem_take h)
                · exact .inr (List.mem_singleton.mp h)
              · exact .inl (List.mem_of_mem_drop h)
            rcases hg with hg | rfl
            · exact tups_it hw7 hbN hT10 hvz v hg
            · simp only [List.mem_cons, List.not_mem_nil, or_false] at hx
              rcases hx with rfl | rfl | rfl | rfl | rfl | rfl
              · exact ⟨_, it_rep (k := ns.length) (by omega) fl0, dpB_rep hbN (sqN (k10.sqTb hbA e1A)) (bI 0)⟩
              · exact ⟨_, it_rep (k := ns.length + 1) (by omega) fl1, dpB_rep hbN (sqN (k10.sqTb hbA e2A)) (bI 1)⟩
              · exact ⟨_, it_rep (k := ns.length - 1) (by omega) fl1, dpB_rep hbN (sqN (k10.sqTb hbA e3A)) (bI 1)⟩
              · exact ⟨_, it_rep (k := ns.length) (d := .bool true) (by omega) True.intro, dpB_rep hbN (sqN (k10.sqTb hbA e4A)) (bB true)⟩
              · exact ⟨.none, True.intro, bN⟩
              · exact ⟨_, it_repL (k := ((ns.length : Int)).toNat) (by omega) fl1, dpB_repL nb6 (kN _ _ nL6 (k10 _ _ nb6 e6A)) (bI 1)⟩
          · rcases h6 with ⟨_, h6⟩ | ⟨rfl, eL6, hT6⟩
            · exact ⟨_, rfl, k6, hb6, h6⟩
            · exact ⟨_, rfl, k6, hb6, late_lst eL6 nLb (by omega) (tups_it hw7 hb6 hT6 hvz)⟩
        · rintro σ' H7 ⟨v7, rfl, k7, hb7, d, hd, hdb⟩
          have hTab7 : LamX.Tabs [(Pt, qRs)] H7 := tabs_but hTab hb k7
          have ha7 := k7.sqTb hb ha
          obtain ⟨hsm, hbd⟩ := giv_sb hd
          have dp7 := hdb.now
          refine ⟨_, rfl, v7, d, rfl, dp7, hd.gd, ?_⟩
          refine ⟨_, rfl, _, rfl, v7, ns.length, givD d, rfl, giv_dp hd dp7, hsm, hbd, ⟨by omega, hw7⟩, ?_⟩
          have hnd : (srt ns).Nodup := srt_nd hn.nd
          have hle : (srt ns).length = ns.length := srt_len ns
          cases hfa : fault ns.length (givD d) with
          | none =>
            intro H8 s8
            refine ⟨_, _, rfl, hTab7.ext s8, fun H9 k9 hTab9 => ?_⟩
            have hb9 := (hb7.same s8).ext k9
            have ha9 := ext_sqT k9 (Kb.Same.tup s8 ha7)
            have dp9 := dp_ext k9 _ _ (dp_same s8 _ _ dp7)
            have k09 : ButT b H H9 := ((ButT.of k7).trans (ButT.of (But.of s8))).trans (ButT.ext k9)
            obtain ⟨fs, hv9, hfl, hok⟩ := good_vecs hnd hle hd hfa dp9
            refine ⟨_, rfl, a, ns, rfl, .inr ha9, hn, h1, fun H10 vo s10 ho => ?_⟩
            refine ⟨_, rfl, vo, v7, ns, rfl, ho, hn, h1, .inr ⟨fs, hv9.same s10, hfl, hok, fun H11 t11 s11 e11 => ?_⟩⟩
            refine ⟨sz (show 2 ≤ 100000 by decide), fun t12 n12 => ?_⟩
            have s12 := same_new (o := .tup [.str "", .ref t11]) n12
            have sA := s10.trans (s11.trans s12)
            have hbA := hb9.same sA
            have haA := Kb.Same.tup sA ha9
            have dpA := dp_same sA _ _ dp9
            have hTabA := hTab9.ext sA
            have hvA := hv9.same sA
            have kA := k09.trans (ButT.of (But.of sA))
            have toldA : Dp K (upd H11 t12 (.tup [.str "", .ref t11])) (.ref t12) (.tuple [.str "", .tuple ((wts ns fs).map PyData.int)]) := .tup (SqT.of upd_same) (.cons (.str _) (.cons (.tup (SqT.of (s12 _ _ e11)) (dp_ints _)) .nil))
            generalize upd H11 t12 (.tup [.str "", .ref t11]) = HA at sA hbA haA dpA hTabA hvA kA toldA ⊢
            refine ⟨fun σ' H' => ∃ tv x dd, σ' = [some (.ref b), some (.ref a), some (.ref D), some (.int rd), some v7, some (.int (ns.length : Nat)), some (.int sp), some (.str d.shown), some x, some tv] ∧ ButT b H H' ∧ BagAt b l H' ∧ LamX.Tabs [(Pt, qRs)] H' ∧ Dp K H' v7 d ∧ Dp K H' tv dd ∧ Dp K H' x dd ∧ okD 3 dd, ?_, ?_⟩
            · refine ⟨_, rfl, rfl, true, rfl, iteT ?_⟩
              refine ⟨_, rfl, _, rfl, a, v7, ns, fs, rfl, haA, hn, h1, hvA, hfl, hok, fun HB tB sB eB => ?_⟩
              refine ⟨sz (show 2 ≤ 100000 by decide), fun tC nC => ?_⟩
              have sC := same_new (o := .tup [.str "", .ref tB]) nC
              have sD := sB.trans sC
              refine ⟨_, _, _, rfl, kA.trans (ButT.of (But.of sD)), hbA.same sD, hTabA.ext sD, dp_same sD _ _ dpA, dp_same sD _ _ toldA, .tup (SqT.of upd_same) (.cons (.str _) (.cons (.tup (SqT.of (sC _ _ eB)) (dp_ints _)) .nil)), ?_⟩
              refine ⟨by show 2 ≤ 1000; decide, fun x hx => ?_⟩
              simp only [List.mem_cons, List.not_mem_nil, or_false] at hx
              rcases hx with rfl | rfl
              · exact True.intro
              · exact ok_ints _ (by rw [wts, List.length_map, hle]; omega) _
            · rintro σ' HZ ⟨tv, x, dd, rfl, kZ, hbZ, hTabZ, dpZ, d1, d2, ok⟩
              refine ⟨_, rfl, _, rfl, ⟨tv, x, dd, rfl, d1, d2, ok⟩, fun HY sY => ⟨true, rfl, iteT ?_⟩⟩
              refine ⟨_, rfl, v7, d, rfl, dp_same sY _ _ dpZ, hd.gd, _, rfl, rfl, ?_⟩
              rw [decide_eq_true rfl]
              exact q HY (kZ.trans (ButT.of (But.of sY))) (hbZ.same sY) (hTabZ.ext sY)
          | some x =>
            intro H8 t8 s8 e8
            refine ⟨_, _, rfl, hTab7.ext s8, fun H9 k9 hTab9 => ?_⟩
            have hb9 := (hb7.same s8).ext k9
            have ha9 := ext_sqT k9 (Kb.Same.tup s8 ha7)
            have dp9 := dp_ext k9 _ _ (dp_same s8 _ _ dp7)
            have k09 : ButT b H H9 := ((ButT.of k7).trans (ButT.of (But.of s8))).trans (ButT.ext k9)
            have e9 : H9 t8 = some (.tup x.vals) := k9 _ _ e8 (fun _ z => nomatch z)
            refine ⟨_, rfl, a, ns, rfl, .inr ha9, hn, h1, fun H10 vo s10 ho => ?_⟩
            refine ⟨_, rfl, vo, v7, ns, rfl, ho, hn, h1, .inl ⟨givD d, x, (giv_dp hd dp9).same s10, hsm, hfa, ?_⟩⟩
            have post : ∀ (code : Str) (y : Int) (r : Addr) (H2 : Hp), x.vals = [.str code, .int y] → L2.Same H10 H2 → H2 r = some (.tup [.str code, .int y]) →
                (Dp K H2 (.ref r) (.tuple [.str code, .int y]) ∧ Dp K H2 (.ref t8) (.tuple [.str code, .int y]) ∧ ButT b H H2 ∧ BagAt b l H2 ∧ LamX.Tabs [(Pt, qRs)] H2 ∧ Dp K H2 v7 d) := fun code y r H2 hx s2 e2 => by
              have sA := s10.trans s2
              refine ⟨.tup (SqT.of e2) (.cons (.str _) (.cons (.int _) .nil)), .tup (SqT.of (sA _ _ e9)) (by rw [hx]; exact .cons (.str _) (.cons (.int _) .nil)), k09.trans (ButT.of (But.of sA)), hb9.same sA, hTab9.ext sA, dp_same sA _ _ dp9⟩
            have ok2 : ∀ (code : Str) (y : Int), okD 3 (.tuple [.str code, .int y]) := fun code y => ⟨by show 2 ≤ 1000; decide, fun x hx => by
              simp only [List.mem_cons, List.not_mem_nil, or_false] at hx
              rcases hx with rfl | rfl <;> exact True.intro⟩
            cases x with
            | «at» i =>
              intro dd H11 n11 s11 e11
              refine ⟨W.xi, Ci, dd, "InvalidVector", "at", .int i, rfl, rfl, e11, W.Ti, W.Gi.nc, W.Gi.nf, .inl ⟨rfl, rfl⟩, fun r H2 s2 e2 => ?_⟩
              obtain ⟨dr, dt, kA, hbA, hTabA, dpA⟩ := post "InvalidVector" i r H2 rfl (s11.trans s2) e2
              refine ⟨fun σ' H' => ∃ tv x dd, σ' = [some (.ref b), some (.ref a), some (.ref D), some (.int rd), some v7, some (.int (ns.length : Nat)), some (.int sp), some (.str d.shown), some x, some tv] ∧ ButT b H H' ∧ BagAt b l H' ∧ LamX.Tabs [(Pt, qRs)] H' ∧ Dp K H' v7 d ∧ Dp K H' tv dd ∧ Dp K H' x dd ∧ okD 3 dd, ?_, ?_⟩
              · exact ⟨_, rfl, rfl, false, rfl, iteF ⟨_, _, _, rfl, kA, hbA, hTabA, dpA, dr, dt, ok2 _ _⟩⟩
              · rintro σ' HZ ⟨tv, x, dd, rfl, kZ, hbZ, hTabZ, dpZ, d1, d2, ok⟩
                refine ⟨_, rfl, _, rfl, ⟨tv, x, dd, rfl, d1, d2, ok⟩, fun HY sY => ⟨true, rfl, iteT ?_⟩⟩
                refine ⟨_, rfl, v7, d, rfl, dp_same sY _ _ dpZ, hd.gd, _, rfl, rfl, ?_⟩
                rw [decide_eq_true rfl]
                exact q HY (kZ.trans (ButT.of (But.of sY))) (hbZ.same sY) (hTabZ.ext sY)
            | many =>
              intro dd H11 n11 s11 e11
              refine ⟨W.xt, Ct, dd, "TooMany", "most", .int 12, rfl, rfl, e11, W.Tt, W.Gt.nc, W.Gt.nf, .inr ⟨rfl, rfl⟩, fun r H2 s2 e2 => ?_⟩
              obtain ⟨dr, dt, kA, hbA, hTabA, dpA⟩ := post "TooMany" 12 r H2 rfl (s11.trans s2) e2
              refine ⟨fun σ' H' => ∃ tv x dd, σ' = [some (.ref b), some (.ref a), some (.ref D), some (.int rd), some v7, some (.int (ns.length : Nat)), some (.int sp), some (.str d.shown), some x, some tv] ∧ ButT b H H' ∧ BagAt b l H' ∧ LamX.Tabs [(Pt, qRs)] H' ∧ Dp K H' v7 d ∧ Dp K H' tv dd ∧ Dp K H' x dd ∧ okD 3 dd, ?_, ?_⟩
              · exact ⟨_, rfl, rfl, false, rfl, iteF ⟨_, _, _, rfl, kA, hbA, hTabA, dpA, dr, dt, ok2 _ _⟩⟩
              · rintro σ' HZ ⟨tv, x, dd, rfl, kZ, hbZ, hTabZ, dpZ, d1, d2, ok⟩
                refine ⟨_, rfl, _, rfl, ⟨tv, x, dd, rfl, d1, d2, ok⟩, fun HY sY => ⟨true, rfl, iteT ?_⟩⟩
                refine ⟨_, rfl, v7, d, rfl, dp_same sY _ _ dpZ, hd.gd, _, rfl, rfl, ?_⟩
                rw [decide_eq_true rfl]
                exact q HY (kZ.trans (ButT.of (But.of sY))) (hbZ.same sY) (hTabZ.ext sY)
end
end Kb
/-! _law_draws, law. -/
namespace Kb
open PySem PySem.Spec PyProof.Rows L2
section
variable {P : Program} {w : World} {K : PySem.W.Frag} {mg : Str → Option Value} {base : Heap} {f Co Ci Ct Cc Cm Cn fIi fIt Pt c : Addr} {fd : FuncData}
abbrev nDr : List Str := ["_law_script", "_law_seed", "_law_cell"]
theorem scDr : FnScope nDr ["_law_script"] (defScope (top 56)) := ⟨rfl, rfl, rfl, by decide +kernel, rfl, by decide +kernel, by decide +kernel⟩
def spDr (K : PySem.W.Frag) : Sp := fun vs H Q _ => ∃ (a : Addr) (zs : List Int), vs = [.ref a] ∧ SqL K H a (zs.map V.int) ∧ zs.length ≤ 1000 ∧ ∀ H' b l, L2.Same H H' → BagAt b l H' → Q (.ref b) H'
theorem cut_map {xs : List Int} {lo hi : Option Int} : ∃ ys : List Int, cutV (xs.map V.int) lo hi = ys.map V.int ∧ ys.length ≤ xs.length := by
  refine ⟨(xs.drop (HT.sIx xs.length 0 lo)).take (HT.sIx xs.length xs.length hi - HT.sIx xs.length 0 lo), ?_, ?_⟩
  · unfold cutV
    rw [List.length_map, List.map_take, List.map_drop]
  · rw [List.length_take, List.length_drop]
    omega
theorem c_draws (B : Blt mg) (D : DefAt K mg "_law_draws" (top 56) f fd) : Cal P w K mg base 1 "_law_draws" ["_law_script"] (spDr K) f fd := by
  refine D.cal scDr (fun _ _ _ _ _ _ us hl => match us, hl with | [_], _ => rfl) (fun vs H Q E h => ?_) (fun cdv A outer s H vs Q E hr h => ?_)
  · obtain ⟨a, zs, rfl, _⟩ := h
    rfl
  · obtain ⟨a, zs, rfl, ha, hz, q⟩ := h
    refine ⟨_, pss_cons (ps_set (i := 1) scDr.nd rfl (Or.inl rfl) pe_int)
      (pss_cons (ps_for PassesOwn.never rfl (pi_list (pe_slice sl_list (pv 0) po_none (po_some pe_int))) (pg_name (i := 2) scDr.nd rfl (Or.inl rfl))
        (pss_one (ps_set (i := 1) scDr.nd rfl (Or.inl rfl) (pe_op op_mod (pe_callTy call_int1 (by rfl) B.int (by decide +kernel) (pa_cons (pe_op op_add (pe_op op_add (pe_op op_mul (pv 1) pe_int) (pe_op op_mod (pe_callTy call_int1 (by rfl) B.int (by decide +kernel) (pa_cons (pv 2) pa_nil)) pe_int)) pe_int) pa_nil)) pe_int))))
      (pss_one (ps_ret (pe_lst (pa_cons (pe_callTy call_list_of (by rfl) B.list (by decide +kernel) (pa_cons (pe_slice sl_list (pv 0) po_none (po_some pe_int)) pa_nil)) (pa_cons pe_int (pa_cons pe_int (pa_cons (pv 1) (pa_cons pe_int pa_nil))))))))), ?_⟩
    obtain ⟨ys, ey, hy⟩ := cut_map (xs := zs) (lo := none) (hi := some 63)
    refine ⟨_, rfl, 63, rfl, a, _, rfl, ha, fun p np => ⟨p, rfl, ⟨_, SqL.of upd_same⟩, ?_⟩⟩
    rw [ey]
    have s1 : L2.Same H (upd H p (.lst (ys.map V.int))) := same_new np
    have ep : (upd H p (.lst (ys.map V.int))) p = some (.lst (ys.map V.int)) := upd_same
    generalize upd H p (.lst (ys.map V.int)) = H1 at s1 ep ⊢
    refine forI (srcL p (ys.map V.int)) (fun i σ H' => (∃ (sd : Int) (y : Option V), σ = [some (.ref a), some (.int sd), y] ∧ 0 ≤ sd ∧ sd < 2147483587) ∧ L2.Same H H' ∧ H' p = some (.lst (ys.map V.int))) ⟨⟨34127, none, rfl, by decide, by decide⟩, s1, ep⟩ (fun _ _ _ _ hP => SqL.of hP.2.2) (fun i x σ H4 H5 hi hP s45 hR => ?_) (fun σ H4 hP => ?_)
    · obtain ⟨⟨sd, y, rfl, d0, d1⟩, s4, ep4⟩ := hP
      rw [List.getElem?_map] at hR
      obtain ⟨z, hz2, rfl⟩ := Option.map_eq_some_iff.mp hR
      refine ⟨_, rfl, _, _, rfl, rfl, .inr ⟨by decide, by decide⟩, _, rfl, .inl ⟨_, rfl, _, _, rfl, rfl, (show (0 : Int) < 2147483489 by decide), _, _, rfl, rfl, _, _, rfl, rfl, .inl ⟨_, rfl, _, _, rfl, rfl, (show (0 : Int) < 2147483587 by decide), ?_⟩⟩⟩
      exact ⟨⟨_, _, rfl, Int.emod_nonneg _ (by decide), Int.emod_lt_of_pos _ (by decide)⟩, s4.trans s45, s45 _ _ ep4⟩
    · obtain ⟨⟨sd, y, rfl, d0, d1⟩, s4, ep4⟩ := hP
      refine ⟨_, rfl, 63, rfl, a, _, rfl, s4.seq ha, fun t nt => ?_⟩
      rw [ey]
      have s5 := s4.trans (same_new (o := .lst (ys.map V.int)) nt)
      refine ⟨t, _, rfl, .inl (SqL.of upd_same), fun l nl => ?_⟩
      have s6 := s5.trans (same_new (o := .lst (ys.map V.int)) nl)
      refine ⟨_, rfl, sz (show 5 ≤ 100000 by decide), fun b nb => ?_⟩
      have s7 := s6.trans (same_new (o := .lst [.ref l, .int 0, .int 0, .int sd, .int 0]) nb)
      have nlb : l ≠ b := ne_of_none upd_same nb
      exact q _ b l s7 ⟨nlb, ys, 0, 0, sd, 0, upd_same, by rw [upd_ne nlb]; exact upd_same, d0, d1⟩
theorem perm_strs {ys : List V} {ns : List Str} (h : ys.Perm (ns.map V.str)) : ∃ ms : List Str, ys = ms.map V.str ∧ ms.Perm ns := by
  have key : ∀ {ys : List V}, (∀ y ∈ ys, ∃ x, y = V.str x) → ∃ ms : List Str, ys = ms.map V.str := by
    intro ys
    induction ys with
    | nil => exact fun _ => ⟨[], rfl⟩
    | cons y r ih =>
      intro hy
      obtain ⟨ms, e⟩ := ih fun z hz => hy z (List.mem_cons_of_mem _ hz)
      obtain ⟨x, ex⟩ := hy y List.mem_cons_self
      exact ⟨x :: ms, by rw [ex, e]; rfl⟩
  obtain ⟨ms, e⟩ := key fun y hy => by
    obtain ⟨x, _, ex⟩ := List.mem_map.mp (h.mem_iff.mp hy)
    exact ⟨x, ex.symm⟩
  refine ⟨ms, e, ?_⟩
  rw [e] at h
  have h2 := h.map (fun v : V => match v with | .str x => x | _ => "")
  rw [List.map_map, List.map_map] at h2
  have e1 : ∀ l : List Str, l.map ((fun v : V => match v with | .str x => x | _ => "") ∘ V.str) = l := fun l => by
    have : ((fun v : V => match v with | .str x => x | _ => "") ∘ V.str) = (id : Str → Str) := rfl
    rw [this, List.map_id]
  rw [e1, e1] at h2
  exact h2
theorem ns_perm {ns ms : List Str} (h : ms.Perm ns) (a : AreNs ns) : AreNs ms := ⟨fun z hz => a.nm z (h.mem_iff.mp hz), h.nodup_iff.mpr a.nd, by rw [h.length_eq]; exact a.len⟩
/-- what law calls -/
structure LawC (P : Program) (w : World) (K : PySem.W.Frag) (mg : Str → Option Value) (base : Heap) (Pt : Addr) : Prop where
  dr : ∃ f fd, Cal P w K mg base 1 "_law_draws" ["_law_script"] (spDr K) f fd
  an : ∃ f fd, Cal P w K mg base 2 "_law_any" ["_law_bag", "_law_items"] (spAn K) f fd
  mi : ∃ f fd, Cal P w K mg base 2 "_law_mixed" ["_law_bag", "_law_items"] (spMi K) f fd
  ln : ∃ f fd, Cal P w K mg base 3 "_law_names" ["_law_bag", "_law_many"] spLn f fd
  lv : ∃ f fd, Cal P w K mg base 3 "_law_vector" ["_law_bag", "_law_wide"] spLv f fd
  ws : ∃ f fd, Cal P w K mg base 9 "_law_weights_so" ["_law_names_here", "_law_given"] (spT (preWs K)) f fd
  rs : ∃ f fd, FnG P w K mg base (L2.CX P w) 9 f fd ["_law_bag", "_law_names_here", "_law_given"] (spRs K Pt) ∧ mg "_law_refused_so" = some (.ref f) ∧ PySem.W.keepIn K (.ref f) = true ∧ Binds K fd ["_law_bag", "_law_names_here", "_law_given"] []
abbrev nLa : List Str := ["_law_script", "_law_bag", "_law_wide", "_law_names_here", "_law_given", "_law_turn", "_law_k"]
theorem scLa : FnScope nLa ["_law_script"] (defScope (top 78)) := ⟨rfl, rfl, rfl, by decide +kernel, rfl, by decide +kernel, by decide +kernel⟩
def spLa (K : PySem.W.Frag) (Pt : Addr) : Sp := fun vs H Q _ => ∃ (a : Addr) (zs : List Int), vs = [.ref a] ∧ SqL K H a (zs.map V.int) ∧ zs.length ≤ 1000 ∧ LamX.Tabs [(Pt, qRs)] H ∧ ∀ H', Q (.bl true) H'
theorem c_law (B : Blt mg) (W : LawC P w K mg base Pt) (D : DefAt K mg "law" (top 78) f fd) : FnG P w K mg base (L2.CX P w) 10 f fd ["_law_script"] (spLa K Pt) := by
  obtain ⟨_, _, Dr⟩ := W.dr
  obtain ⟨_, _, An⟩ := W.an
  obtain ⟨_, _, Mi⟩ := W.mi
  obtain ⟨_, _, Ln⟩ := W.ln
  obtain ⟨_, _, Lv⟩ := W.lv
  obtain ⟨_, _, Ws⟩ := W.ws
  obtain ⟨_, _, Rs, mR, kR, bR⟩ := W.rs
  refine fnG_of D.fn scLa (fun vs H Q E h => ?_) (fun A outer s H vs Q E hr hG h => ?_)
  · obtain ⟨a, zs, rfl, _⟩ := h
    rfl
  · obtain ⟨a, zs, rfl, ha, hz, hTab, q⟩ := h
    have r1 : Room 1 (A.deeper (envOfC "law" (defScope (top 78)) s.heap.objs.size f fd.code)) := hr.mono (by omega)
    have r2 : Room 2 (A.deeper (envOfC "law" (defScope (top 78)) s.heap.objs.size f fd.code)) := hr.mono (by omega)
    have r3 : Room 3 (A.deeper (envOfC "law" (defScope (top 78)) s.heap.objs.size f fd.code)) := hr.mono (by omega)
    refine ⟨_, pss_cons (ps_set (i := 1) scLa.nd rfl (Or.inr rfl) (pe_cal Dr r1 (by rfl) (pa_cons (pv 0) pa_nil)))
      (pss_cons (ps_set (i := 2) scLa.nd rfl (Or.inr rfl) (pe_cal An r2 (by rfl) (pa_cons (pv 1) (pa_cons (pe_lst (pa_cons pe_int (pa_cons pe_int (pa_cons pe_int (pa_cons pe_int (pa_cons pe_int (pa_cons pe_int (pa_cons pe_int (pa_cons pe_int pa_nil))))))))) pa_nil))))
      (pss_cons (ps_set (i := 3) scLa.nd rfl (Or.inl rfl) (pe_callTy call_tuple_of (by rfl) B.tuple (by decide +kernel) (pa_cons (pe_cal Mi r2 (by rfl) (pa_cons (pv 1) (pa_cons (pe_cal Ln r3 (by rfl) (pa_cons (pv 1) (pa_cons (pv 2) pa_nil))) pa_nil))) pa_nil)))
      (pss_cons (ps_setLc (i := 4) (own := [("_law_k", 6)]) (g := gName 6) (tt := tYes) rfl scLa.nd rfl rfl (sw_true rfl rfl rfl (by decide +kernel)) (pi_range1 (by rfl) B.range (pa_cons (pe_cal An r2 (by rfl) (pa_cons (pv 1) (pa_cons (pe_lst (pa_cons pe_int (pa_cons pe_int (pa_cons pe_int (pa_cons pe_int (pa_cons pe_int (pa_cons pe_int (pa_cons pe_int (pa_cons pe_int pa_nil))))))))) pa_nil))) pa_nil)) (blkOk_by (N := nLa) (own := [("_law_k", 6)]) (sc := defScope (top 78)) (by decide +kernel)) (fun _ _ _ _ _ => pg_name (i := 6) scLa.nd rfl (Or.inl rfl)) (fun _ _ _ _ _ => pts_nil)
          (fun _ _ _ _ _ => pe_cal Lv r3 (by rfl) (pa_cons (pv 1) (pa_cons (pv 2) pa_nil))))
      (pss_cons (ps_if (PW.pt (pw_or (pt_not (pt_val (pe_cal Ws hr (by rfl) (pa_cons (pv 3) (pa_cons (pv 4) pa_nil))))) (pw_or1 (pt_not (pt_val (pe_cal Ws hr (by rfl) (pa_cons (pe_callTy call_tuple_of (by rfl) B.tuple (by decide +kernel) (pa_cons (pe_cal Mi r2 (by rfl) (pa_cons (pv 1) (pa_cons (pv 3) pa_nil))) pa_nil)) (pa_cons (pv 4) pa_nil)))))))) pss_never pss_nil)
      (pss_cons (ps_for PassesOwn.never rfl (pi_range1 (by rfl) B.range (pa_cons pe_int pa_nil)) (pg_name (i := 5) scLa.nd rfl (Or.inl rfl)) (pss_one (ps_if (pt_not (pt_val (pe_callG Rs hr hG (by rfl) mR kR bR passL (pa_cons (pv 1) (pa_cons (pv 3) (pa_cons (pv 4) pa_nil)))))) pss_never pss_nil)))
      (pss_one (ps_ret pe_bl))))))), ?_⟩
    refine ⟨_, rfl, a, zs, rfl, ha, hz, fun H1 b l s1 hb1 => ?_⟩
    have hTab1 := hTab.ext s1
    refine ⟨_, rfl, sz (show 8 ≤ 100000 by decide), fun t1 n1 => ?_⟩
    have q1 : L2.Same H1 (upd H1 t1 (.lst [.int 3, .int 4, .int 2, .int 5, .int 3, .int 1, .int 6, .int 7])) := same_new n1
    refine ⟨b, l, _, rfl, hb1.same q1, .inl ⟨t1, _, rfl, SqB.lst upd_same (hb1.ne n1).1, by show 0 < 8; decide, by show 8 ≤ 1000; decide, fun H2 x k2 hb2 hx => ?_⟩⟩
    obtain ⟨wd, rfl, w1, w7⟩ : ∃ wd : Nat, x = .int ((wd : Nat) : Int) ∧ 1 ≤ wd ∧ wd ≤ 7 := by
      simp only [List.mem_cons, List.not_mem_nil, or_false] at hx
      rcases hx with h | h | h | h | h | h | h | h
      · exact ⟨3, h, by decide, by decide⟩
      · exact ⟨4, h, by decide, by decide⟩
      · exact ⟨2, h, by decide, by decide⟩
      · exact ⟨5, h, by decide, by decide⟩
      · exact ⟨3, h, by decide, by decide⟩
      · exact ⟨1, h, by decide, by decide⟩
      · exact ⟨6, h, by decide, by decide⟩
      · exact ⟨7, h, by decide, by decide⟩
    have hTab2 := tabs_but (hTab1.ext q1) (hb1.same q1) k2
    refine ⟨_, rfl, _, rfl, _, rfl, b, l, wd, rfl, hb2, w1, w7, fun H3 p ns k3 hb3 npb hns hnl ep => ?_⟩
    have hTab3 := tabs_but hTab2 hb2 k3
    refine ⟨b, l, p, _, rfl, hb3, SqB.lst ep npb, by rw [List.length_map, hnl]; omega, fun H4 p4 ys k4 hb4 n4 py e4 => ?_⟩
    have hTab4 := tabs_but hTab3 hb3 k4
    obtain ⟨ms, rfl, pm⟩ := perm_strs py
    have hms := ns_perm pm hns
    have hml : ms.length = wd := by rw [pm.length_eq, hnl]
    refine ⟨p4, _, rfl, .inl ⟨SqL.of e4, fun na nna => ?_⟩⟩
    have q4 := same_new (o := .tup (ms.map V.str)) nna
    have hb5 := hb4.same q4
    have hTab5 := hTab4.ext q4
    have ena : (upd H4 na (.tup (ms.map V.str))) na = some (.tup (ms.map V.str)) := upd_same
    have nab : na ≠ b := (hb4.ne nna).1
    generalize upd H4 na (.tup (ms.map V.str)) = H5 at hb5 hTab5 ena ⊢
    refine ⟨_, rfl, sz (show 8 ≤ 100000 by decide), fun t6 n6 => ?_⟩
    have q6 : L2.Same H5 (upd H5 t6 (.lst [.int 3, .int 4, .int 2, .int 6, .int 1, .int 0, .int 5, .int 12])) := same_new n6
    refine ⟨b, l, _, rfl, hb5.same q6, .inl ⟨t6, _, rfl, SqB.lst upd_same (hb5.ne n6).1, by show 0 < 8; decide, by show 8 ≤ 1000; decide, fun H6 x k6 hb6 hx => ?_⟩⟩
    obtain ⟨m, rfl, m12⟩ : ∃ m : Nat, x = .int ((m : Nat) : Int) ∧ m ≤ 12 := by
      simp only [List.mem_cons, List.not_mem_nil, or_false] at hx
      rcases hx with h | h | h | h | h | h | h | h
      · exact ⟨3, h, by decide⟩
      · exact ⟨4, h, by decide⟩
      · exact ⟨2, h, by decide⟩
      · exact ⟨6, h, by decide⟩
      · exact ⟨1, h, by decide⟩
      · exact ⟨0, h, by decide⟩
      · exact ⟨5, h, by decide⟩
      · exact ⟨12, h, by decide⟩
    have k56 : But b H5 H6 := (But.of q6).trans k6
    have hTab6 := tabs_but (hTab5.ext q6) (hb5.same q6) k6
    have ena6 := k56 _ _ nab ena
    refine ⟨(m : Int), rfl, by omega, by omega, ?_⟩
    refine lcB (b := b) (l := l) (srcR 0 ((m : Int)).toNat) (by omega) (fun i acc H' => ∃ zss, TupsAt K H' acc zss ∧ zss.length = i ∧ ∀ zs ∈ zss, Vz wd zs) (fun _ _ _ _ st ⟨zss, h, h2⟩ => ⟨zss, Paired.mapP h fun _ _ ⟨t, e, g⟩ => ⟨t, e, st.sqT g⟩, h2⟩) ⟨[], .nil, rfl, fun z hz => by cases hz⟩ hb6 (fun _ _ => True.intro) (fun i x acc H7 hi hR k7 hb7 hI Y Z hY hZ => ?_) (fun Dl gs H7 hD k7 hb7 eD hI => ?_)
    · obtain ⟨zss, hT, hl, hv⟩ := hI
      refine ⟨rfl, _, rfl, _, rfl, b, l, wd, rfl, hb7, w1, w7, fun H8 t zs k8 hb8 ntb zl z0 zb et => ?_⟩
      refine hY _ H8 k8 hb8 ⟨zss ++ [zs], paired_app (TupsAt.butT hb7 (ButT.of k8) hT) (.cons ⟨t, rfl, SqT.of et⟩ .nil), by rw [List.length_append, hl]; rfl, fun y hy => ?_⟩
      rcases List.mem_append.mp hy with h | h
      · exact hv y h
      · rw [List.mem_singleton.mp h]
        exact ⟨zl, z0, zb⟩
    · obtain ⟨zss, hT, hl, hv⟩ := hI
      have hTab7 := tabs_but hTab6 hb6 k7
      have ena7 := k7 _ _ nab ena6
      have nDb : Dl ≠ b := (hb6.ne hD).1
      have hl12 : zss.length ≤ 12 := by omega
      have vecs : ∀ {os : List Str} {Hx : Hp}, os.Perm ms → Hx Dl = some (.lst gs) → TupsAt K Hx gs zss → ∃ fs, VecsAt K Hx (srt os) (.ref Dl) fs ∧ fs.length ≤ 12 ∧ ∀ f ∈ fs, Okf (srt os) f := fun {os Hx} po e hT => by
        have ho := ns_perm po hms
        obtain ⟨fs, g1, g2, g3⟩ := vecs_all (ss := srt os) (srt_nd ho.nd) hT fun zs hz => by
          obtain ⟨a1, a2, a3⟩ := hv zs hz
          refine ⟨by rw [a1, srt_len, po.length_eq, hml], a2, fun z hz => ?_⟩
          have := a3 z hz
          omega
        exact ⟨fs, ⟨Dl, gs, rfl, .inl (SqL.of e), g1⟩, by omega, g3⟩
      obtain ⟨fs1, v1, v2, v3⟩ := vecs (List.Perm.refl ms) eD hT
      refine ⟨_, rfl, _, rfl, ⟨na, _, ms, fs1, rfl, SqT.of ena7, hms, by omega, v1, v2, v3⟩, fun H8 s8 => ⟨true, rfl, iteF ?_⟩⟩
      have hb8 := hb7.same s8
      have hTab8 := hTab7.ext s8
      have ena8 := s8 _ _ ena7
      have eD8 := s8 _ _ eD
      have hT8 := TupsAt.butT hb7 (ButT.of (But.of s8)) hT
      refine ⟨_, rfl, _, rfl, b, l, na, _, rfl, hb8, SqB.tup ena8 nab, by rw [List.length_map, hml]; omega, fun H9 p9 ys k9 hb9 n9 py9 e9 => ?_⟩
      obtain ⟨os, rfl, po⟩ := perm_strs py9
      refine ⟨p9, _, rfl, .inl ⟨SqL.of e9, fun nb nnb => ?_⟩⟩
      have q9 := same_new (o := .tup (os.map V.str)) nnb
      have hTab9 := (tabs_but hTab8 hb8 k9).ext q9
      have hb10 := hb9.same q9
      have ena9 := q9 _ _ (k9 _ _ nab ena8)
      have eD9 := q9 _ _ (k9 _ _ nDb eD8)
      have hT9 : TupsAt K (upd H9 nb (.tup (os.map V.str))) gs zss := TupsAt.butT hb8 (ButT.of (k9.trans (But.of q9))) hT8
      obtain ⟨fs2, u1, u2, u3⟩ := vecs po eD9 hT9
      refine ⟨_, rfl, ⟨nb, _, os, fs2, rfl, SqT.of upd_same, ns_perm po hms, by rw [po.length_eq]; omega, u1, u2, u3⟩, fun H11 s11 => ⟨true, rfl, iteF ?_⟩⟩
      have hb11 := hb10.same s11
      have hTab11 := hTab9.ext s11
      have ena11 := s11 _ _ ena9
      have eD11 := s11 _ _ eD9
      have hT11 := TupsAt.butT hb10 (ButT.of (But.of s11)) hT9
      refine ⟨8, rfl, by decide, by decide, ?_⟩
      refine forI (srcR 0 ((8 : Int)).toNat) (fun i σ H' => (∃ y, σ = [some (.ref a), some (.ref b), some (.int (wd : Nat)), some (.ref na), some (.ref Dl), y, none]) ∧ BagAt b l H' ∧ LamX.Tabs [(Pt, qRs)] H' ∧ H' na = some (.tup (ms.map V.str)) ∧ H' Dl = some (.lst gs) ∧ TupsAt K H' gs zss)
        ⟨⟨none, rfl⟩, hb11, hTab11, ena11, eD11, hT11⟩ (fun _ _ _ _ _ => True.intro) (fun i x σ H12 H13 hi hP s13 hR => ?_) (fun σ H12 hP => q H12)
      obtain ⟨⟨y, rfl⟩, hb12, hTab12, ena12, eD12, hT12⟩ := hP
      have hb13 := hb12.same s13
      have ena13 := s13 _ _ ena12
      have eD13 := s13 _ _ eD12
      have hT13 := TupsAt.butT hb12 (ButT.of (But.of s13)) hT12
      refine ⟨_, rfl, _, rfl, _, rfl, b, l, na, Dl, ms, gs, zss, rfl, hb13, SqT.of ena13, hms, by omega, eD13, nDb, hT13, hl12, fun zs hz => by rw [hml]; exact hv zs hz, hTab12.ext s13, fun H14 kT hb14 hTab14 => ⟨true, rfl, iteF ?_⟩⟩
      exact ⟨⟨_, rfl⟩, hb14, hTab14, kT _ _ nab (fun _ z => nomatch z) ena13, kT _ _ nDb (fun _ z => nomatch z) eD13, TupsAt.butT hb13 kT hT13⟩
end
end Kb
/-! The law's call at the caller's own Around, from a promise FnG. -/
namespace Kb
open PySem PySem.Spec PyProof.Rows L2
/-- what is tracked at the start: the one table, the script where K does not hold it -/
def h0 (K : PySem.W.Frag) (Pt a : Addr) (o : Obj) (xs : List V) : Hp := fun b =>
  if b = Pt then some (.tbl #[]) else if b = a ∧ K.lookup a = none then some (.frz o (.lst xs)) else none
section
variable {K : PySem.W.Frag} {Pt a : Addr} {o : Obj} {xs : List V}
theorem h0_tab : h0 K Pt a o xs Pt = some (.tbl #[]) := if_pos rfl
theorem h0_off {b : Addr} (h1 : b ≠ Pt) (h2 : b ≠ a ∨ K.lookup a ≠ none) : h0 K Pt a o xs b = none := by
  unfold h0
  rw [if_neg h1, if_neg]
  rintro ⟨z1, z2⟩
  exact h2.elim (fun k => k z1) fun k => k z2
theorem h0_scr (h1 : a ≠ Pt) (h2 : K.lookup a = none) : h0 K Pt a o xs a = some (.frz o (.lst xs)) := by
  unfold h0
  rw [if_neg h1, if_pos ⟨rfl, h2⟩]
theorem h0_at {b : Addr} {u : HO} (h : h0 K Pt a o xs b = some u) : (b = Pt ∧ u = .tbl #[]) ∨ (b = a ∧ K.lookup a = none ∧ u = .frz o (.lst xs)) := by
  unfold h0 at h
  by_cases h1 : b = Pt
  · rw [if_pos h1] at h
    exact .inl ⟨h1, (Option.some.inj h).symm⟩
  · rw [if_neg h1] at h
    by_cases h2 : b = a ∧ K.lookup a = none
    · rw [if_pos h2] at h
      exact .inr ⟨h2.1, h2.2, (Option.some.inj h).symm⟩
    · rw [if_neg h2] at h
      cases h
end
/-- the law called with its script -/
theorem call_law {P : Program} {w : World} {K : PySem.W.Frag} {mg mb : Str → Option Value} {k : Nat} {fa a c Pt : Addr} {fd : FuncData} {x : Str} {sp : Sp} {s₁ : Shared} {vs : List Value} {ns : List Int}
    (KX : K.In s₁.heap) (hns : s₁.heap.Ns mainGlobals mg) (hb : s₁.heap.Ns builtinsNs mb) (hbb : ∀ y : Str, y ≠ "__name__" → mb y = bootBuiltins y) (hlim : s₁.heap.NoLimit) (hg : s₁.gens = #[])
    (hT : s₁.heap.get? Pt = some { cls := .none, data := .fields #[] }) (nT : K.lookup Pt = none) (C : PySem.W.CodeHd s₁.heap c Pt)
    (hbm : ∃ (bm : Addr) (ob : Obj), mg "__builtins__" = some (.ref bm) ∧ bm ≠ builtinsNs ∧ s₁.heap.get? bm = some ob ∧ ob.cls = .type "module" ∧ ob.dict = some builtinsNs ∧ ob.data = .plain)
    (ha : s₁.heap.get? a = some { cls := .type "list", data := .seq vs.toArray }) (hi : IntsAre vs ns) (hl : ns.length ≤ sizeLine) (hr : Room k callerA)
    (F : ∀ base : Heap, K.In base → base.Ns mainGlobals mg → LamX.TabB base mg c Pt → FnG P w K mg base (L2.CX P w) k fa fd [x] sp) (hbind : ∀ (s : Shared) (u : Value), BindsTo s fd ⟨[u], []⟩ [(x, u)])
    (hsp : ∀ H : Hp, H Pt = some (.tbl #[]) → SqL K H a (ns.map V.int) → sp [.ref a] H (fun v _ => v = .bl true) fun _ _ _ => False) :
    codeAny (model P w) callerA (.call (.ref fa) ⟨[.ref a], []⟩) (fun r s' => r = .ok (.ret (.bool true)) ∧ OldK s₁.heap s'.heap ∧ s'.os = s₁.os ∧ AllBare s'.gens) s₁ := by
  have vals := vals_ints hi
  have naP : a ≠ Pt := fun z => by
    subst z
    have e := Option.some.inj (ha.symm.trans hT)
    cases congrArg Obj.data e
  obtain ⟨H, eH⟩ : ∃ H : Hp, H = h0 K Pt a { cls := .type "list", data := .seq vs.toArray } (ns.map V.int) := ⟨_, rfl⟩
  have eP : H Pt = some (.tbl #[]) := by rw [eH]; exact h0_tab
  have off : ∀ {b : Addr}, b ≠ Pt → (b ≠ a ∨ K.lookup a ≠ none) → H b = none := fun p q => by rw [eH]; exact h0_off p q
  have only : ∀ {b : Addr} {u : HO}, H b = some u → (b = Pt ∧ u = .tbl #[]) ∨ (b = a ∧ K.lookup a = none ∧ u = .frz { cls := .type "list", data := .seq vs.toArray } (.lst (ns.map V.int))) := fun e => h0_at (by rw [← eH]; exact e)
  -- an object that is neither the table nor a list
  have free : ∀ {b : Addr} {ob : Obj}, s₁.heap.get? b = some ob → ob.data ≠ .fields #[] → (∀ q n, ob.data ≠ .seq q n) → H b = none := fun {b ob} e d1 d2 => by
    refine off (fun z => ?_) (.inl fun z => ?_)
    · rw [z] at e
      exact d1 (congrArg Obj.data (Option.some.inj (e.symm.trans hT)))
    · rw [z] at e
      exact d2 _ _ (congrArg Obj.data (Option.some.inj (e.symm.trans ha)))
  have nsB : ∀ {b : Addr} {m : Str → Option Value}, s₁.heap.Ns b m → (hidT s₁.heap H).Ns b m := fun q => by
    obtain ⟨ob, es, ep, e, d, r⟩ := q
    exact ⟨ob, es, ep, hidT_get e (free e (fun z => by rw [d] at z; cases z) fun _ _ z => by rw [d] at z; cases z), d, r⟩
  have kB : K.In (hidT s₁.heap H) := fun b ob e => hidT_get (KX b ob e) (off (fun z => by rw [z, nT] at e; cases e) (by
    by_cases z : b = a
    · refine .inr fun q => ?_
      rw [z, q] at e
      cases e
    · exact .inl z))
  have modB : L2.Mod K mg (hidT s₁.heap H) := ⟨kB, nsB hns, ⟨mb, nsB hb, hbb⟩, by
    obtain ⟨mc, q1, q2⟩ := hlim
    exact ⟨mc, nsB q1, q2⟩⟩
  have tabB : LamX.TabB (hidT s₁.heap H) mg c Pt := by
    refine ⟨?_, ?_, ?_⟩
    · obtain ⟨oc, us, file, tf, flags, tg, inF, text, tt, g1, g2, g3, g4, rest⟩ := C
      refine ⟨oc, us, file, tf, flags, tg, inF, text, tt, hidT_get g1 (free g1 (fun z => ?_) fun _ _ z => ?_), g2, g3, g4, rest⟩
      · rw [g3] at z
        cases z
        simp at g4
      · rw [g3] at z
        cases z
    · obtain ⟨bm, ob, k1, k2, k3, k4, k5, k6⟩ := hbm
      refine ⟨bm, ob, k1, k2, fun z => ?_, fun z => ?_, hidT_get k3 (free k3 (fun z => by rw [k6] at z; cases z) fun _ _ z => by rw [k6] at z; cases z), k4, k5, k6⟩
      · obtain ⟨og, es, ep, e, d, _⟩ := hns
        rw [z] at k3
        have := Option.some.inj (k3.symm.trans e)
        rw [this, d] at k6
        cases k6
      · rw [z] at k3
        have := Option.some.inj (k3.symm.trans hT)
        rw [this] at k6
        cases k6
    · intro z
      obtain ⟨og, es, ep, e, d, _⟩ := hns
      rw [z] at e
      have := Option.some.inj (e.symm.trans hT)
      rw [this] at d
      cases d
  have hok : HOk P w H s₁.heap := fun b u e => by
    rcases only e with ⟨rfl, rfl⟩ | ⟨rfl, _, rfl⟩
    · exact hT
    · exact ⟨ha, by rw [List.length_map]; exact hl, vs, _, vals, ha⟩
  have scr : SqL K H a (ns.map V.int) := by
    cases q : K.lookup a with
    | none => exact .inl (.inr ⟨_, by rw [eH]; exact h0_scr naP q⟩)
    | some ob =>
      have := Option.some.inj ((KX a ob q).symm.trans ha)
      subst this
      exact .inr ⟨_, vs.toArray, _, q, rfl, rfl, rfl, by rw [List.size_toArray, ← vals.length, List.length_map]; exact hl, by simpa using vals⟩
  have env : Env0 P w K mg (hidT s₁.heap H) callerA [] s₁ H := ⟨rfl, modB, fun b ob e => of_hidT e, Nat.le_of_eq (hidT_size _ _), trivial, (fun b z => absurd (show b ∈ ([] : List Addr) from z) (by simp)), hok, AllBare.of_eq hg⟩
  refine codeAny_mono ((F _ kB (nsB hns) tabB).run callerA [] s₁ H ⟨[.ref a], []⟩ [.ref a] [.ref a] _ _ hr rfl env (hbind s₁ (.ref a)) (.cons rfl .nil) (hsp H eP scr)) fun r s' hq => ?_
  match r, hq with
  | .error e, hq =>
    obtain ⟨_, _, _, _, _, _, _, _, _, _, _, _, z⟩ := (show L2.CX P w [] H s₁ (fun _ _ _ => False) e s' from hq)
    exact z.elim
  | .ok (.ret u), hq =>
    obtain ⟨v, H', e1, e2, un, ok', rv, (ev : v = .bl true)⟩ := hq
    rw [ev] at rv
    obtain rfl : u = Value.bool true := rv
    obtain ⟨more, em⟩ := un.tbls Pt #[] eP
    have eT : s'.heap.get? Pt = some { cls := .none, data := .fields (#[] ++ more) } := ok' Pt _ em
    have stay : ∀ {b : Addr} {ob : Obj}, b ≠ Pt → s₁.heap.get? b = some ob → s'.heap.get? b = some ob := fun {b ob} nb e => by
      cases q : H b with
      | none => exact un.keep b ob e q (fun z => absurd (show b ∈ ([] : List Addr) from z) (by simp)) (by simp)
      | some u =>
        rcases only q with ⟨z, _⟩ | ⟨rfl, _, rfl⟩
        · exact (nb z).elim
        · have h1 := (ok' _ _ (un.frzs _ _ _ q)).1
          have h2 := Option.some.inj (e.symm.trans ha)
          rw [h2]
          exact h1
    refine ⟨rfl, ⟨fun b ob e => ?_, fun b ob e => ?_⟩, e1, e2⟩
    · by_cases z : b = Pt
      · subst z
        have h2 := Option.some.inj (e.symm.trans hT)
        subst h2
        exact .inr (.inl ⟨(C.tab hT).isCodeTable, rfl, #[], more, rfl, eT⟩)
      · exact .inl (stay z e)
    · by_cases z : b = Pt
      · exact ⟨_, by rw [z]; exact eT⟩
      · exact ⟨ob, stay z e⟩
  | .ok .next, hq => exact hq.elim
  | .ok .brk, hq => exact hq.elim
  | .ok .cont, hq => exact hq.elim
end Kb
/-! What the head tells: defs at any address, facts by names, one more Bool, the empty code tables. -/
namespace Kb
open PySem PySem.Spec PyProof.Rows L2
abbrev Frg := PySem.W.Frag
abbrev AlK : Type := He.AlD × Bool
/-- what an object of the top leads to: a def's code and defaults, a class's dict and bases, a dict's values, a staticmethod's def -/
def kids (o : Obj) : List Addr := match o.data with
  | .func fd => He.refV fd.code ++ He.refV fd.defaults
  | .cls cd => cd.ns :: (cd.mro.drop 1).flatMap He.refV
  | .dict es _ => es.toList.flatMap fun e => He.refV e.val
  | .fields vs => if o.cls == .type "staticmethod" then vs.toList.flatMap He.refV else []
  | _ => []
def kidsOf (g : Addr → Option Obj) (as : List Addr) : List Addr := as.flatMap fun a => match g a with
  | some o => kids o
  | none => []
/-- evaluated before use -/
def frA {α : Type} : List Addr → (List Addr → α) → α
  | [], k => k []
  | a :: r, k => HandSHeadRun.frNat a fun a => frA r fun r => k (a :: r)
theorem frA_eq {α : Type} : ∀ (l : List Addr) (k : List Addr → α), frA l k = k l
  | [], _ => rfl
  | a :: r, k => by
    show (HandSHeadRun.frNat a fun a => frA r fun r => k (a :: r)) = _
    rw [HandSHeadRun.frNat_eq, frA_eq r]
def frK {α : Type} : Frg → (Frg → α) → α
  | [], k => k []
  | (a, o) :: r, k => HandSHeadRun.frNat a fun a => frK r fun r => k ((a, o) :: r)
theorem frK_eq {α : Type} : ∀ (l : Frg) (k : Frg → α), frK l k = k l
  | [], _ => rfl
  | (a, o) :: r, k => by
    show (HandSHeadRun.frNat a fun a => frK r fun r => k ((a, o) :: r)) = _
    rw [HandSHeadRun.frNat_eq, frK_eq r]
/-- the places that are looked at: the names xs, and four steps from them -/
def asK (xs : List Str) (g : Addr → Option Obj) : List Addr :=
  frA (xs.map (He.ga (He.frG g [mainGlobals]))) fun s1 => frA (kidsOf g s1) fun s2 => frA (kidsOf g s2) fun s3 => frA (kidsOf g s3) fun s4 => frA (kidsOf g s4) fun s5 =>
    mainGlobals :: cStatics :: (s1 ++ (s2 ++ (s3 ++ (s4 ++ s5))))
/-- the objects that are looked at -/
def kOf (xs : List Str) (g : Addr → Option Obj) : Frg := He.frT g (asK xs g)
def obK (xs : List Str) (fa : List He.Fa) (fn : List He5.DefA) (tf : List He.Defn) (ex : Frg → Bool) (g : Addr → Option Obj) : AlK := frA (asK xs g) fun as => frK (He.frT g as) fun K => (He5.obsA fa fn K, ex K && He.tabsB g tf K)
theorem obK_is (xs : List Str) (fa : List He.Fa) (fn : List He5.DefA) (tf : List He.Defn) (ex : Frg → Bool) (g : Addr → Option Obj) : obK xs fa fn tf ex g = (He5.obsA fa fn (kOf xs g), ex (kOf xs g) && He.tabsB g tf (kOf xs g)) := by
  unfold obK
  rw [frA_eq, frK_eq]
  rfl
structure SaysK (fa : List He.Fa) (fn : List He5.DefA) (tf : List He.Defn) (ex : Frg → Bool) (h : Heap) (K : Frg) : Prop where
  a : He5.SaysA fa fn K
  more : ex K = true
  hd : ∀ p ∈ tf, PySem.W.codeHdIn K (He.cT K p).1 (He.cT K p).2 = true
  out : ∀ p ∈ tf, K.lookup (He.cT K p).2 = none
  nil : ∀ p ∈ tf, h.get? (He.cT K p).2 = some { cls := .none, data := .fields #[] }
theorem saysK_of {n : List Str} {fa : List He.Fa} {fn : List He5.DefA} {tf : List He.Defn} {ex : Frg → Bool} {h : Heap} (e : obK n fa fn tf ex h.get? = (He5.valA fn, true)) : SaysK fa fn tf ex h (kOf n h.get?) := by
  rw [obK_is] at e
  obtain ⟨e1, e2⟩ := Prod.mk.inj e
  obtain ⟨e3, e4⟩ := Bool.and_eq_true_iff.mp e2
  have tabs : ∀ p ∈ tf, PySem.W.codeHdIn (kOf n h.get?) (He.cT (kOf n h.get?) p).1 (He.cT (kOf n h.get?) p).2 = true ∧ ∃ o, h.get? (He.cT (kOf n h.get?) p).2 = some o ∧ He.emptyTab o = true := fun p hp => by
    have z := Bool.and_eq_true_iff.mp (List.all_eq_true.mp e4 p hp)
    refine ⟨z.1, ?_⟩
    have z2 := z.2
    revert z2
    cases h.get? (He.cT (kOf n h.get?) p).2 with
    | none => exact fun z2 => nomatch z2
    | some o => exact fun z2 => ⟨o, rfl, z2⟩
  refine ⟨e1, e3, fun p hp => (tabs p hp).1, fun p hp => ?_, fun p hp => ?_⟩ <;> obtain ⟨_, o, q1, q2⟩ := tabs p hp
  · exact He.frT_none q1 q2
  · rw [q1, He.emptyTab_eq q2]
def hookK (n : List Str) (fa : List He.Fa) (fn : List He5.DefA) (tf : List He.Defn) (ex : Frg → Bool) : PySem.W.Hook where
  α := AlK
  obs := fun s => obK n fa fn tf ex s.heap.get?
  val := fun _ => (He5.valA fn, true)
  says := fun _ h => ∃ K : Frg, K.In h ∧ SaysK fa fn tf ex h K
  of := fun _ _ e => ⟨_, He.frT_in, saysK_of e⟩
  keeps := fun _ _ _ ⟨K, hK, c⟩ k => ⟨K, PySem.W.Frag.In.keeps hK k, ⟨c.a, c.more, c.hd, c.out, fun p hp => k _ _ (c.nil p hp)⟩⟩
theorem obK_eq {n : List Str} {fa : List He.Fa} {fn : List He5.DefA} {tf : List He.Defn} {ex : Frg → Bool} {g : Addr → Option Obj} {s : Shared} (h : ∀ a, g a = s.heap.get? a) : obK n fa fn tf ex g = (hookK n fa fn tf ex).obs s := by
  rw [show g = s.heap.get? from funext h]
  rfl
/-- an own error over ValueError, as the top made it -/
def oexB (K : Frg) (C : Addr) : Bool := (match K.lookup C with
  | some ⟨.type t, _, .cls cd, sl⟩ => decide (t = "type") && ((match cd.mro, sl.toList with
    | .ref D :: bm, [_, _, _, _, some (.builtin nw), _] => decide (D = C) && (decide (nw = "ValueError.__new__") && PySem.HandSPX.refsVE bm)
    | _, _ => false) && (cd.hasDict && !cd.hasDel))
  | _ => false) && (decide (PySem.W.findIn K (.ref C) "__setattr__" = some (some (.builtin "object.__setattr__"))) && (decide (PySem.W.subIn K (.ref C) (.type "BaseException") = some true) && (decide (PySem.W.typeIn K (.ref C) = some (.type "type")) && PySem.W.keepIn K (.ref C))))
theorem oexB_ok {K : Frg} {C : Addr} (h : oexB K C = true) : OexC K C := by
  unfold oexB at h
  simp only [Bool.and_eq_true, decide_eq_true_eq] at h
  obtain ⟨h1, h2, h3, h4, h5⟩ := h
  refine ⟨?_, h2, h3, h4, h5⟩
  split at h1
  · rename_i t dd cd sl hk
    simp only [Bool.and_eq_true, decide_eq_true_eq, Bool.not_eq_true'] at h1
    obtain ⟨rfl, hm, hd, hdel⟩ := h1
    split at hm
    · rename_i D bm k0 k1 k2 k3 nw k5 em es
      simp only [Bool.and_eq_true, decide_eq_true_eq] at hm
      obtain ⟨rfl, rfl, hr⟩ := hm
      obtain ⟨nm, bs, mro, ns, qn, hdct, sn, sub, ab, col, del⟩ := cd
      simp only at em hd hdel
      subst em hd hdel
      obtain ⟨l⟩ := sl
      simp only at es
      subst es
      exact ⟨nm, qn, ns, bs, bm, sn, sub, ab, col, dd, k0, k1, k2, k3, k5, hk, hr⟩
    · cases hm
  · cases h1
/-- a class whose own attributes are read -/
def rdB (K : Frg) (C : Addr) : Bool := PySem.W.readsIn K C (.type "type") && decide (PySem.W.specialIn K (.ref C) "__getattribute__" = some (some (.builtin "type.__getattribute__")))
theorem rdB_ok {K : Frg} {C : Addr} (h : rdB K C = true) : ClX.CRead K C (.type "type") := by
  obtain ⟨h1, h2⟩ := Bool.and_eq_true_iff.mp h
  exact ⟨h1, of_decide_eq_true h2⟩
/-- C.f is this number -/
def numB (K : Frg) (C : Addr) (f : Str) (i : Int) : Bool := match PySem.W.findCls K (.ref C) (.type "type") f with
  | some (.val (.int j _)) => decide (j = i)
  | _ => false
theorem numB_ok {K : Frg} {C : Addr} {f : Str} {i : Int} (h : numB K C f i = true) : ∃ u, ClX.CVal K C (.type "type") f (.int i) u := by
  unfold numB at h
  split at h
  · rename_i j t e
    have := of_decide_eq_true h
    subst this
    exact ⟨_, e, ⟨t, rfl⟩⟩
  · cases h
end Kb
/-! The facts by names; all promises joined. Printed by gen_facts.py. -/
namespace Kb
open PySem PySem.Spec PyProof.Rows L2
def dA (x : Str) (i : Nat) : He5.DefA := ⟨fun K => He.ga K x, x, x, defArgs (top i), defBody (top i), defScope (top i), [], []⟩
def mA (C m q : Str) (i j : Nat) : He5.DefA := ⟨fun K => He.ma K (He.ga K C) m, m, q, defArgs (meth i j), defBody (meth i j), defScope (meth i j), [], []⟩
def dRow : He5.DefA := ⟨fun K => He.ma K (He.ga K "Row") "__init__", "__init__", "Row.__init__", defArgs (meth 29 0), defBody (meth 29 0), defScope (meth 29 0), [.adr (He.dflAt ("Row", some "__init__") 0), .adr (He.dflAt ("Row", some "__init__") 1)], []⟩
def dRead : He5.DefA := ⟨fun K => He5.wf K (He.ga K "Order") "staticmethod" "read", "read", "Order.read", defArgs (meth 51 8), defBody (meth 51 8), defScope (meth 51 8), [], []⟩
def fnL0 : List He5.DefA := [dA "is_spelled" 22, dA "is_name" 23, dA "is_number" 24, dA "is_names" 25, dA "nth_mark" 27, dA "stranger" 33, dA "book_with" 35, dA "is_whole" 40, dA "is_vector" 42, dA "are_counts" 43, dA "check_vectors" 44, dA "is_weights" 45, dA "row_of_vector" 46, dA "vector_book" 47, dA "order_weights" 48, dA "unborne" 53, dA "fits" 54, dA "_law_draws" 56, dA "_law_pull" 57, dA "_law_any" 58]
def fnL1 : List He5.DefA := [dA "_law_mixed" 59, dA "_law_like" 60, dA "_law_field" 61, dA "_law_try" 62, dA "_law_names" 63, dA "_law_is_number" 64, dA "_law_is_whole" 65, dA "_law_bears" 66, dA "_law_order" 67, dA "_law_is_vector" 68, dA "_law_vectors_fault" 69, dA "_law_dot" 70, dA "_law_weights_of" 71, dA "_law_vector" 72, dA "_law_less" 73, dA "_law_weights_due" 74, dA "_law_row_of" 75, dA "_law_weights_so" 76, dA "_law_refused_so" 77, dA "law" 78]
def fnL2 : List He5.DefA := [mA "InvalidVector" "__init__" "InvalidVector.__init__" 10 0, mA "TooMany" "__init__" "TooMany.__init__" 12 0, mA "Book" "__init__" "Book.__init__" 34 1, mA "Book" "records" "Book.records" 34 2, mA "Book" "grown" "Book.grown" 34 8, mA "Order" "__init__" "Order.__init__" 51 0, mA "Order" "names" "Order.names" 51 1, mA "Order" "decides" "Order.decides" 51 4, mA "Order" "bears" "Order.bears" 51 5, dRow, dRead]
def fnL : List He5.DefA := fnL0 ++ (fnL1 ++ (fnL2))
def faL0 : List He.Fa := [.free "isinstance", .free "str", .free "int", .free "bool", .free "list", .free "tuple", .free "dict", .free "len", .free "all", .free "any", .free "set", .free "sorted", .free "enumerate", .free "divmod", .free "zip", .free "sum", .free "abs", .free "max", .free "range", .free "repr"]
def faL1 : List He.Fa := [.str "LETTERS" abc, .int "NAME_LENGTH" 6, .int "MOST_REASONS" 7, .int "MOST_RANKED" 7, .glo "InvalidVector", .glo "TooMany", .glo "ChoiceError", .glo "Missing", .glo "NothingLeft", .glo "Row", .glo "Book", .glo "Order", .glo "is_spelled", .glo "is_name", .glo "is_number", .glo "is_names", .glo "nth_mark", .glo "stranger", .glo "book_with", .glo "is_whole"]
def faL2 : List He.Fa := [.glo "is_vector", .glo "are_counts", .glo "check_vectors", .glo "is_weights", .glo "row_of_vector", .glo "vector_book", .glo "order_weights", .glo "unborne", .glo "fits", .glo "_law_draws", .glo "_law_pull", .glo "_law_any", .glo "_law_mixed", .glo "_law_like", .glo "_law_field", .glo "_law_try", .glo "_law_names", .glo "_law_is_number", .glo "_law_is_whole", .glo "_law_bears"]
def faL3 : List He.Fa := [.glo "_law_order", .glo "_law_is_vector", .glo "_law_vectors_fault", .glo "_law_dot", .glo "_law_weights_of", .glo "_law_vector", .glo "_law_less", .glo "_law_weights_due", .glo "_law_row_of", .glo "_law_weights_so", .glo "_law_refused_so", .glo "law", .noat "InvalidVector" "code", .noat "InvalidVector" "at", .noat "TooMany" "code", .noat "TooMany" "most", .noat "Row" "pro", .noat "Row" "con", .noat "Row" "named", .noat "Book" "reasons"]
def faL4 : List He.Fa := [.noat "Book" "by_mark", .noat "Order" "ranked", .noat "Order" "spots", .noat "Order" "reasons", .meth "InvalidVector" "__init__", .meth "TooMany" "__init__", .meth "Book" "records", .meth "Book" "grown", .meth "Order" "names", .meth "Order" "decides", .meth "Order" "bears", .mkr "Row", .mkr "Book", .mkr "Order", .cls "Row", .cls "Book", .cls "Order"]
def faL : List He.Fa := faL0 ++ (faL1 ++ (faL2 ++ (faL3 ++ (faL4))))
theorem dA_of {K : PySem.W.Frag} (c : He5.SaysA faL fnL K) (i : Nat) (x : Str) (j : Nat) (h : fnL[i]? = some (dA x j)) : ∃ fd, FunD K x x (defArgs (top j)) (defBody (top j)) (defScope (top j)) [] [] (He.ga K x) fd := c.def_ i h
theorem mA_of {K : PySem.W.Frag} (c : He5.SaysA faL fnL K) (k : Nat) (C m q : Str) (i j : Nat) (h : fnL[k]? = some (mA C m q i j)) : ∃ fd, FunD K m q (defArgs (meth i j)) (defBody (meth i j)) (defScope (meth i j)) [] [] (He.ma K (He.ga K C) m) fd := c.def_ k h
theorem dRow_of {K : PySem.W.Frag} (c : He5.SaysA faL fnL K) (k : Nat) (h : fnL[k]? = some dRow) : ∃ fd, FunD K "__init__" "Row.__init__" (defArgs (meth 29 0)) (defBody (meth 29 0)) (defScope (meth 29 0)) [.ref (He.dflAt ("Row", some "__init__") 0 K), .ref (He.dflAt ("Row", some "__init__") 1 K)] [] (He.ma K (He.ga K "Row") "__init__") fd := c.def_ k h
theorem dRead_of {K : PySem.W.Frag} (c : He5.SaysA faL fnL K) (k : Nat) (h : fnL[k]? = some dRead) : ∃ fd, FunD K "read" "Order.read" (defArgs (meth 51 8)) (defBody (meth 51 8)) (defScope (meth 51 8)) [] [] (He5.wf K (He.ga K "Order") "staticmethod" "read") fd := c.def_ k h
def tfL : List He.Defn := [("_law_refused_so", none)]
/-- the facts that names alone do not tell -/
def exB (K : Frg) : Bool :=
  (oexB K (He.ga K "InvalidVector") && (oexB K (He.ga K "TooMany") && (xfB K (He.ga K "InvalidVector") && xfB K (He.ga K "TooMany")))) &&
  ((decide (PySem.W.typeIn K (.ref (He.ma K (He.ga K "InvalidVector") "__init__")) = some (.type "function")) && decide (PySem.W.typeIn K (.ref (He.ma K (He.ga K "TooMany") "__init__")) = some (.type "function"))) &&
  ((rdB K (He.ga K "Book") && (rdB K (He.ga K "Order") && numB K (He.ga K "Book") "MOST" 40)) &&
  ((He5.wrapB K (He.ga K "Order") "staticmethod" "staticmethod.__get__" "read") &&
  (decide (PySem.W.exmAny K (.ref (He.ga K "InvalidVector")) [.ref (He.ga K "ChoiceError"), .ref (He.ga K "Missing"), .ref (He.ga K "NothingLeft")] = some true) &&
   decide (PySem.W.exmAny K (.ref (He.ga K "TooMany")) [.ref (He.ga K "ChoiceError"), .ref (He.ga K "Missing"), .ref (He.ga K "NothingLeft")] = some true)))))
section
variable {P : Program} {w : World} {K : PySem.W.Frag} {h : Heap} {mg : Str → Option Value}
theorem facts (X : K.In h) (G : h.Ns mainGlobals mg) (c : SaysK faL fnL tfL exB h K) :
    ∃ (fd : FuncData) (cc : Addr), cc = (He.cT K ("_law_refused_so", none)).1 ∧ mg "law" = some (.ref (He.ga K "law")) ∧ (∀ (s : Shared) (v : Value), BindsTo s fd ⟨[v], []⟩ [("_law_script", v)]) ∧
      ∀ base : Heap, LamX.TabB base mg cc (He.cT K ("_law_refused_so", none)).2 → FnG P w K mg base (L2.CX P w) 10 (He.ga K "law") fd ["_law_script"] (spLa K (He.cT K ("_law_refused_so", none)).2) := by
  obtain ⟨fd_22, D_22⟩ := dA_of c.a 0 "is_spelled" 22 rfl
  obtain ⟨fd_23, D_23⟩ := dA_of c.a 1 "is_name" 23 rfl
  obtain ⟨fd_24, D_24⟩ := dA_of c.a 2 "is_number" 24 rfl
  obtain ⟨fd_25, D_25⟩ := dA_of c.a 3 "is_names" 25 rfl
  obtain ⟨fd_27, D_27⟩ := dA_of c.a 4 "nth_mark" 27 rfl
  obtain ⟨fd_33, D_33⟩ := dA_of c.a 5 "stranger" 33 rfl
  obtain ⟨fd_35, D_35⟩ := dA_of c.a 6 "book_with" 35 rfl
  obtain ⟨fd_40, D_40⟩ := dA_of c.a 7 "is_whole" 40 rfl
  obtain ⟨fd_42, D_42⟩ := dA_of c.a 8 "is_vector" 42 rfl
  obtain ⟨fd_43, D_43⟩ := dA_of c.a 9 "are_counts" 43 rfl
  obtain ⟨fd_44, D_44⟩ := dA_of c.a 10 "check_vectors" 44 rfl
  obtain ⟨fd_45, D_45⟩ := dA_of c.a 11 "is_weights" 45 rfl
  obtain ⟨fd_46, D_46⟩ := dA_of c.a 12 "row_of_vector" 46 rfl
  obtain ⟨fd_47, D_47⟩ := dA_of c.a 13 "vector_book" 47 rfl
  obtain ⟨fd_48, D_48⟩ := dA_of c.a 14 "order_weights" 48 rfl
  obtain ⟨fd_53, D_53⟩ := dA_of c.a 15 "unborne" 53 rfl
  obtain ⟨fd_54, D_54⟩ := dA_of c.a 16 "fits" 54 rfl
  obtain ⟨fd_56, D_56⟩ := dA_of c.a 17 "_law_draws" 56 rfl
  obtain ⟨fd_57, D_57⟩ := dA_of c.a 18 "_law_pull" 57 rfl
  obtain ⟨fd_58, D_58⟩ := dA_of c.a 19 "_law_any" 58 rfl
  obtain ⟨fd_59, D_59⟩ := dA_of c.a 20 "_law_mixed" 59 rfl
  obtain ⟨fd_60, D_60⟩ := dA_of c.a 21 "_law_like" 60 rfl
  obtain ⟨fd_61, D_61⟩ := dA_of c.a 22 "_law_field" 61 rfl
  obtain ⟨fd_62, D_62⟩ := dA_of c.a 23 "_law_try" 62 rfl
  obtain ⟨fd_63, D_63⟩ := dA_of c.a 24 "_law_names" 63 rfl
  obtain ⟨fd_64, D_64⟩ := dA_of c.a 25 "_law_is_number" 64 rfl
  obtain ⟨fd_65, D_65⟩ := dA_of c.a 26 "_law_is_whole" 65 rfl
  obtain ⟨fd_66, D_66⟩ := dA_of c.a 27 "_law_bears" 66 rfl
  obtain ⟨fd_67, D_67⟩ := dA_of c.a 28 "_law_order" 67 rfl
  obtain ⟨fd_68, D_68⟩ := dA_of c.a 29 "_law_is_vector" 68 rfl
  obtain ⟨fd_69, D_69⟩ := dA_of c.a 30 "_law_vectors_fault" 69 rfl
  obtain ⟨fd_70, D_70⟩ := dA_of c.a 31 "_law_dot" 70 rfl
  obtain ⟨fd_71, D_71⟩ := dA_of c.a 32 "_law_weights_of" 71 rfl
  obtain ⟨fd_72, D_72⟩ := dA_of c.a 33 "_law_vector" 72 rfl
  obtain ⟨fd_73, D_73⟩ := dA_of c.a 34 "_law_less" 73 rfl
  obtain ⟨fd_74, D_74⟩ := dA_of c.a 35 "_law_weights_due" 74 rfl
  obtain ⟨fd_75, D_75⟩ := dA_of c.a 36 "_law_row_of" 75 rfl
  obtain ⟨fd_76, D_76⟩ := dA_of c.a 37 "_law_weights_so" 76 rfl
  obtain ⟨fd_77, D_77⟩ := dA_of c.a 38 "_law_refused_so" 77 rfl
  obtain ⟨fd_78, D_78⟩ := dA_of c.a 39 "law" 78 rfl
  obtain ⟨fdM_0, M_0⟩ := mA_of c.a 40 "InvalidVector" "__init__" "InvalidVector.__init__" 10 0 rfl
  obtain ⟨fdM_1, M_1⟩ := mA_of c.a 41 "TooMany" "__init__" "TooMany.__init__" 12 0 rfl
  obtain ⟨fdM_2, M_2⟩ := mA_of c.a 42 "Book" "__init__" "Book.__init__" 34 1 rfl
  obtain ⟨fdM_3, M_3⟩ := mA_of c.a 43 "Book" "records" "Book.records" 34 2 rfl
  obtain ⟨fdM_4, M_4⟩ := mA_of c.a 44 "Book" "grown" "Book.grown" 34 8 rfl
  obtain ⟨fdM_5, M_5⟩ := mA_of c.a 45 "Order" "__init__" "Order.__init__" 51 0 rfl
  obtain ⟨fdM_6, M_6⟩ := mA_of c.a 46 "Order" "names" "Order.names" 51 1 rfl
  obtain ⟨fdM_7, M_7⟩ := mA_of c.a 47 "Order" "decides" "Order.decides" 51 4 rfl
  obtain ⟨fdM_8, M_8⟩ := mA_of c.a 48 "Order" "bears" "Order.bears" 51 5 rfl
  obtain ⟨fdRow, MRow⟩ := dRow_of c.a 49 rfl
  obtain ⟨fdRead, MRead⟩ := dRead_of c.a 50 rfl
  have A_22 : DefAt K mg "is_spelled" (top 22) (He.ga K "is_spelled") fd_22 := ⟨D_22, He.glo_ok X G (c.a.fact 32 (f := .glo "is_spelled") rfl)⟩
  have A_23 : DefAt K mg "is_name" (top 23) (He.ga K "is_name") fd_23 := ⟨D_23, He.glo_ok X G (c.a.fact 33 (f := .glo "is_name") rfl)⟩
  have A_24 : DefAt K mg "is_number" (top 24) (He.ga K "is_number") fd_24 := ⟨D_24, He.glo_ok X G (c.a.fact 34 (f := .glo "is_number") rfl)⟩
  have A_25 : DefAt K mg "is_names" (top 25) (He.ga K "is_names") fd_25 := ⟨D_25, He.glo_ok X G (c.a.fact 35 (f := .glo "is_names") rfl)⟩
  have A_27 : DefAt K mg "nth_mark" (top 27) (He.ga K "nth_mark") fd_27 := ⟨D_27, He.glo_ok X G (c.a.fact 36 (f := .glo "nth_mark") rfl)⟩
  have A_33 : DefAt K mg "stranger" (top 33) (He.ga K "stranger") fd_33 := ⟨D_33, He.glo_ok X G (c.a.fact 37 (f := .glo "stranger") rfl)⟩
  have A_35 : DefAt K mg "book_with" (top 35) (He.ga K "book_with") fd_35 := ⟨D_35, He.glo_ok X G (c.a.fact 38 (f := .glo "book_with") rfl)⟩
  have A_40 : DefAt K mg "is_whole" (top 40) (He.ga K "is_whole") fd_40 := ⟨D_40, He.glo_ok X G (c.a.fact 39 (f := .glo "is_whole") rfl)⟩
  have A_42 : DefAt K mg "is_vector" (top 42) (He.ga K "is_vector") fd_42 := ⟨D_42, He.glo_ok X G (c.a.fact 40 (f := .glo "is_vector") rfl)⟩
  have A_43 : DefAt K mg "are_counts" (top 43) (He.ga K "are_counts") fd_43 := ⟨D_43, He.glo_ok X G (c.a.fact 41 (f := .glo "are_counts") rfl)⟩
  have A_44 : DefAt K mg "check_vectors" (top 44) (He.ga K "check_vectors") fd_44 := ⟨D_44, He.glo_ok X G (c.a.fact 42 (f := .glo "check_vectors") rfl)⟩
  have A_45 : DefAt K mg "is_weights" (top 45) (He.ga K "is_weights") fd_45 := ⟨D_45, He.glo_ok X G (c.a.fact 43 (f := .glo "is_weights") rfl)⟩
  have A_46 : DefAt K mg "row_of_vector" (top 46) (He.ga K "row_of_vector") fd_46 := ⟨D_46, He.glo_ok X G (c.a.fact 44 (f := .glo "row_of_vector") rfl)⟩
  have A_47 : DefAt K mg "vector_book" (top 47) (He.ga K "vector_book") fd_47 := ⟨D_47, He.glo_ok X G (c.a.fact 45 (f := .glo "vector_book") rfl)⟩
  have A_48 : DefAt K mg "order_weights" (top 48) (He.ga K "order_weights") fd_48 := ⟨D_48, He.glo_ok X G (c.a.fact 46 (f := .glo "order_weights") rfl)⟩
  have A_53 : DefAt K mg "unborne" (top 53) (He.ga K "unborne") fd_53 := ⟨D_53, He.glo_ok X G (c.a.fact 47 (f := .glo "unborne") rfl)⟩
  have A_54 : DefAt K mg "fits" (top 54) (He.ga K "fits") fd_54 := ⟨D_54, He.glo_ok X G (c.a.fact 48 (f := .glo "fits") rfl)⟩
  have A_56 : DefAt K mg "_law_draws" (top 56) (He.ga K "_law_draws") fd_56 := ⟨D_56, He.glo_ok X G (c.a.fact 49 (f := .glo "_law_draws") rfl)⟩
  have A_57 : DefAt K mg "_law_pull" (top 57) (He.ga K "_law_pull") fd_57 := ⟨D_57, He.glo_ok X G (c.a.fact 50 (f := .glo "_law_pull") rfl)⟩
  have A_58 : DefAt K mg "_law_any" (top 58) (He.ga K "_law_any") fd_58 := ⟨D_58, He.glo_ok X G (c.a.fact 51 (f := .glo "_law_any") rfl)⟩
  have A_59 : DefAt K mg "_law_mixed" (top 59) (He.ga K "_law_mixed") fd_59 := ⟨D_59, He.glo_ok X G (c.a.fact 52 (f := .glo "_law_mixed") rfl)⟩
  have A_60 : DefAt K mg "_law_like" (top 60) (He.ga K "_law_like") fd_60 := ⟨D_60, He.glo_ok X G (c.a.fact 53 (f := .glo "_law_like") rfl)⟩
  have A_61 : DefAt K mg "_law_field" (top 61) (He.ga K "_law_field") fd_61 := ⟨D_61, He.glo_ok X G (c.a.fact 54 (f := .glo "_law_field") rfl)⟩
  have A_62 : DefAt K mg "_law_try" (top 62) (He.ga K "_law_try") fd_62 := ⟨D_62, He.glo_ok X G (c.a.fact 55 (f := .glo "_law_try") rfl)⟩
  have A_63 : DefAt K mg "_law_names" (top 63) (He.ga K "_law_names") fd_63 := ⟨D_63, He.glo_ok X G (c.a.fact 56 (f := .glo "_law_names") rfl)⟩
  have A_64 : DefAt K mg "_law_is_number" (top 64) (He.ga K "_law_is_number") fd_64 := ⟨D_64, He.glo_ok X G (c.a.fact 57 (f := .glo "_law_is_number") rfl)⟩
  have A_65 : DefAt K mg "_law_is_whole" (top 65) (He.ga K "_law_is_whole") fd_65 := ⟨D_65, He.glo_ok X G (c.a.fact 58 (f := .glo "_law_is_whole") rfl)⟩
  have A_66 : DefAt K mg "_law_bears" (top 66) (He.ga K "_law_bears") fd_66 := ⟨D_66, He.glo_ok X G (c.a.fact 59 (f := .glo "_law_bears") rfl)⟩
  have A_67 : DefAt K mg "_law_order" (top 67) (He.ga K "_law_order") fd_67 := ⟨D_67, He.glo_ok X G (c.a.fact 60 (f := .glo "_law_order") rfl)⟩
  have A_68 : DefAt K mg "_law_is_vector" (top 68) (He.ga K "_law_is_vector") fd_68 := ⟨D_68, He.glo_ok X G (c.a.fact 61 (f := .glo "_law_is_vector") rfl)⟩
  have A_69 : DefAt K mg "_law_vectors_fault" (top 69) (He.ga K "_law_vectors_fault") fd_69 := ⟨D_69, He.glo_ok X G (c.a.fact 62 (f := .glo "_law_vectors_fault") rfl)⟩
  have A_70 : DefAt K mg "_law_dot" (top 70) (He.ga K "_law_dot") fd_70 := ⟨D_70, He.glo_ok X G (c.a.fact 63 (f := .glo "_law_dot") rfl)⟩
  have A_71 : DefAt K mg "_law_weights_of" (top 71) (He.ga K "_law_weights_of") fd_71 := ⟨D_71, He.glo_ok X G (c.a.fact 64 (f := .glo "_law_weights_of") rfl)⟩
  have A_72 : DefAt K mg "_law_vector" (top 72) (He.ga K "_law_vector") fd_72 := ⟨D_72, He.glo_ok X G (c.a.fact 65 (f := .glo "_law_vector") rfl)⟩
  have A_73 : DefAt K mg "_law_less" (top 73) (He.ga K "_law_less") fd_73 := ⟨D_73, He.glo_ok X G (c.a.fact 66 (f := .glo "_law_less") rfl)⟩
  have A_74 : DefAt K mg "_law_weights_due" (top 74) (He.ga K "_law_weights_due") fd_74 := ⟨D_74, He.glo_ok X G (c.a.fact 67 (f := .glo "_law_weights_due") rfl)⟩
  have A_75 : DefAt K mg "_law_row_of" (top 75) (He.ga K "_law_row_of") fd_75 := ⟨D_75, He.glo_ok X G (c.a.fact 68 (f := .glo "_law_row_of") rfl)⟩
  have A_76 : DefAt K mg "_law_weights_so" (top 76) (He.ga K "_law_weights_so") fd_76 := ⟨D_76, He.glo_ok X G (c.a.fact 69 (f := .glo "_law_weights_so") rfl)⟩
  have A_77 : DefAt K mg "_law_refused_so" (top 77) (He.ga K "_law_refused_so") fd_77 := ⟨D_77, He.glo_ok X G (c.a.fact 70 (f := .glo "_law_refused_so") rfl)⟩
  have A_78 : DefAt K mg "law" (top 78) (He.ga K "law") fd_78 := ⟨D_78, He.glo_ok X G (c.a.fact 71 (f := .glo "law") rfl)⟩
  have B : Blt mg := ⟨He.free_ok X G (c.a.fact 0 (f := .free "isinstance") rfl), He.free_ok X G (c.a.fact 1 (f := .free "str") rfl), He.free_ok X G (c.a.fact 2 (f := .free "int") rfl), He.free_ok X G (c.a.fact 3 (f := .free "bool") rfl), He.free_ok X G (c.a.fact 4 (f := .free "list") rfl), He.free_ok X G (c.a.fact 5 (f := .free "tuple") rfl), He.free_ok X G (c.a.fact 6 (f := .free "dict") rfl), He.free_ok X G (c.a.fact 7 (f := .free "len") rfl), He.free_ok X G (c.a.fact 8 (f := .free "all") rfl), He.free_ok X G (c.a.fact 9 (f := .free "any") rfl), He.free_ok X G (c.a.fact 10 (f := .free "set") rfl), He.free_ok X G (c.a.fact 11 (f := .free "sorted") rfl), He.free_ok X G (c.a.fact 12 (f := .free "enumerate") rfl), He.free_ok X G (c.a.fact 13 (f := .free "divmod") rfl), He.free_ok X G (c.a.fact 14 (f := .free "zip") rfl), He.free_ok X G (c.a.fact 15 (f := .free "sum") rfl), He.free_ok X G (c.a.fact 16 (f := .free "abs") rfl), He.free_ok X G (c.a.fact 17 (f := .free "max") rfl), He.free_ok X G (c.a.fact 18 (f := .free "range") rfl), He.free_ok X G (c.a.fact 19 (f := .free "repr") rfl)⟩
  have T : Cst mg := ⟨He.str_ok X G (c.a.fact 20 (f := .str "LETTERS" abc) rfl), He.int_ok X G (c.a.fact 21 (f := .int "NAME_LENGTH" 6) rfl), He.int_ok X G (c.a.fact 22 (f := .int "MOST_REASONS" 7) rfl), He.int_ok X G (c.a.fact 23 (f := .int "MOST_RANKED" 7) rfl)⟩
  have hx := c.more
  unfold exB at hx
  simp only [Bool.and_eq_true, decide_eq_true_eq] at hx
  obtain ⟨⟨x1, x2, x3, x4⟩, ⟨x5, x6⟩, ⟨x7, x8, x9⟩, x10, x11, x12⟩ := hx
  obtain ⟨w1, w2⟩ := He5.wrapB_ok x10
  have Gi : ErrC K mg "InvalidVector" "at" (He.ga K "InvalidVector") (He.ma K (He.ga K "InvalidVector") "__init__") := ⟨oexB_ok x1, (He.meth_ok (c.a.fact 84 (f := .meth "InvalidVector" "__init__") rfl)).at_, x5, He.noat_ok (c.a.fact 72 (f := .noat "InvalidVector" "code") rfl), He.noat_ok (c.a.fact 73 (f := .noat "InvalidVector" "at") rfl), He.glo_ok X G (c.a.fact 24 (f := .glo "InvalidVector") rfl)⟩
  have Gt : ErrC K mg "TooMany" "most" (He.ga K "TooMany") (He.ma K (He.ga K "TooMany") "__init__") := ⟨oexB_ok x2, (He.meth_ok (c.a.fact 85 (f := .meth "TooMany" "__init__") rfl)).at_, x6, He.noat_ok (c.a.fact 74 (f := .noat "TooMany" "code") rfl), He.noat_ok (c.a.fact 75 (f := .noat "TooMany" "most") rfl), He.glo_ok X G (c.a.fact 25 (f := .glo "TooMany") rfl)⟩
  have R : RowC K mg (He.ga K "Row") (He.ma K (He.ga K "Row") "__init__") := ⟨He.mkr_ok (c.a.fact 91 (f := .mkr "Row") rfl), He.cls_ok (c.a.fact 94 (f := .cls "Row") rfl), He.noat_ok (c.a.fact 76 (f := .noat "Row" "pro") rfl), He.noat_ok (c.a.fact 77 (f := .noat "Row" "con") rfl), He.noat_ok (c.a.fact 78 (f := .noat "Row" "named") rfl), He.glo_ok X G (c.a.fact 29 (f := .glo "Row") rfl)⟩
  have Gb : BookC K mg (He.ga K "Book") (He.ma K (He.ga K "Book") "__init__") (He.ma K (He.ga K "Book") "records") (He.ma K (He.ga K "Book") "grown") := ⟨He.mkr_ok (c.a.fact 92 (f := .mkr "Book") rfl), He.cls_ok (c.a.fact 95 (f := .cls "Book") rfl), He.noat_ok (c.a.fact 79 (f := .noat "Book" "reasons") rfl), He.noat_ok (c.a.fact 80 (f := .noat "Book" "by_mark") rfl), ⟨_, rdB_ok x7, numB_ok x9⟩, He.meth_ok (c.a.fact 86 (f := .meth "Book" "records") rfl), He.meth_ok (c.a.fact 87 (f := .meth "Book" "grown") rfl), He.glo_ok X G (c.a.fact 30 (f := .glo "Book") rfl)⟩
  have Go : OrdC K mg (He.ga K "Order") (He.ma K (He.ga K "Order") "__init__") (He.ma K (He.ga K "Order") "names") (He.ma K (He.ga K "Order") "decides") (He.ma K (He.ga K "Order") "bears") := ⟨He.mkr_ok (c.a.fact 93 (f := .mkr "Order") rfl), He.cls_ok (c.a.fact 96 (f := .cls "Order") rfl), He.noat_ok (c.a.fact 81 (f := .noat "Order" "ranked") rfl), He.noat_ok (c.a.fact 82 (f := .noat "Order" "spots") rfl), He.noat_ok (c.a.fact 83 (f := .noat "Order" "reasons") rfl), He.meth_ok (c.a.fact 88 (f := .meth "Order" "names") rfl), He.meth_ok (c.a.fact 89 (f := .meth "Order" "decides") rfl), He.meth_ok (c.a.fact 90 (f := .meth "Order" "bears") rfl), He.glo_ok X G (c.a.fact 31 (f := .glo "Order") rfl)⟩
  have S : ∃ mc p, ClX.CRead K (He.ga K "Order") mc ∧ SMet K (He.ga K "Order") mc "read" p (He5.wf K (He.ga K "Order") "staticmethod" "read") := ⟨_, _, rdB_ok x8, w1, w2, MRead.kp⟩
  have bRow : Binds K fdRow ["self", "pro", "con"] [] := by
    obtain ⟨ds, r, b⟩ := FunD.binds1 (ps := ["self", "pro", "con"]) MRow 3 2 (List.cons_ne_nil _ _) rfl (fun T kV doc pm an cdv ct us its l1 l2 => match us, its, l1, l2 with | [u0, u1, u2], [i0, i1], _, _ => ⟨_, rfl, rfl⟩)
    cases r
    exact b
  obtain ⟨cc, ecc⟩ : ∃ cc, fd_77.code = .ref cc ∧ cc = (He.cT K ("_law_refused_so", none)).1 := by
    obtain ⟨oc, od, dV, kV, doc, pm, an, cdv, ct, osl, e, lk, hcd, _⟩ := D_77.ex
    obtain ⟨cc, e2⟩ := He.codeIn_ref hcd
    refine ⟨cc, by rw [e]; exact e2, (He.codeOf_eq (p := ("_law_refused_so", none)) lk (by rw [e]; exact e2)).symm⟩
  have b78 := FunD.bindsA (ps := ["_law_script"]) D_78 fun _ _ _ _ _ _ us hl => match us, hl with | [_], _ => rfl
  refine ⟨fd_78, cc, ecc.2, A_78.gl, fun s v => b78 s [v] rfl, fun base TB => ?_⟩
  have Nspelled := c_spelled (P := P) (w := w) (base := base) B T A_22
  have Nname := c_name T Nspelled A_23
  have Nnum := c_number (P := P) (w := w) (base := base) B A_24
  have Nnames := c_names B Nname A_25
  have Nnth := c_nth (P := P) (w := w) (base := base) B T A_27
  have Nstr := c_stranger (P := P) (w := w) (base := base) R A_33
  have FBook := c_bookI B T Nnames Gb M_2
  have Nbw := c_bookwith FBook Gb A_35
  have Nwhole := c_whole (P := P) (w := w) (base := base) B A_40
  have Nvec := c_vector B Nwhole A_42
  have Ncnt := c_counts B Nwhole A_43
  have Fi := c_iv (P := P) (w := w) (mg := mg) (base := base) M_0
  have Ft := c_tm (P := P) (w := w) (mg := mg) (base := base) M_1
  have Nchk := c_check B Nnum Nvec Gi Fi Gt Ft A_44
  have FRow := c_row B Nnames R MRow
  have FRec := c_records (P := P) (w := w) (base := base) B Gb M_3
  have FGrow := c_grown B R Gb Nstr Nnth Nbw FRec M_4
  have FOrd := c_orderI B T Nname Go M_5
  have FNam := c_onames (P := P) (w := w) (base := base) B Go M_6
  have FDec := c_decides (P := P) (w := w) (base := base) R Go M_7
  have FBea := c_bears R Go FDec M_8
  have FRead := c_read B T Nnames Go FOrd MRead
  have Now := c_oweights B Go FNam Nchk A_48
  have Nrow := c_rowof (dvs := []) (kws := []) B Gb FBook R FRow bRow Nvec A_46
  have Nvb := c_vbook (fI3 := 0) B Gb FBook Nrow Nchk FGrow A_47
  have Nun := c_unborne Gb Go B FRec FBea A_53
  have Nfit := c_fits B Nun A_54
  have Niw := c_isw B Nchk Ncnt A_45
  have Ldraw := c_draws (P := P) (w := w) (base := base) B A_56
  have Lpull := c_pull (P := P) (w := w) (K := K) (base := base) B A_57
  have Lany := c_any B Lpull A_58
  have Lmix := c_mixed B Lpull A_59
  have Llike := c_like (P := P) (w := w) (base := base) B A_60
  have Lfld := c_field (P := P) (w := w) (mg := mg) (base := base) C8.CX0 A_61
  have Lnames := c_lnames B Lpull Lany A_63
  have Lnum := c_lnum (P := P) (w := w) (K := K) (base := base) B A_64
  have Lwhole := c_lwhole (P := P) (w := w) (K := K) (base := base) B A_65
  have Lbears := c_lbears (P := P) (w := w) (base := base) B A_66
  have Lorder := c_lorder B Go S FRead A_67
  have Lvecq := c_lisvec B Lnum A_68
  have Lfault := c_lfault B Lnum Lvecq A_69
  have Ldot := c_ldot (P := P) (w := w) (base := base) B A_70
  have Lwof := c_lwof B Lwhole Ldot A_71
  have Lvec := c_lvec B Lpull Lany A_72
  have Lless := c_lless (P := P) (w := w) (base := base) B A_73
  have Ldue := c_ldue (P := P) (w := w) (base := base) B A_74
  have Lrow := c_lrow (P := P) (w := w) (base := base) B A_75
  have WS : WsC P w K mg base (He.ga K "Book") (He.ga K "Row") (He.ga K "Order") (He.ga K "InvalidVector") (He.ga K "TooMany") (He.ma K (He.ga K "Book") "records") (He.ma K (He.ga K "Order") "bears") :=
    { lo := ⟨_, _, Lorder⟩, lb := ⟨_, _, Lbears⟩, lr := ⟨_, _, Lrow⟩, ls := ⟨_, _, Lless⟩, ow := ⟨_, _, Now, kbn A_48.fn (fun kV doc pm an cdv ct us ws l1 l2 => match us, ws, l1, l2 with | [], [_, _], _, _ => rfl) (fun r1 r2 => vals_rev r2)⟩, ld := ⟨_, _, Ldue⟩, lk := ⟨_, _, Llike 3⟩, lq := ⟨_, _, Lwof⟩, iw := ⟨_, _, Niw⟩, vb := ⟨_, _, Nvb⟩, fi := ⟨_, _, Nfit⟩, re := ⟨_, FRec⟩, be := ⟨_, FBea⟩ }
  have Lws := c_wso B Gb R Go WS A_76
  have RS : RsC P w K mg base (He.ga K "Order") (He.ga K "InvalidVector") (He.ga K "TooMany") (He.ga K "ChoiceError") (He.ga K "Missing") (He.ga K "NothingLeft") (He.ma K (He.ga K "InvalidVector") "__init__") (He.ma K (He.ga K "TooMany") "__init__") :=
    { pu := ⟨_, _, Lpull⟩, an := ⟨_, _, Lany⟩, lf := ⟨_, _, Lfault⟩, ow := ⟨_, _, Now⟩, lo := ⟨_, _, Lorder⟩, ld := ⟨_, _, Ldue⟩, lk := ⟨_, _, Llike 3⟩, ty := ⟨_, _, A_62⟩,
      fl := ⟨_, _, Lfld, A_61.gl, A_61.fn.kp, A_61.fn.bindsN (fun _ _ _ _ _ _ us hl => match us, hl with | [_], _ => rfl)⟩,
      mC := He.glo_ok X G (c.a.fact 26 (f := .glo "ChoiceError") rfl), mM := He.glo_ok X G (c.a.fact 27 (f := .glo "Missing") rfl), mN := He.glo_ok X G (c.a.fact 28 (f := .glo "NothingLeft") rfl), xi := x11, xt := x12, Ti := xfB_ok x3, Tt := xfB_ok x4, Gi := Gi, Gt := Gt }
  have Lrs := c_rso B RS A_77 ecc.1 TB
  exact c_law B { dr := ⟨_, _, Ldraw⟩, an := ⟨_, _, Lany⟩, mi := ⟨_, _, Lmix⟩, ln := ⟨_, _, Lnames⟩, lv := ⟨_, _, Lvec⟩, ws := ⟨_, _, Lws⟩, rs := ⟨_, _, Lrs, A_77.gl, A_77.fn.kp, A_77.fn.bindsN (fun _ _ _ _ _ _ us hl => match us, hl with | [_, _, _], _ => rfl)⟩ } A_78
end
end Kb
/-! The head: the top's run, then the law's walk. -/
namespace Kb
open PySem PySem.Spec PyProof.Rows L2
abbrev Rw : PySem.W.OpenRow := PySem.W.OpenLaw.row PySem.Challenge.rw_firstdecides_k70_whole_orders_as_weights
abbrev qv : Program := PySem.W.view Rw.prog [78]
def ls0 : List Str := ["_wall", "ChoiceError", "Missing", "InvalidNumber", "InvalidSide", "InvalidReasons", "InvalidRecord", "InvalidOrder", "InvalidText", "InvalidVector", "DuplicateName", "TooMany", "OtherReasons", "UnknownMark", "UnknownReason", "NothingLeft", "lines_of", "LETTERS", "NAME_LENGTH", "is_spelled"]
def ls1 : List Str := ["is_name", "is_number", "is_names", "is_group", "nth_mark", "Row", "MOST_REASONS", "is_record", "stranger", "Book", "book_with", "head_flaw", "record_of", "record_flaw", "is_whole", "is_vector", "are_counts", "check_vectors", "is_weights", "row_of_vector"]
def ls2 : List Str := ["vector_book", "order_weights", "MOST_RANKED", "Order", "unborne", "fits", "_law_draws", "_law_pull", "_law_any", "_law_mixed", "_law_like", "_law_field", "_law_try", "_law_names", "_law_is_number", "_law_is_whole", "_law_bears", "_law_order", "_law_is_vector", "_law_vectors_fault"]
def ls3 : List Str := ["_law_dot", "_law_weights_of", "_law_vector", "_law_less", "_law_weights_due", "_law_row_of", "_law_weights_so", "_law_refused_so"]
def lsL : List Str := ls0 ++ (ls1 ++ (ls2 ++ ls3))
def nK0 : List Str := ["InvalidVector", "TooMany", "ChoiceError", "Missing", "NothingLeft", "Row", "Book", "Order", "is_spelled", "is_name", "is_number", "is_names", "nth_mark", "stranger", "book_with", "is_whole", "is_vector", "are_counts", "check_vectors", "is_weights"]
def nK1 : List Str := ["row_of_vector", "vector_book", "order_weights", "unborne", "fits", "_law_draws", "_law_pull", "_law_any", "_law_mixed", "_law_like", "_law_field", "_law_try", "_law_names", "_law_is_number", "_law_is_whole", "_law_bears", "_law_order", "_law_is_vector", "_law_vectors_fault", "_law_dot"]
def nK2 : List Str := ["_law_weights_of", "_law_vector", "_law_less", "_law_weights_due", "_law_row_of", "_law_weights_so", "_law_refused_so", "law"]
def nK : List Str := nK0 ++ (nK1 ++ nK2)
abbrev hkL : PySem.W.Hook := hookK nK faL fnL tfL exB
def obL (s : PySem.W.SharedT) : AlK := obK nK faL fnL tfL exB (HandSHeadRun.getT s)
theorem obL_eq (s : PySem.W.SharedT) : obL s = hkL.obs s.abs := obK_eq (HandSHeadRun.getT_eq s)
theorem runL (w : World) : HandSHeadRun.RunEq Rw qv hkL obL 20000 lsL w := by
  intro os
  kernel_rfl
end Kb
/-! The law holds. -/
namespace Kb
open PySem PySem.Spec PyProof.Rows L2
theorem tabs0 {Pt : Addr} {H : Hp} (h : H Pt = some (.tbl #[])) : LamX.Tabs [(Pt, qRs)] H := fun p hp => by
  rw [List.mem_singleton.mp hp]
  exact LamX.TabS.nil h
theorem law_name : (HandSHeadRun.topDef Rw.prog 78).name = ("law" : Str) := by kernel_rfl
theorem walkL : PySem.W.WalkO qv lsL (PySem.W.XL qv []) hkL.says PySem.Challenge.rw_firstdecides_k70_whole_orders_as_weights.row.toRowW (HandSHeadRun.topDef Rw.prog 78) [] (fun f vs => PySem.call f vs) := by
  refine Att.attach_callB (l := PySem.Challenge.rw_firstdecides_k70_whole_orders_as_weights) (n := 63) rfl (by kernel_rfl) fun w s₀ s₁ mg mb fa o pm cd doc a vs ns G Y ho hd hcd hmg hobj hints hlen hbits hg => ?_
  obtain ⟨K, KX, c⟩ := Y
  have hm : mg ("law" : Str) = some (.ref fa) := by
    rw [← law_name]
    exact hmg
  obtain ⟨fd, cc, ecc, gl, hb, hF⟩ := facts (P := PySem.Challenge.rw_firstdecides_k70_whole_orders_as_weights.prog) (w := w) KX G.T.g c
  have efa : fa = He.ga K "law" := by
    have z := Option.some.inj (hm.symm.trans gl)
    cases z
    rfl
  subst efa
  subst ecc
  have mem : (("_law_refused_so", none) : He.Defn) ∈ tfL := List.mem_cons_self
  exact call_law KX G.T.g G.T.b G.T.builtins G.T.nolimit hg (c.nil _ mem) (c.out _ mem) (PySem.W.codeHd_of_K KX (c.hd _ mem)) G.T.bmain hobj hints (Nat.le_trans hlen (by decide)) ⟨rfl, by decide, by decide⟩
    (fun base _ _ TB => hF base TB) hb (fun H hP hS => ⟨a, ns, rfl, hS, by omega, tabs0 hP, fun _ => rfl⟩)
end Kb
open PySem PySem.W PySem.Calls PyProof.Rows
theorem PySem.Challenge.cw_firstdecides_k70_whole_orders_as_weights_holds : PySem.Challenge.rw_firstdecides_k70_whole_orders_as_weights.Holds := by
  w_on; o_law
  refine HandSHeadRun.head_any (r := Kb.Rw) (q := Kb.qv) (H := Kb.hkL) (ob := Kb.obL) (M := 20000) (loose := Kb.lsL) (d := HandSHeadRun.topDef Kb.Rw.prog 78) (kwd := []) Kb.obL_eq
    (by kernel_rfl) (fun s => by kernel_rfl) Kb.runL (by kernel_rfl) (by kernel_rfl) (by kernel_rfl) (by rfl) (by first | assumption | decide +kernel) (by decide +kernel) ⟨rfl, rfl, rfl, rfl, rfl, by decide +kernel⟩ ?hw ?hc
  case hw => w_witness2
  case hc => exact Kb.walkL
