import PyProof.Rows.All
import Wide.All
import OpenK.AllK
import Wide.FinOn
import Lean
import PySem.Challenge.RW_rh0201_01
set_option Elab.async false
set_option linter.all false
namespace Mine
open PySem PySem.W PyProof.Rows
set_option maxRecDepth 100000 in
set_option maxHeartbeats 8000000 in
open_top hd for PySem.Challenge.rw_rh0201_01
open PySem.Calls PySem.Spec
-- Base
section
abbrev PG : Program := RowW.prog (OpenRow.toRowW (OpenLaw.row PySem.Challenge.rw_rh0201_01))
abbrev LedT := List (Addr × Obj)

/-- a contract of a def: what it asks of the ledger, what it hands back; it makes new things alone -/
def Spec (w : World) (f : Addr) (need : Nat) (vs : List Value) (Rel : LedT → Prop) (Out : LedT → LedT → Value → Prop) : Prop :=
  ∀ (p : Program) (loose : List Str) (mean : ExcName → Option Value) (mg mb : Str → Option Value)
    (dp un : Nat) (gd : Option (List Code)) (cn : Str) (cs : Scope) (a : Addr) (ccd : Value) (cl : List (Str × Addr)) (outer : List Env) (A₀ : Around) (base h₀ : Heap) (L : Addr) (m : Str → Option Value) (news : LedT) (s : Shared)
    (Q E : Value → Shared → Prop),
    Below A₀ base outer h₀ → Fr h₀ L s.heap m → Frag.In (Mine.hd.heap_39 w.params) h₀ → News h₀ L s.heap news → Top p loose mean mg mb h₀ → cs.kind = .function → Rel news → dp + need < recursionLimit → un + 8 * need < cLine →
    (∀ r tl h' tk', Fr h₀ L h' m → News h₀ L h' (tl ++ news) → (∀ q ∈ news, ∀ p ∈ tl, @Ne Nat p.1 q.1) → Out news tl r → Q r { s with heap := h', toks := tk' }) →
    wpAny (model (RowW.prog (OpenRow.toRowW (OpenLaw.row PySem.Challenge.rw_rh0201_01))) w) (ktrTop dp un gd cn cs L a ccd cl outer) (call (.ref f) vs) Q E s

theorem spec_use {w : World} {f : Addr} {need : Nat} {vs : List Value} {Rel : LedT → Prop} {Out : LedT → LedT → Value → Prop} {p : Program} {loose : List Str} {mean : ExcName → Option Value} {mg mb : Str → Option Value}
    {dp un : Nat} {gd : Option (List Code)} {cn : Str} {cs : Scope} {a : Addr} {ccd : Value} {cl : List (Str × Addr)} {outer : List Env} {A₀ : Around} {base h₀ : Heap} {L : Addr} {m : Str → Option Value} {news : LedT} {s : Shared}
    {Q E : Value → Shared → Prop} (C : Spec w f need vs Rel Out)
    (B : Below A₀ base outer h₀) (F : Fr h₀ L s.heap m) (X : Frag.In (Mine.hd.heap_39 w.params) h₀) (N : News h₀ L s.heap news) (T : Top p loose mean mg mb h₀) (hk : cs.kind = .function) (R : Rel news) (hd : dp + need < recursionLimit) (hu : un + 8 * need < cLine)
    (ret : ∀ r tl h' tk', Fr h₀ L h' m → News h₀ L h' (tl ++ news) → (∀ q ∈ news, ∀ p ∈ tl, @Ne Nat p.1 q.1) → Out news tl r → Q r { s with heap := h', toks := tk' }) :
    wpAny (model (RowW.prog (OpenRow.toRowW (OpenLaw.row PySem.Challenge.rw_rh0201_01))) w) (ktrTop dp un gd cn cs L a ccd cl outer) (call (.ref f) vs) Q E s :=
  C p loose mean mg mb dp un gd cn cs a ccd cl outer A₀ base h₀ L m news s Q E B F X N T hk R hd hu ret

structure Row where
  id : Int
  ad : Int
  pr : Int
  dr : Int
  bk : Int
deriving DecidableEq

abbrev rowObj (r : Row) (t1 t2 t3 t4 t5 : Tok) (n : Nat) : Obj := { cls := .type "tuple", data := .seq #[.int r.id t1, .int r.ad t2, .int r.pr t3, .int r.dr t4, .int r.bk t5] n }
abbrev pairObj (p : Int × Int) (t1 t2 : Tok) (n : Nat) : Obj := { cls := .type "tuple", data := .seq #[.int p.1 t1, .int p.2 t2] n }

def RowAt (news : LedT) (v : Value) (r : Row) : Prop :=
  ∃ (a : Addr) (t1 t2 t3 t4 t5 : Tok) (n : Nat), v = .ref a ∧ (a, rowObj r t1 t2 t3 t4 t5 n) ∈ news
def PairAt (news : LedT) (v : Value) (p : Int × Int) : Prop :=
  ∃ (a : Addr) (t1 t2 : Tok) (n : Nat), v = .ref a ∧ (a, pairObj p t1 t2 n) ∈ news

theorem RowAt.mono {news news' : LedT} {v : Value} {r : Row} (h : RowAt news v r) (hs : ∀ p ∈ news, p ∈ news') : RowAt news' v r := by
  obtain ⟨a, t1, t2, t3, t4, t5, n, e, h⟩ := h
  exact ⟨a, t1, t2, t3, t4, t5, n, e, hs _ h⟩
theorem PairAt.mono {news news' : LedT} {v : Value} {r : Int × Int} (h : PairAt news v r) (hs : ∀ p ∈ news, p ∈ news') : PairAt news' v r := by
  obtain ⟨a, t1, t2, n, e, h⟩ := h
  exact ⟨a, t1, t2, n, e, hs _ h⟩

inductive RowAll (news : LedT) : List Value → List Row → Prop
  | nil : RowAll news [] []
  | cons {v : Value} {vs : List Value} {r : Row} {rs : List Row} : RowAt news v r → RowAll news vs rs → RowAll news (v :: vs) (r :: rs)

theorem RowAll.mono {news news' : LedT} {vs : List Value} {rs : List Row} (h : RowAll news vs rs) (hs : ∀ p ∈ news, p ∈ news') : RowAll news' vs rs := by
  induction h with
  | nil => exact .nil
  | cons h _ ih => exact .cons (h.mono hs) ih
theorem RowAll.length {news : LedT} {vs : List Value} {rs : List Row} (h : RowAll news vs rs) : vs.length = rs.length := by
  induction h with
  | nil => rfl
  | cons _ _ ih => rw [List.length_cons, List.length_cons, ih]
theorem RowAll.append {news : LedT} {vs ws : List Value} {rs qs : List Row} (h : RowAll news vs rs) (k : RowAll news ws qs) : RowAll news (vs ++ ws) (rs ++ qs) := by
  induction h with
  | nil => exact k
  | cons h _ ih => exact .cons h ih
theorem RowAll.take {news : LedT} {vs : List Value} {rs : List Row} (h : RowAll news vs rs) : ∀ i, RowAll news (vs.take i) (rs.take i) := by
  induction h with
  | nil => intro i; simp; exact .nil
  | cons h _ ih =>
    intro i
    cases i with
    | zero => exact .nil
    | succ i => exact .cons h (ih i)
theorem RowAll.drop {news : LedT} {vs : List Value} {rs : List Row} (h : RowAll news vs rs) : ∀ i, RowAll news (vs.drop i) (rs.drop i) := by
  induction h with
  | nil => intro i; simp; exact .nil
  | cons h k ih =>
    intro i
    cases i with
    | zero => exact .cons h k
    | succ i => exact ih i
theorem RowAll.get {news : LedT} {vs : List Value} {rs : List Row} (h : RowAll news vs rs) : ∀ {i : Nat} {v : Value}, vs[i]? = some v → ∃ r, rs[i]? = some r ∧ RowAt news v r := by
  induction h with
  | nil => intro i v e; simp at e
  | cons h k ih =>
    intro i v e
    cases i with
    | zero => simp at e; exact ⟨_, rfl, e ▸ h⟩
    | succ i => simpa using ih (by simpa using e)
theorem RowAll.set {news : LedT} {vs : List Value} {rs : List Row} (h : RowAll news vs rs) {v : Value} {r : Row} (hv : RowAt news v r) : ∀ i, RowAll news (vs.set i v) (rs.set i r) := by
  induction h with
  | nil => intro i; simp; exact .nil
  | cons h k ih =>
    intro i
    cases i with
    | zero => exact .cons hv k
    | succ i => exact .cons h (ih i)

/-- a list of rows -/
def RowsAt (news : LedT) (v : Value) (rs : List Row) : Prop :=
  ∃ (a : Addr) (vs : List Value) (n : Nat), v = .ref a ∧ (a, listOf vs.toArray n) ∈ news ∧ RowAll news vs rs

theorem RowsAt.mono {news news' : LedT} {v : Value} {rs : List Row} (h : RowsAt news v rs) (hs : ∀ p ∈ news, p ∈ news') : RowsAt news' v rs := by
  obtain ⟨a, vs, n, e, h, k⟩ := h
  exact ⟨a, vs, n, e, hs _ h, k.mono hs⟩

/-- None or a row -/
def OptAt (news : LedT) (v : Value) (o : Option Row) : Prop := match o with | none => v = .none | some q => RowAt news v q
theorem OptAt.mono {news news' : LedT} {v : Value} {o : Option Row} (h : OptAt news v o) (hs : ∀ p ∈ news, p ∈ news') : OptAt news' v o := by
  cases o with
  | none => exact h
  | some q => exact RowAt.mono h hs
-- what comes back
def BoolOut (b : Bool) (_ tl : LedT) (r : Value) : Prop := tl = [] ∧ r = .bool b
def IntOut (i : Int) (_ tl : LedT) (r : Value) : Prop := tl = [] ∧ ∃ t, r = .int i t
def RowsOut (rs : List Row) (news tl : LedT) (r : Value) : Prop := ∃ D vs n, tl = [(D, listOf vs.toArray n)] ∧ r = .ref D ∧ RowAll news vs rs
def OptRowOut (o : Option Row) (news tl : LedT) (r : Value) : Prop := tl = [] ∧ OptAt news r o
def PairOut (p : Int × Int) (_ tl : LedT) (r : Value) : Prop := ∃ D t1 t2 n, tl = [(D, pairObj p t1 t2 n)] ∧ r = .ref D
def RowOut (q : Row) (_ tl : LedT) (r : Value) : Prop := ∃ D t1 t2 t3 t4 t5 n, tl = [(D, rowObj q t1 t2 t3 t4 t5 n)] ∧ r = .ref D
def RowsNewOut (rs : List Row) (news tl : LedT) (r : Value) : Prop := ∃ D vs n tl', tl = (D, listOf vs.toArray n) :: tl' ∧ r = .ref D ∧ RowAll (tl' ++ news) vs rs

theorem intOut {news : LedT} {i j : Int} {t : Tok} (e : i = j) : IntOut j news [] (.int i t) := ⟨rfl, t, by rw [e]⟩
theorem boolOut {news : LedT} {i j : Bool} (e : i = j) : BoolOut j news [] (.bool i) := ⟨rfl, by rw [e]⟩
theorem pairOut {news : LedT} {p : Int × Int} {x y : Int} {D : Addr} {t1 t2 : Tok} {n : Nat} (e1 : x = p.1) (e2 : y = p.2) : PairOut p news [(D, pairObj (x, y) t1 t2 n)] (.ref D) := ⟨D, t1, t2, n, by rw [e1, e2], rfl⟩
-- the plain functions
def saysD (r : Row) : Bool := r.dr == r.ad
def saysB (r : Row) : Bool := r.bk == r.ad
def canBe (rs : List Row) : List Row := rs.filter fun r => decide (0 < r.pr)
def better (r b : Row) : Bool := decide (b.pr < r.pr) || (r.pr == b.pr && decide (b.id < r.id))
def bestStep (b : Option Row) (r : Row) : Option Row := match b with
  | none => some r
  | some q => if better r q then some r else some q
def best (rs : List Row) : Option Row := rs.foldl bestStep none
def addrOf (o : Option Row) : Int := match o with | none => 0 | some r => r.ad
def leftOf (rs : List Row) : List Row := rs.filter fun r => !saysD r
def chosenB (rs : List Row) : Int := addrOf (best (if decide (0 < ((leftOf rs).filter saysB).length) then (leftOf rs).filter saysB else leftOf rs))
def chosenD (rs : List Row) (b : Int) : Int := match best (rs.filter saysD) with | none => b | some r => r.ad
def oneRound (rs : List Row) : Int × Int := (chosenD (canBe rs) (chosenB (canBe rs)), chosenB (canBe rs))
def withSaid (r : Row) (p : Int × Int) : Row := { r with dr := p.1, bk := p.2 }
def isTurned (own : Row) (p : Int × Int) : Bool := if (p.1 == own.ad) != saysD own then true else (p.2 == own.ad) != saysB own
def elect (rs : List Row) (own : Row) : Int × Int :=
  if isTurned own (oneRound (rs ++ [own])) then oneRound (rs ++ [withSaid own (oneRound (rs ++ [own]))]) else oneRound (rs ++ [own])
end
-- Comp
section
open PyProof.Rows.LCg PyProof.Rows.LCt
theorem off1_fresh {D : Addr} {o : Obj} : ∀ {l : LedT}, Off1 D l → ∀ q ∈ l, ∀ p ∈ [(D, o)], @Ne Nat p.1 q.1
  | [], _ => fun _ h => nomatch h
  | _ :: _, x => fun q hq p hp => by
    rw [List.mem_singleton.mp hp]
    rcases List.mem_cons.mp hq with rfl | h
    · exact Ne.symm x.1
    · exact off1_fresh (o := o) x.2 q h _ (List.mem_singleton.mpr rfl)

theorem sub_skip1 {q x : Addr × Obj} {l : LedT} : ∀ p ∈ [q] ++ l, p ∈ q :: x :: l := fun p h => by
  rcases List.mem_cons.mp h with rfl | h
  · exact .head _
  · exact .tail _ (.tail _ h)
theorem fresh_one {D : Addr} {o : Obj} {l tl : LedT} (h : ∀ q ∈ l, ∀ p ∈ (D, o) :: tl, @Ne Nat p.1 q.1) : ∀ q ∈ l, @Ne Nat D q.1 := fun q hq => h q hq _ (.head _)
theorem fresh_of {D : Addr} {o : Obj} {l l' : LedT} (h : ∀ q ∈ l', @Ne Nat D q.1) (hs : ∀ p ∈ l, p ∈ l') : ∀ q ∈ l, ∀ p ∈ [(D, o)], @Ne Nat p.1 q.1 := fun q hq p hp => by
  rw [List.mem_singleton.mp hp]
  exact h q (hs q hq)
theorem sub_tail {q : Addr × Obj} {l l' : LedT} (h : ∀ p ∈ l, p ∈ l') : ∀ p ∈ [q] ++ l, p ∈ q :: l' := fun p hp => by
  rcases List.mem_cons.mp hp with rfl | hp
  · exact .head _
  · exact .tail _ (h p hp)
theorem fresh_lt {D : Addr} {o : Obj} {l : LedT} (h : ∀ p ∈ l, p.1 < D) : ∀ q ∈ l, ∀ p ∈ [(D, o)], @Ne Nat p.1 q.1 := fun q hq p hp => by
  rw [List.mem_singleton.mp hp]
  exact Nat.ne_of_gt (h q hq)
theorem fresh_all {D : Addr} {o : Obj} {l : LedT} (h : AllLt D l) : ∀ q ∈ l, ∀ p ∈ [(D, o)], @Ne Nat p.1 q.1 := fresh_lt (ktn_ltOf h)

section
variable {prog : Program} {w : World} {A : Around} {h₀ : Heap} {L : Addr} {m : Str → Option Value} {env : Env} {ct elt : Expr} {x : Str} {scope : Scope} {cl : List (Str × Addr)} {s : Shared} {ax : Addr} {its : Array Value} {P : Row → Bool} {news : LedT} {Fin : List Value → LedT → Prop}

theorem compEnd_mono {s₁ s₂ : Shared} {I C D : Addr} {oI oC oD : Obj} {S : LedT → Prop} {R R' : Value → LedT → Prop} {y y' : Value} (h : CompEnd h₀ L m s₁ I oI C oC D oD S R y s₂) (k : ∀ n, R y n → R' y' n) : CompEnd h₀ L m s₁ I oI C oC D oD S R' y' s₂ := by
  obtain ⟨h', tk, n', e, F, N, o, hs, r⟩ := h
  exact ⟨h', tk, n', e, F, N, o, hs, k _ r⟩

/-- a comprehension that keeps the rows that pass a test, over a list of the ledger -/
theorem filter_rest
    (turn : ∀ v r I oI C oC D m₂ h tk ys (E' : Value → Shared → Prop), RowAt news v r → NsObj oC m₂ → m₂ x = some v → Fr h₀ L h m → News h₀ L h ((I, oI) :: (C, oC) :: (D, lst ys) :: news) → Off3 I C D news → ((@Ne Nat I C) ∧ (@Ne Nat I D) ∧ (@Ne Nat C D)) →
      wpAny (model prog w) A (isTrue ct (compEnvC scope cl C env) (eval ct (compEnvC scope cl C env))) (fun ok s' => if ok = true then
        wpAny (model prog w) A (eval elt (compEnvC scope cl C env)) (CompEnd h₀ L m { s with heap := h, toks := tk } I oI C oC D (lst ys) (SrcAt h₀ ax its) (fun y news' => (y = v ∧ P r = true) ∧ news' = news)) E' s'
        else CompEnd h₀ L m { s with heap := h, toks := tk } I oI C oC D (lst ys) (SrcAt h₀ ax its) (fun _ news' => P r = false ∧ news' = news) Value.none s') E' { s with heap := h, toks := tk }) :
    ∀ (us : List Value) (qs : List Row) (i : Nat) (ys : List Value), RowAll news us qs → (∀ j, its[i + j]? = us[j]?) → (∀ zs, RowAll news zs (qs.filter P) → Fin (ys ++ zs) news) →
      CompRestT prog w A h₀ L m env ct elt x scope cl s (SrcAt h₀ ax its) (fun i v => its[i]? = some v) Fin us.length i ys news := by
  intro us
  induction us with
  | nil =>
    intro qs i ys hR _ fin
    cases hR
    have := fin [] .nil
    rw [List.append_nil] at this
    exact this
  | cons u us ih =>
    intro qs i ys hR hat fin
    cases hR with
    | cons h1 h2 =>
      rename_i r rs
      refine CompRestT.succ fun v I oI C oC D m₂ h tk E' hv hC hx F N off ne => ?_
      have e0 := hat 0
      rw [Nat.add_zero] at e0
      have hv' : its[i]? = some v := hv
      rw [hv', List.getElem?_cons_zero] at e0
      have e1 : v = u := Option.some.inj e0
      subst e1
      have nxt : ∀ j, its[i + 1 + j]? = us[j]? := fun j => by
        have := hat (j + 1)
        rw [List.getElem?_cons_succ] at this
        rw [show i + 1 + j = i + (j + 1) by omega]
        exact this
      refine wpAny_mono (turn v r I oI C oC D m₂ h tk ys E' h1 hC hx F N off ne) (fun ok s' q => ?_) fun _ _ e => e
      by_cases hok : ok = true
      · rw [if_pos hok] at q ⊢
        refine wpAny_mono q (fun y s₂ q₂ => compEnd_mono q₂ fun n' hn => ?_) fun _ _ e => e
        obtain ⟨⟨hy, hP⟩, hn⟩ := hn
        subst hn
        rw [hy]
        refine ih rs (i + 1) (ys ++ [v]) h2 nxt fun zs hz => ?_
        rw [List.append_assoc]
        refine fin (v :: zs) ?_
        rw [List.filter_cons, if_pos hP]
        exact .cons h1 hz
      · rw [if_neg hok] at q ⊢
        refine compEnd_mono q fun n' hn => ?_
        obtain ⟨hP, rfl⟩ := hn
        refine ih rs (i + 1) ys h2 nxt fun zs hz => fin zs ?_
        rw [List.filter_cons, hP]
        simpa using hz

theorem filter_src {Fin' : Shared → List Value → LedT → Prop} {vs : List Value} {rs : List Row} {n : Nat} {s₁ : Shared} (P : Row → Bool)
    (hh : A.handled = none) (F : Fr h₀ L s₁.heap m) (N : News h₀ L s₁.heap news) (hm : (ax, listOf vs.toArray n) ∈ news) (hR : RowAll news vs rs) (hz : rs.length ≤ 64)
    (turn : ∀ v r I oI C oC D m₂ h tk ys (E' : Value → Shared → Prop), RowAt news v r → NsObj oC m₂ → m₂ x = some v → Fr h₀ L h m → News h₀ L h ((I, oI) :: (C, oC) :: (D, lst ys) :: news) → Off3 I C D news → ((@Ne Nat I C) ∧ (@Ne Nat I D) ∧ (@Ne Nat C D)) →
      wpAny (model prog w) A (isTrue ct (compEnvC scope cl C env) (eval ct (compEnvC scope cl C env))) (fun ok s' => if ok = true then
        wpAny (model prog w) A (eval elt (compEnvC scope cl C env)) (CompEnd h₀ L m { s₁ with heap := h, toks := tk } I oI C oC D (lst ys) (SrcAt h₀ ax vs.toArray) (fun y news' => (y = v ∧ P r = true) ∧ news' = news)) E' s'
        else CompEnd h₀ L m { s₁ with heap := h, toks := tk } I oI C oC D (lst ys) (SrcAt h₀ ax vs.toArray) (fun _ news' => P r = false ∧ news' = news) Value.none s') E' { s₁ with heap := h, toks := tk })
    (fin : ∀ g zs, RowAll news zs (rs.filter P) → Fin' { s₁ with heap := g } zs news) :
    CompSrcT prog w A h₀ L m env ct elt x scope cl Fin' (.ref ax) s₁ := by
  refine CompSrcT.ledger hh F N hm (by rw [List.size_toArray, hR.length]; exact Nat.le_trans hz (Nat.le_of_ble_eq_true rfl)) fun g => ?_
  have := filter_rest (prog := prog) (w := w) (A := A) (h₀ := h₀) (L := L) (m := m) (env := env) (ct := ct) (elt := elt) (x := x) (scope := scope) (cl := cl) (s := { s₁ with heap := g }) (ax := ax) (its := vs.toArray) (P := P) (news := news) (Fin := Fin' { s₁ with heap := g })
    turn vs rs 0 [] hR (fun j => by simp) (fun zs hz => by simpa using fin g zs hz)
  simpa using this
end
end
-- Tup
section
section
variable {prog : Program} {w : World} {A : Around} {E : Value → Shared → Prop} {s : Shared}
/-- two pairs of ints: the first pair that differs decides -/
theorem gt_pair_tree {a b : Addr} {x1 x2 y1 y2 : Int} {t1 t2 u1 u2 : Tok} {n k : Nat} {P : PySem.Fin → Shared → Prop}
    (ha : s.heap.get? a = some (pairObj (x1, x2) t1 t2 n)) (hb : s.heap.get? b = some (pairObj (y1, y2) u1 u2 k))
    (h : P (.done (.ret (.bool (decide (y1 < x1) || (x1 == y1 && decide (y2 < x2)))))) s) :
    wpAny (model prog w) A (Builtin.«tuple.__gt__» ⟨[.ref a, .ref b], []⟩) P E s := by
  have hTb : s.TypeIs (.ref b) "tuple" := ⟨_, hb, rfl⟩
  show wpAny _ _ (isInstance (.ref b) (.type "tuple") >>= _) _ _ s
  refine wpAny_bind (wpAny_isInstance hTb isSubtype_tuple_tuple ?_)
  simp only [Bool.not_true, Bool.false_eq_true, if_false]
  refine wpAny_bind (wpAny_tupleItemsOf ha rfl ?_)
  refine wpAny_bind (wpAny_tupleItemsOf hb rfl ?_)
  refine wpAny_bind ?_
  show wpAny _ _ (forIn [(Value.int x1 t1, Value.int y1 u1), (Value.int x2 t2, Value.int y2 u2)] _ _) _ _ s
  rw [List.forIn_cons]
  refine wpAny_bind ?_
  refine wpAny_bind (wpAny_eqBool_int ?_)
  by_cases e1 : x1 = y1
  · subst e1
    simp only [beq_self_eq_true, Bool.not_true, Bool.false_eq_true, if_false]
    refine wpAny_pure ?_
    show wpAny _ _ (forIn [(Value.int x2 t2, Value.int y2 u2)] _ _) _ _ s
    rw [List.forIn_cons]
    refine wpAny_bind ?_
    refine wpAny_bind (wpAny_eqBool_int ?_)
    have e0 : decide (x1 < x1) = false := by simp
    rw [e0, Bool.false_or, beq_self_eq_true, Bool.true_and] at h
    by_cases e2 : x2 = y2
    · subst e2
      simp only [beq_self_eq_true, Bool.not_true, Bool.false_eq_true, if_false]
      refine wpAny_pure ?_
      dsimp only
      rw [List.forIn_nil]
      refine wpAny_pure ?_
      have e3 : decide (x2 < x2) = false := by simp
      rw [e3] at h
      exact (show wpAny (model prog w) A (ret (.bool false)) P E s from wpAny_pure h)
    · have e3 : (x2 == y2) = false := by simpa using e2
      simp only [e3, Bool.not_false, if_true]
      refine wpAny_bind (wpAny_rule (wpAny_bind ?_))
      refine wpAny_mono (show wpAny (model prog w) A (compareOp .Gt (.int x2 t2) (.int y2 u2)) _ E s from PyProof.Rows.gt_int (Q := fun v s' => v = .bool (decide (y2 < x2)) ∧ s' = s) ⟨rfl, rfl⟩) ?_ fun _ _ e => e
      rintro v s' ⟨rfl, rfl⟩
      exact wpAny_bind (wpAny_pure (wpAny_pure (wpAny_pure (wpAny_pure h))))
  · have e3 : (x1 == y1) = false := by simpa using e1
    rw [e3, Bool.false_and, Bool.or_false] at h
    simp only [e3, Bool.not_false, if_true]
    refine wpAny_bind (wpAny_rule (wpAny_bind ?_))
    refine wpAny_mono (show wpAny (model prog w) A (compareOp .Gt (.int x1 t1) (.int y1 u1)) _ E s from PyProof.Rows.gt_int (Q := fun v s' => v = .bool (decide (y1 < x1)) ∧ s' = s) ⟨rfl, rfl⟩) ?_ fun _ _ e => e
    rintro v s' ⟨rfl, rfl⟩
    exact wpAny_bind (wpAny_pure (wpAny_pure (wpAny_pure (wpAny_pure h))))

theorem gt_pair {a b : Addr} {x1 x2 y1 y2 : Int} {t1 t2 u1 u2 : Tok} {n k : Nat} {Q : Value → Shared → Prop} (hu : A.units < cLine)
    (ha : s.heap.get? a = some (pairObj (x1, x2) t1 t2 n)) (hb : s.heap.get? b = some (pairObj (y1, y2) u1 u2 k))
    (h : Q (.bool (decide (y1 < x1) || (x1 == y1 && decide (y2 < x2)))) s) :
    wpAny (model prog w) A (compareOp .Gt (.ref a) (.ref b)) Q E s := by
  refine cmp_ofGt ?_
  have hTa : s.TypeIs (.ref a) "tuple" := ⟨_, ha, rfl⟩
  have hTb : s.TypeIs (.ref b) "tuple" := ⟨_, hb, rfl⟩
  exact wpAny_richCompare_same_room (op := .Gt) hTa hTb F.slot_tuple_gt
    (wpAny_call_entry F.slot_tuple_gt hTa F.entry_tuple_gt (gt_pair_tree ha hb ⟨_, rfl, (fun e => nomatch e), h⟩) (F.args_tuple_gt_2 _ _)) hu
theorem len_rows {l : Addr} {vs : List Value} {rs : List Row} {news : LedT} {Q : Value → Shared → Prop} (hl : s.heap.IsList l vs.toArray) (hr : RowAll news vs rs) (hz : rs.length ≤ 64)
    (h : Q (.int rs.length (s.toks + 1)) { s with toks := s.toks + 1 + 1 }) : wpAny (model prog w) A (call (.builtin "len") [.ref l]) Q E s := by
  have e : vs.toArray.size = rs.length := by rw [List.size_toArray, hr.length]
  refine len_list hl ?_ (by rw [e]; exact h)
  rw [e]
  exact Int.lt_of_le_of_lt (Int.ofNat_le.mpr hz) (by decide)
end
end
-- Lst
section
/-- the walk halts here -/
def Hold (P : Prop) : Prop := P
theorem Hold.intro {P : Prop} (h : Hold P) : P := h
theorem Hold.out {P : Prop} (h : P) : Hold P := h
section
variable {prog : Program} {w : World} {A : Around} {E : Value → Shared → Prop} {s : Shared} {h₀ : Heap} {L a b D : Addr} {m : Str → Option Value} {news news' : LedT} {vs ws : List Value} {rs qs : List Row} {n k : Nat} {Q : Value → Shared → Prop}

theorem rows_sz (hr : RowAll news vs rs) (hz : rs.length ≤ 64) : vs.toArray.size ≤ sizeLine := by
  rw [List.size_toArray, hr.length]
  exact Nat.le_trans hz (Nat.le_of_ble_eq_true rfl)

theorem rows_copy (F : Fr h₀ L s.heap m) (N : News h₀ L s.heap news) (hm : (a, listOf vs.toArray n) ∈ news) (hr : RowAll news vs rs) (hz : rs.length ≤ 64)
    (h : ∀ D c h', Fr h₀ L h' m → News h₀ L h' ((D, listOf vs.toArray c) :: news) → (∀ q ∈ news, q.1 < D) → RowAll news vs rs → Q (.ref D) { s with heap := h' }) :
    wpAny (model prog w) A (call (.type "list") [.ref a]) Q E s :=
  list_copyK F N (News.isList N hm) (fun D c h' F' N' l => h D c h' F' N' l hr) (rows_sz hr hz)

theorem rows_add (F : Fr h₀ L s.heap m) (N : News h₀ L s.heap news) (ha : (a, listOf vs.toArray n) ∈ news) (hb : (b, listOf ws.toArray k) ∈ news) (hr : RowAll news vs rs) (hq : RowAll news ws qs) (hz : rs.length ≤ 64) (hz2 : qs.length ≤ 64)
    (h : ∀ D h', Fr h₀ L h' m → News h₀ L h' ((D, listOf (vs ++ ws).toArray 0) :: news) → (∀ q ∈ news, q.1 < D) → RowAll news (vs ++ ws) (rs ++ qs) → Q (.ref D) { s with heap := h' }) :
    wpAny (model prog w) A (binaryOp .Add (.ref a) (.ref b)) Q E s := by
  refine kmk_add_lit (zs := vs ++ ws) F N (News.isList N ha) (News.isList N hb) rfl (fun D h' F' N' l => h D h' F' N' l (hr.append hq)) ?_
  show vs.length + ws.length ≤ sizeLine
  rw [hr.length, hq.length]
  exact Nat.le_trans (Nat.add_le_add hz hz2) (Nat.le_of_ble_eq_true rfl)

theorem pick_upto (vs : List Value) {y : Int} (h : 0 ≤ y) : kms_pick vs none (some y) = vs.take y.toNat := by
  unfold kms_pick kms_lo kms_hi
  dsimp only
  rw [if_neg (by omega), List.drop_zero, Nat.sub_zero, kmk_take_min]
theorem pick_from (vs : List Value) {x : Int} (h : 0 ≤ x) : kms_pick vs (some x) none = vs.drop x.toNat := by
  unfold kms_pick kms_lo kms_hi
  dsimp only
  rw [if_neg (by omega), kmk_drop_min]
  apply List.take_of_length_le
  rw [List.length_drop]
  omega

theorem rows_upto {value slice : PySem.Expr} {vl vu : Value} {y : Int} (F : Fr h₀ L s.heap m) (N : News h₀ L s.heap news) (hm : (a, listOf vs.toArray n) ∈ news) (pl : IsPart vl none) (pu : IsPart vu (some y)) (hr : RowAll news vs rs) (hz : rs.length ≤ 64) (hy : 0 ≤ y)
    (h : ∀ D h', Fr h₀ L h' m → News h₀ L h' ((D, listOf (vs.take y.toNat).toArray 0) :: news) → (∀ p ∈ news, p.1 < D) → RowAll news (vs.take y.toNat) (rs.take y.toNat) → Q (.ref D) { s with heap := h' })
    (hs : subscripted slice false (.ref a) (.ref s.heap.objs.size) = operate [.ref s.heap.objs.size, .ref a] (getItem (.ref a) (.ref s.heap.objs.size))) (ht : ∀ r, letTemporaryGo value (.ref a) r = pure ()) :
    wpAny (model prog w) A (subscriptTail value slice (.ref a) (.ref s.heap.objs.size)) Q E { s with heap := s.heap.push { cls := .type "slice", data := .fields #[vl, vu, .none] } } :=
  kms_slice_lit F N (News.isList N hm) pl pu (pick_upto vs hy) (fun D h' F' N' l => h D h' F' N' l (hr.take _)) hs ht (rows_sz hr hz)
theorem rows_from {value slice : PySem.Expr} {vl vu : Value} {x : Int} (F : Fr h₀ L s.heap m) (N : News h₀ L s.heap news) (hm : (a, listOf vs.toArray n) ∈ news) (pl : IsPart vl (some x)) (pu : IsPart vu none) (hr : RowAll news vs rs) (hz : rs.length ≤ 64) (hx : 0 ≤ x)
    (h : ∀ D h', Fr h₀ L h' m → News h₀ L h' ((D, listOf (vs.drop x.toNat).toArray 0) :: news) → (∀ p ∈ news, p.1 < D) → RowAll news (vs.drop x.toNat) (rs.drop x.toNat) → Q (.ref D) { s with heap := h' })
    (hs : subscripted slice false (.ref a) (.ref s.heap.objs.size) = operate [.ref s.heap.objs.size, .ref a] (getItem (.ref a) (.ref s.heap.objs.size))) (ht : ∀ r, letTemporaryGo value (.ref a) r = pure ()) :
    wpAny (model prog w) A (subscriptTail value slice (.ref a) (.ref s.heap.objs.size)) Q E { s with heap := s.heap.push { cls := .type "slice", data := .fields #[vl, vu, .none] } } :=
  kms_slice_lit F N (News.isList N hm) pl pu (pick_from vs hx) (fun D h' F' N' l => h D h' F' N' l (hr.drop _)) hs ht (rows_sz hr hz)

theorem rows_item {value slice : PySem.Expr} {x : Int} {u : Tok} (N : News h₀ L s.heap news) (hm : (a, listOf vs.toArray n) ∈ news) (hr : RowAll news vs rs) (h0 : 0 ≤ x) (h1 : x < rs.length) (hz : rs.length ≤ 64)
    (h : ∀ v r, vs[x.toNat]? = some v → rs[x.toNat]? = some r → RowAt news v r → Q v s)
    (hs : subscripted slice false (.ref a) (.int x u) = operate [.ref a, .int x u] (getItem (.ref a) (.int x u))) (ht : ∀ r, letTemporaryGo value (.ref a) r = pure ()) :
    wpAny (model prog w) A (subscriptTail value slice (.ref a) (.int x u)) Q E s := by
  have hlt : x.toNat < vs.length := by rw [hr.length]; omega
  obtain ⟨r, hrr, hrow⟩ := hr.get (List.getElem?_eq_getElem hlt)
  have hx : vs.toArray[x.toNat]? = some vs[x.toNat] := by rw [List.getElem?_toArray, List.getElem?_eq_getElem hlt]
  exact PyProof.Rows.item_list (News.isList N hm) h0 (by omega) hx (h _ r (List.getElem?_eq_getElem hlt) hrr hrow) hs ht

theorem rows_set {x : Int} {t : Tok} {v : Value} {Q : Unit → Shared → Prop} (F : Fr h₀ L s.heap m) (N : News h₀ L s.heap news) (U : Upd D (listOf vs.toArray n) (listOf (vs.set x.toNat v).toArray n) news news') (hr : RowAll news vs rs) (h0 : 0 ≤ x) (h1 : x < rs.length) (hz : rs.length ≤ 64)
    (h : ∀ h', Fr h₀ L h' m → News h₀ L h' news' → Q () { s with heap := h' }) :
    wpAny (model prog w) A (setItem (.ref D) (.int x t) v) Q E s := by
  obtain ⟨pre, post, rfl, rfl, a, b⟩ := U.split
  have z := N (D, listOf vs.toArray n) (List.mem_append.mpr (.inr (.head _)))
  have hl : vs.length = rs.length := hr.length
  have hs : vs.toArray.size = rs.length := by rw [List.size_toArray]; exact hl
  refine ki_setAt z.1 h0 (by omega) (by omega) (h _ (F.change (Heap.SameBut.update ..) z.2.1 z.2.2) (ki_turn _ N a b ?_ ?_))
  · show vs.toArray.setIfInBounds x.toNat v = (vs.set x.toNat v).toArray
    apply Array.toList_inj.mp
    simp
  · simp
end
end
-- Loop
section
section
variable {prog : Program} {w : World} {A : Around} {E : Value → Shared → Prop} {s : Shared} {env : Env} {h₀ : Heap} {x : Str} {body : List Stmt} {Q : Flow → Shared → Prop}

def RlEnd (h₀ : Heap) (L D : Addr) (x : Str) (stored : List Str) (m₀ : Str → Option Value) (all : LedT) (i : Nat) (ws : List Value) (cur cur' : List Row) (s₁ s₂ : Shared) : Prop :=
  ∃ (h' : Heap) (tk : Nat) (v : Value) (q : Row) (c : Nat) (add : LedT) (m' : Str → Option Value), s₂ = { s₁ with heap := h', toks := tk } ∧ Fr h₀ L h' m' ∧ News h₀ L h' ((D, listOf (ws.set i v).toArray c) :: (add ++ all)) ∧
    (∀ p ∈ add, @Ne Nat p.1 D) ∧ (∀ p ∈ add, ∀ q ∈ all, @Ne Nat p.1 q.1) ∧ RowAt add v q ∧ cur' = cur.set i q ∧ ∀ z, z ≠ x → stored.contains z = false → m' z = m₀ z
def RlPost (h₀ : Heap) (L D : Addr) (x : Str) (stored : List Str) (m₀ : Str → Option Value) (all : LedT) (i : Nat) (ws : List Value) (cur cur' : List Row) (s₁ : Shared) (Q : Flow → Shared → Prop) (f : Flow) (s₂ : Shared) : Prop :=
  match f with
  | .ret v => Q (.ret v) s₂
  | .brk => Q .next s₂
  | _ => RlEnd h₀ L D x stored m₀ all i ws cur cur' s₁ s₂

def RlJ (D : Addr) (x : Str) (stored : List Str) (m₀ : Str → Option Value) (news : LedT) (i : Nat) (cur : List Row) (m : Str → Option Value) (nx : LedT) : Prop :=
  ∃ (ws : List Value) (c : Nat) (junk : LedT), nx = (D, listOf ws.toArray c) :: (junk ++ news) ∧ (∀ p ∈ junk ++ news, @Ne Nat p.1 D) ∧ (∀ p ∈ junk, ∀ q ∈ news, @Ne Nat p.1 q.1) ∧ RowAll (junk ++ news) ws cur ∧ RowAll junk (ws.take i) (cur.take i) ∧ ∀ z, z ≠ x → stored.contains z = false → m z = m₀ z

/-- a fact laid by, out of the walk's sight -/
structure Kept (P : Prop) : Prop where
  out : P

theorem take_set {α : Type} (l : List α) (i : Nat) (v : α) (h : i < l.length) : (l.set i v).take (i + 1) = l.take i ++ [v] := by
  rw [List.take_set, List.take_succ, List.getElem?_eq_getElem h]
  have e : (l.take i).length = i := by rw [List.length_take]; omega
  show (l.take i ++ [l[i]]).set i v = _
  rw [List.set_append_right _ _ (by omega), e, Nat.sub_self]
  rfl
theorem range_small {n : Nat} (h : n ≤ 64) : Builtin.Range.small 0 (n : Int) 1 = true := by
  unfold Builtin.Range.small
  rw [rangeSize_nat]
  simp [Builtin.Range.rangeFitsLong]
  omega

/-- a loop over range(n) whose turn stores into one list of rows -/
theorem rows_loop {r D : Addr} {n : Nat} {vs : List Value} {c : Nat} {news : LedT} {m₀ : Str → Option Value} {t₀ u₀ w₀ : Tok} {rs : List Row} (step : List Row → Nat → List Row) (stored : List Str)
    (hh : A.handled = none) (hr : IsRange s.heap r 0 (n : Int) 1 t₀ u₀ w₀) (hz : n ≤ 64) (F : Fr h₀ env.locals s.heap m₀) (N : News h₀ env.locals s.heap ((D, listOf vs.toArray c) :: news)) (hA : RowAll news vs rs) (hD : ∀ q ∈ news, @LT.lt Nat _ q.1 D)
    (turn : ∀ (i : Nat) (ws : List Value) (c' : Nat) (cur : List Row) (t : Tok) (u : Str → Option Value) (all : LedT) (h : Heap) (tk : Nat), i < n → cur = (List.range i).foldl step rs → RowAll all ws cur → (∀ p ∈ all, p.1 ≠ D) →
      Fr h₀ env.locals h (fun z => if z = x then some (.int (i : Int) t) else if stored.contains z then u z else m₀ z) → News h₀ env.locals h ((D, listOf ws.toArray c') :: all) →
      wpAny (model prog w) A (execs body env) (RlPost h₀ env.locals D x stored m₀ all i ws cur (step cur i) { s with heap := h, toks := tk } Q) E { s with heap := h, toks := tk })
    (done : ∀ (ws : List Value) (c' : Nat) (u : Str → Option Value) (junk : LedT) (h : Heap) (tk : Nat), RowAll junk (ws.take n) (((List.range n).foldl step rs).take n) → ws.length = ((List.range n).foldl step rs).length → (∀ p ∈ junk, ∀ q ∈ news, @Ne Nat p.1 q.1) → (∀ p ∈ junk ++ news, @Ne Nat p.1 D) →
      Fr h₀ env.locals h (fun z => if z = x then u z else if stored.contains z then u z else m₀ z) → News h₀ env.locals h ((D, listOf ws.toArray c') :: (junk ++ news)) → Q .next { s with heap := h, toks := tk }) :
    wpAny (model prog w) A (pyIter (.ref r)) (fun it s₂ => LoopAtV prog w A h₀ env x body Q E it s₂) E s := by
  have keep : ∀ (m m₀ : Str → Option Value) (v : Option Value), (∀ z, z ≠ x → stored.contains z = false → m z = m₀ z) →
      (fun z => if z = x then v else m z) = fun z => if z = x then v else if stored.contains z then m z else m₀ z := by
    intro m m₀ v hm
    funext z
    by_cases h1 : z = x
    · simp [h1]
    · simp only [if_neg h1]
      cases h3 : stored.contains z with
      | true => simp
      | false => simp only [Bool.false_eq_true, if_false]; exact hm z h1 h3
  refine tbr_invG (fun i m nx => RlJ D x stored m₀ news i ((List.range i).foldl step rs) m nx) (n := n) hh hr (range_small hz) ?_ F N ⟨vs, c, [], rfl, fun p hp => Nat.ne_of_lt (hD p hp), (fun p hp => absurd hp List.not_mem_nil), hA, .nil, fun _ _ _ => rfl⟩ ?_ ?_
  · rw [rangeSize_nat]; simp
  · rintro i k t m₁ nx h tk own hk hoff ⟨ws, c', junk, rfl, hne, hjn, hR, hT, hm⟩ F₁ N₁
    have hi : i < n := by
      have := (List.getElem?_eq_some_iff.mp hk).1
      rwa [rangeKs_length] at this
    have hk' : k = (i : Int) := by
      unfold rangeKs at hk
      rw [List.getElem?_map, List.getElem?_range hi] at hk
      have := Option.some.inj hk
      rw [← this]; exact Int.zero_add _
    subst hk'
    rw [keep m₁ m₀ _ hm] at F₁
    have hne2 : ∀ p ∈ (junk ++ news) ++ own, @Ne Nat p.1 D := fun p hp => by
      rcases List.mem_append.mp hp with hp | hp
      · exact hne p hp
      · exact hoff p hp _ (.head _)
    refine wpAny_mono (turn i ws c' _ t m₁ ((junk ++ news) ++ own) h tk hi rfl (hR.mono fun p hp => List.mem_append_left _ hp) hne2 F₁ N₁) (fun f s₂ p => ?_) fun _ _ e => e
    have fin : RlEnd h₀ env.locals D x stored m₀ ((junk ++ news) ++ own) i ws ((List.range i).foldl step rs) (step ((List.range i).foldl step rs) i) { s with heap := h, toks := tk } s₂ →
        TbEnd h₀ env.locals (RlJ D x stored m₀ news (i + 1) ((List.range (i + 1)).foldl step rs)) own { s with heap := h, toks := tk } s₂ := by
      rintro ⟨h', tk', v', q', c'', add, m', e, F', N', ha, hb, hq', hc', hm'⟩
      have hs : (List.range (i + 1)).foldl step rs = step ((List.range i).foldl step rs) i := by
        rw [List.range_succ, List.foldl_append]
        rfl
      rw [hs]
      refine ⟨h', tk', m', _, (D, listOf (ws.set i v').toArray c'') :: ((add ++ junk) ++ news), e, F', N', ?_, ?_, ?_, ws.set i v', c'', add ++ junk, rfl, ?_, ?_, ?_, ?_, hm'⟩
      · intro p hp
        rcases List.mem_cons.mp hp with rfl | hp
        · exact .head _
        · refine List.mem_cons_of_mem _ ?_
          simp only [List.mem_append] at hp ⊢
          rcases hp with (hp | hp) | hp <;> simp [hp]
      · intro p hp
        refine List.mem_cons_of_mem _ ?_
        simp [hp]
      · intro p hp q hq
        rcases List.mem_cons.mp hq with rfl | hq
        · exact hoff p hp (D, listOf ws.toArray c') (.head _)
        · simp only [List.mem_append] at hq
          rcases hq with (hq | hq) | hq
          · exact fun e => hb q hq p (by simp [hp]) e.symm
          · exact hoff p hp q (List.mem_cons_of_mem _ (by simp [hq]))
          · exact hoff p hp q (List.mem_cons_of_mem _ (by simp [hq]))
      · intro p hp
        simp only [List.mem_append] at hp
        rcases hp with (hp | hp) | hp
        · exact ha p hp
        · exact hne p (by simp [hp])
        · exact hne p (by simp [hp])
      · intro p hp q hq
        rcases List.mem_append.mp hp with hp | hp
        · exact hb p hp q (by simp [hq])
        · exact hjn p hp q hq
      · rw [List.append_assoc, hc']
        exact (hR.mono fun p hp => List.mem_append_right _ hp).set (hq'.mono fun p hp => List.mem_append_left _ hp) i
      · by_cases hil : i < ws.length
        · have hil2 : i < ((List.range i).foldl step rs).length := hR.length ▸ hil
          rw [hc', take_set ws i v' hil, take_set _ i q' hil2]
          exact (hT.mono fun p hp => List.mem_append_right _ hp).append (.cons (hq'.mono fun p hp => List.mem_append_left _ hp) .nil)
        · have hil2 : ¬ i < ((List.range i).foldl step rs).length := hR.length ▸ hil
          rw [hc', List.set_eq_of_length_le (by omega), List.set_eq_of_length_le (by omega), List.take_of_length_le (by omega), List.take_of_length_le (by omega)]
          rw [List.take_of_length_le (by omega), List.take_of_length_le (by omega)] at hT
          exact hT.mono fun p hp => List.mem_append_right _ hp
    cases f with
    | ret v => exact p
    | brk => exact p
    | next => exact fin p
    | cont => exact fin p
  · rintro m₁ nx h tk ⟨ws, c', junk, rfl, hne, hjn, hR, hT, hm⟩ F₁ N₁
    have e : (fun z => if z = x then m₁ z else if stored.contains z then m₁ z else m₀ z) = m₁ := by
      funext z
      by_cases h1 : z = x
      · simp [h1]
      · simp only [if_neg h1]
        cases h3 : stored.contains z with
        | true => simp
        | false => simp only [Bool.false_eq_true, if_false]; exact (hm z h1 h3).symm
    exact done ws c' m₁ junk h tk hT hR.length hjn hne (by rw [e]; exact F₁) N₁
theorem rl_close {D D9 : Addr} {ws : List Value} {c n9 i : Nat} {all all9 l9 : LedT} {stored : List Str} {m₀ m' : Str → Option Value} {cur cur' : List Row} {q : Row} {t1 t2 t3 t4 t5 : Tok} {L : Addr} {h' : Heap} {tk : Nat} {s₁ : Shared}
    (F : Fr h₀ L h' m') (N : News h₀ L h' all9) (h1 : (D, listOf (ws.set i (.ref D9)).toArray c) ∈ all9) (h2 : (D9, rowObj q t1 t2 t3 t4 t5 n9) ∈ all9) (h3 : ∀ p ∈ all, p ∈ all9)
    (hk : ∀ q ∈ l9, @Ne Nat D9 q.1) (h4 : ∀ p ∈ all, p ∈ l9) (h5 : @Ne Nat D9 D) (e : cur' = cur.set i q) (hm : ∀ z, z ≠ x → stored.contains z = false → m' z = m₀ z) :
    RlEnd h₀ L D x stored m₀ all i ws cur cur' s₁ { s₁ with heap := h', toks := tk } := by
  refine ⟨h', tk, .ref D9, q, c, [(D9, rowObj q t1 t2 t3 t4 t5 n9)], m', rfl, F, ?_, ?_, ?_, ?_, e, hm⟩
  · intro p hp
    rcases List.mem_cons.mp hp with rfl | hp
    · exact N _ h1
    · rcases List.mem_cons.mp hp with rfl | hp
      · exact N _ h2
      · exact N _ (h3 _ hp)
  · intro p hp
    rw [List.mem_singleton.mp hp]
    exact h5
  · intro p hp r hr
    rw [List.mem_singleton.mp hp]
    exact hk r (h4 r hr)
  · exact ⟨D9, t1, t2, t3, t4, t5, n9, rfl, .head _⟩

def R1End (h₀ : Heap) (L : Addr) (x y : Str) (stored : List Str) (m₀ : Str → Option Value) (P : Value → LedT → Prop) (junk all : LedT) (s₁ s₂ : Shared) : Prop :=
  ∃ (h' : Heap) (tk : Nat) (v : Value) (add : LedT) (m' : Str → Option Value), s₂ = { s₁ with heap := h', toks := tk } ∧ Fr h₀ L h' m' ∧ News h₀ L h' (add ++ all) ∧
    (∀ p ∈ add, ∀ q ∈ all, @Ne Nat p.1 q.1) ∧ P v (add ++ junk) ∧ m' y = some v ∧ ∀ z, z ≠ x → z ≠ y → stored.contains z = false → m' z = m₀ z
def R1Post (h₀ : Heap) (L : Addr) (x y : Str) (stored : List Str) (m₀ : Str → Option Value) (P : Value → LedT → Prop) (junk all : LedT) (s₁ : Shared) (Q : Flow → Shared → Prop) (f : Flow) (s₂ : Shared) : Prop :=
  match f with
  | .ret v => Q (.ret v) s₂
  | .brk => Q .next s₂
  | _ => R1End h₀ L x y stored m₀ P junk all s₁ s₂
def R1J (x y : Str) (stored : List Str) (m₀ : Str → Option Value) (news : LedT) (P : Value → LedT → Prop) (m : Str → Option Value) (nx : LedT) : Prop :=
  ∃ (v : Value) (junk : LedT), nx = junk ++ news ∧ (∀ p ∈ junk, ∀ q ∈ news, @Ne Nat p.1 q.1) ∧ P v (junk ++ news) ∧ m y = some v ∧ ∀ z, z ≠ x → z ≠ y → stored.contains z = false → m z = m₀ z

/-- a loop over range(n) that turns one name's value; other names it stores are forgotten -/
theorem range_loop1 {r : Addr} {n : Nat} {news : LedT} {m₀ : Str → Option Value} {t₀ u₀ w₀ : Tok} {y : Str} {v₀ : Value} (P : Nat → Value → LedT → Prop) (stored : List Str)
    (hh : A.handled = none) (hr : IsRange s.heap r 0 (n : Int) 1 t₀ u₀ w₀) (hz : n ≤ 64) (F : Fr h₀ env.locals s.heap m₀) (N : News h₀ env.locals s.heap news) (hv : m₀ y = some v₀) (hP : P 0 v₀ news)
    (turn : ∀ (i : Nat) (v : Value) (t : Tok) (u : Str → Option Value) (junk all : LedT) (h : Heap) (tk : Nat), i < n → P i v (junk ++ news) → (∀ p ∈ junk, ∀ q ∈ news, @Ne Nat p.1 q.1) → (∀ p ∈ junk ++ news, p ∈ all) →
      Fr h₀ env.locals h (fun z => if z = x then some (.int (i : Int) t) else if z = y then some v else if stored.contains z then u z else m₀ z) → News h₀ env.locals h all →
      wpAny (model prog w) A (execs body env) (R1Post h₀ env.locals x y stored m₀ (P (i + 1)) (junk ++ news) all { s with heap := h, toks := tk } Q) E { s with heap := h, toks := tk })
    (done : ∀ (v : Value) (u : Str → Option Value) (junk : LedT) (h : Heap) (tk : Nat), P n v (junk ++ news) → (∀ p ∈ junk, ∀ q ∈ news, @Ne Nat p.1 q.1) →
      Fr h₀ env.locals h (fun z => if z = x then u z else if z = y then some v else if stored.contains z then u z else m₀ z) → News h₀ env.locals h (junk ++ news) → Q .next { s with heap := h, toks := tk }) :
    wpAny (model prog w) A (pyIter (.ref r)) (fun it s₂ => LoopAtV prog w A h₀ env x body Q E it s₂) E s := by
  have keep : ∀ (m : Str → Option Value) (v : Value) (o : Str → Option Value), m y = some v → (∀ z, z ≠ x → z ≠ y → stored.contains z = false → m z = m₀ z) →
      (fun z => if z = x then o z else m z) = fun z => if z = x then o z else if z = y then some v else if stored.contains z then m z else m₀ z := by
    intro m v o hv hm
    funext z
    by_cases h1 : z = x
    · simp [h1]
    · simp only [if_neg h1]
      by_cases h2 : z = y
      · simp only [if_pos h2, h2]; exact hv
      · simp only [if_neg h2]
        cases h3 : stored.contains z with
        | true => simp
        | false => simp only [Bool.false_eq_true, if_false]; exact hm z h1 h2 h3
  refine tbr_invG (n := n) (fun i m nx => R1J x y stored m₀ news (P i) m nx) hh hr (range_small hz) ?_ F N ⟨v₀, [], rfl, (fun p hp => absurd hp List.not_mem_nil), hP, hv, fun _ _ _ _ => rfl⟩ ?_ ?_
  · rw [rangeSize_nat]; simp
  · rintro i k t m₁ nx h tk own hk hoff ⟨v, junk, rfl, hjn, hP', hv', hm⟩ F₁ N₁
    have hi : i < n := by
      have := (List.getElem?_eq_some_iff.mp hk).1
      rwa [rangeKs_length] at this
    have hk' : k = (i : Int) := by
      unfold rangeKs at hk
      rw [List.getElem?_map, List.getElem?_range hi] at hk
      have := Option.some.inj hk
      rw [← this]; exact Int.zero_add _
    subst hk'
    rw [keep m₁ v (fun _ => some (.int (i : Int) t)) hv' hm] at F₁
    refine wpAny_mono (turn i v t m₁ junk ((junk ++ news) ++ own) h tk hi hP' hjn (fun p hp => List.mem_append_left _ hp) F₁ N₁) (fun f s₂ p => ?_) fun _ _ e => e
    have fin : R1End h₀ env.locals x y stored m₀ (P (i + 1)) (junk ++ news) ((junk ++ news) ++ own) { s with heap := h, toks := tk } s₂ →
        TbEnd h₀ env.locals (R1J x y stored m₀ news (P (i + 1))) own { s with heap := h, toks := tk } s₂ := by
      rintro ⟨h', tk', v', add, m', e, F', N', hb, hP', hv', hm'⟩
      refine ⟨h', tk', m', _, (add ++ junk) ++ news, e, F', N', ?_, ?_, ?_, v', add ++ junk, rfl, ?_, ?_, hv', hm'⟩
      · intro p hp
        simp only [List.mem_append] at hp ⊢
        rcases hp with (hp | hp) | hp <;> simp [hp]
      · intro p hp
        simp [hp]
      · intro p hp q hq
        simp only [List.mem_append] at hq
        rcases hq with (hq | hq) | hq
        · exact fun e => hb q hq p (by simp [hp]) e.symm
        · exact hoff p hp q (by simp [hq])
        · exact hoff p hp q (by simp [hq])
      · intro p hp q hq
        rcases List.mem_append.mp hp with hp | hp
        · exact hb p hp q (by simp [hq])
        · exact hjn p hp q hq
      · rw [List.append_assoc]; exact hP'
    cases f with
    | ret v => exact p
    | brk => exact p
    | next => exact fin p
    | cont => exact fin p
  · rintro m₁ nx h tk ⟨v, junk, rfl, hjn, hP', hv', hm⟩ F₁ N₁
    have e := keep m₁ v m₁ hv' hm
    have e2 : (fun z => if z = x then m₁ z else m₁ z) = m₁ := by funext z; simp
    rw [e2] at e
    exact done v m₁ junk h tk hP' hjn (by rw [← e]; exact F₁) N₁
end
end
-- Eqs
section
def rowData (r : Row) : PyData := .tuple [.int r.id, .int r.ad, .int r.pr, .int r.dr, .int r.bk]
def rowsData (rs : List Row) : PyData := .list (rs.map rowData)
section
variable {h : Heap} {h₀ : Heap} {L : Addr} {news : LedT}
theorem row_reads {v : Value} {r : Row} (N : News h₀ L h news) (hr : RowAt news v r) : Reads h v (rowData r) [] := by
  obtain ⟨a, t1, t2, t3, t4, t5, n, rfl, hm⟩ := hr
  exact reads_tuple_at (N _ hm).1 rfl rfl (.cons (.int _ _) (.cons (.int _ _) (.cons (.int _ _) (.cons (.int _ _) (.cons (.int _ _) .nil)))))
theorem rowAll_reads {vs : List Value} {rs : List Row} (N : News h₀ L h news) (hr : RowAll news vs rs) : ReadsAll h vs (rs.map rowData) [] := by
  induction hr with
  | nil => exact .nil
  | cons h1 _ ih => exact .cons (row_reads N h1) ih
theorem rows_reads {a : Addr} {n : Nat} {vs : List Value} {rs : List Row} (N : News h₀ L h news) (hm : (a, listOf vs.toArray n) ∈ news) (hr : RowAll news vs rs) : Reads h (.ref a) (rowsData rs) [a] :=
  reads_list_at (N _ hm).1 rfl rfl (rowAll_reads N hr)
end
theorem eqv_row (a b : Row) : PyData.eqv (rowData a) (rowData b) = decide (a = b) := by
  obtain ⟨a1, a2, a3, a4, a5⟩ := a
  obtain ⟨b1, b2, b3, b4, b5⟩ := b
  unfold rowData
  simp only [PyData.eqv, PyData.eqvAll, Row.mk.injEq, Bool.and_true, Bool.decide_and]
  rfl
theorem eqv_rowAll : ∀ as bs : List Row, PyData.eqvAll (as.map rowData) (bs.map rowData) = decide (as = bs)
  | [], [] => by simp [PyData.eqvAll]
  | [], _ :: _ => by simp [PyData.eqvAll]
  | _ :: _, [] => by simp [PyData.eqvAll]
  | a :: r, b :: t => by
    simp only [List.map_cons, PyData.eqvAll, eqv_row, eqv_rowAll r t, List.cons.injEq, Bool.decide_and]
theorem eqv_rows (as bs : List Row) : PyData.eqv (rowsData as) (rowsData bs) = decide (as = bs) := by
  unfold rowsData
  simp only [PyData.eqv, eqv_rowAll]
theorem lay_rowAll : ∀ as : List Row, PyData.canLayAll0 (as.map rowData) = true
  | [] => rfl
  | a :: r => by
    simp only [List.map_cons, PyData.canLayAll0, lay_rowAll r, Bool.and_true]
    rfl
theorem depth_rowAll : ∀ as : List Row, PyData.depthAll (as.map rowData) ≤ 1
  | [] => Nat.zero_le _
  | a :: r => by
    simp only [List.map_cons, PyData.depthAll]
    exact Nat.max_le.mpr ⟨Nat.le_of_ble_eq_true rfl, depth_rowAll r⟩
theorem shaped_rows (as : List Row) : SeqAt.shaped (rowsData as) = true := by
  unfold SeqAt.shaped rowsData
  have h1 := lay_rowAll as
  have h2 := depth_rowAll as
  simp only [PyData.canLay0, PyData.depth, h1, Bool.true_and]
  refine decide_eq_true ?_
  omega
theorem shaped_end (as : List Row) (k : Int) : SeqAt.shaped (.tuple [rowsData as, .int k]) = true := by
  unfold SeqAt.shaped rowsData
  have h1 := lay_rowAll as
  have h2 := depth_rowAll as
  simp only [PyData.canLay0, PyData.canLayAll0, PyData.depth, PyData.depthAll, h1, Bool.true_and, Bool.and_true]
  refine decide_eq_true ?_
  omega
section
variable {prog : Program} {w : World} {A : Around} {E : Value → Shared → Prop} {s : Shared} {h₀ : Heap} {L a b : Addr} {news : LedT} {vs ws : List Value} {rs qs : List Row} {n k : Nat} {Q : Value → Shared → Prop}
theorem rows_eq (N : News h₀ L s.heap news) (ha : (a, listOf vs.toArray n) ∈ news) (hb : (b, listOf ws.toArray k) ∈ news) (hr : RowAll news vs rs) (hq : RowAll news ws qs) (hu : A.units + 64 < cLine)
    (h : Q (.bool (decide (rs = qs))) s) : wpAny (model prog w) A (compareOp .Eq (.ref a) (.ref b)) Q E s :=
  eq_dataH (rows_reads N ha hr) (rows_reads N hb hq) (shaped_rows rs) (shaped_rows qs) hu (by rw [eqv_rows]; exact h)
theorem rows_ne (N : News h₀ L s.heap news) (ha : (a, listOf vs.toArray n) ∈ news) (hb : (b, listOf ws.toArray k) ∈ news) (hr : RowAll news vs rs) (hq : RowAll news ws qs) (hu : A.units + 64 < cLine)
    (h : Q (.bool (!decide (rs = qs))) s) : wpAny (model prog w) A (compareOp .NotEq (.ref a) (.ref b)) Q E s :=
  ne_dataH (rows_reads N ha hr) (rows_reads N hb hq) (shaped_rows rs) (shaped_rows qs) hu (by rw [eqv_rows]; exact h)
end
end
-- Sort1
section
section
variable {prog : Program} {w : World} {A : Around} {E : Value → Shared → Prop} {s : Shared} {h₀ : Heap} {L a kS l : Addr} {m : Str → Option Value} {news : LedT} {vs ks : List Value}

/-- fewer than two items: no question is asked -/
theorem few_end {e e1 : Nat} {P : PySem.Fin → Shared → Prop} (hl : ks.length = vs.length) (h2 : vs.length < 2)
    (h : KatFin h₀ L m kS a ks e e1 vs (fun s3 => P (.done (.ret .none)) s3) s) :
    wpAny (model prog w) A (ksk_end a false vs.toArray e1 (.ref kS) (List.toArray ks)) P E s := by
  have hn2 : vs.toArray.size < 2 := by rw [List.size_toArray]; exact h2
  unfold ksk_end
  simp only [Bool.false_eq_true, if_false, if_pos hn2]
  refine wpAny_bind (wpAny_pure ?_)
  refine wpAny_bind (wpAny_pure ?_)
  refine kat_tail (b := false) (out := vs) ?_ (by omega) (by omega) rfl h
  show ((List.toArray ks).zip vs.toArray).map (·.2) = vs.toArray
  apply Array.toList_inj.mp
  simp only [Array.toList_map, Array.toList_zip, List.toList_toArray]
  exact List.map_snd_zip (by omega)

theorem few_rest {f : Value} {e1 : Nat} {P : PySem.Fin → Shared → Prop} (hk : s.heap.get? kS = some (seqObj "list" #[] 0)) (h2 : vs.length < 2)
    (h : KatKeys prog w A h₀ L m kS f (fun ks e s' => KatFin h₀ L m kS a ks e e1 vs (fun s4 => P (.done (.ret .none)) s4) s') vs [] 0 s) :
    wpAny (model prog w) A (ksk_rest a f false vs.toArray e1 (.ref kS)) P E s := by
  unfold ksk_rest
  refine wpAny_bind (wpAny_rule ?_)
  rw [← Array.forIn_toList]
  refine wpAny_bind (wpAny_mono (kat_fold (show vs.length < 64 by omega) (fun x ks e s' C hz hx => ?_) vs [] 0 s (by simp) hk h) (fun _ s' hd => ?_) fun _ _ x => x)
  · refine wpAny_bind (wpAny_attempt (wpAny_mono hx (fun k s'' hk => ?_) fun _ _ hF => hF.elim))
    obtain ⟨news', g, F', N', U, c⟩ := hk
    obtain ⟨pre, post, e0, hg, x1, x2⟩ := U.split
    rw [e0] at N'
    have nk := N' (kS, seqObj "list" (List.toArray ks) e) (List.mem_append_right _ (.head _))
    have s1 := Heap.SameBut.update s''.heap kS (Obj.mapSeq (·.push k))
    have ea : (List.toArray ks).push k = List.toArray (ks ++ [k]) := by simp
    obtain ⟨c2, hc2⟩ : ∃ c2, (s''.heap.update kS (Obj.mapSeq (·.push k))).get? kS = some (seqObj "list" (List.toArray (ks ++ [k])) c2) := ⟨_, by rw [← ea]; exact get?_update_seq nk.1 (·.push k)⟩
    dsimp only
    refine wpAny_bind (listUpdate_at nk.1 rfl ?_ (by rw [List.size_toArray, sizeLine_eq]; omega) (Nat.le_trans (Nat.le_of_eq (Array.size_push ..)) (by rw [List.size_toArray, sizeLine_eq]; omega)))
    exact wpAny_pure ⟨rfl, k, c2, hc2, c _ c2 (kas_fr F' s1 nk.2.1 nk.2.2) (by rw [hg]; exact news_set N' x1 x2 s1 hc2)⟩
  · obtain ⟨ks, e, hk', hl, fin⟩ := hd
    refine wpAny_bind (listItems_at hk' rfl ?_)
    exact few_end hl h2 fin

theorem few_keyed {f : Value} {n : Nat} {P : PySem.Fin → Shared → Prop} (F : Fr h₀ L s.heap m) (N : News h₀ L s.heap news) (ho : s.heap.get? a = some (seqObj "list" vs.toArray n)) (haL : a ≠ L) (ha0 : h₀.get? a = none) (hna : ∀ p ∈ news, p.1 ≠ a)
    (h2 : vs.length < 2)
    (h : ∀ kS e1 h', Fr h₀ L h' m → News h₀ L h' ((kS, seqObj "list" #[] 0) :: (a, seqObj "list" #[] e1) :: news) → a < kS → (∀ q ∈ news, q.1 < kS) →
      KatKeys prog w A h₀ L m kS f (fun ks e s' => KatFin h₀ L m kS a ks e e1 vs (fun s4 => P (.done (.ret .none)) s4) s') vs [] 0 { s with heap := h' }) :
    wpAny (model prog w) A (ksk_tree a f false) P E s := by
  have ha : a < s.heap.objs.size := Heap.lt_size ho
  have s1 := Heap.SameBut.update s.heap a (Obj.mapSeq fun _ => (#[] : Array Value))
  obtain ⟨e1, ho1⟩ : ∃ e1, (s.heap.update a (Obj.mapSeq fun _ => (#[] : Array Value))).get? a = some (seqObj "list" #[] e1) := ⟨_, get?_update_seq ho fun _ => #[]⟩
  have F1 := kas_fr F s1 haL ha0
  have N1 := kas_news N s1 hna
  have hkS : ((s.heap.update a (Obj.mapSeq fun _ => (#[] : Array Value))).push (seqObj "tuple" vs.toArray 0)).objs.size = s.heap.objs.size + 1 := by rw [size_push', Heap.size_update]
  have hLk : L < ((s.heap.update a (Obj.mapSeq fun _ => (#[] : Array Value))).push (seqObj "tuple" vs.toArray 0)).objs.size := (F1.push _).ns.lt
  unfold ksk_tree
  refine wpAny_bind (listItems_at ho rfl ?_)
  refine wpAny_bind (listUpdate_at ho rfl ?_ (by rw [List.size_toArray, sizeLine_eq]; omega) (Nat.zero_le _))
  refine wpAny_bind (seqEpoch_at ho1 rfl ?_)
  refine wpAny_bind (wpAny_newTuple ?_ (by show vs.length ≤ _; rw [sizeLine_eq]; omega))
  refine wpAny_bind (wpAny_newList ?_ (Nat.zero_le _))
  refine wpAny_holding ?_
  refine few_rest (s := { s with heap := ((s.heap.update a (Obj.mapSeq fun _ => (#[] : Array Value))).push (seqObj "tuple" vs.toArray 0)).push (seqObj "list" #[] 0) }) (kS := ((s.heap.update a (Obj.mapSeq fun _ => (#[] : Array Value))).push (seqObj "tuple" vs.toArray 0)).objs.size)
    (Heap.get?_push_size _ rfl) h2 (h _ e1 _ ((F1.push _).push _) (fun p hp => ?_) (by rw [hkS]; exact Nat.lt_succ_of_lt ha) fun q hq => by rw [hkS]; exact Nat.lt_succ_of_lt (Heap.lt_size (N q hq).1))
  rcases List.mem_cons.mp hp with rfl | hp
  · exact ⟨Heap.get?_push_size _ rfl, Nat.ne_of_gt hLk, Heap.get?_none_of_le (Nat.le_trans F.above (Nat.le_of_lt hLk))⟩
  · rcases List.mem_cons.mp hp with rfl | hp
    · exact ⟨Heap.get?_push_of_some _ (Heap.get?_push_of_some _ ho1), haL, ha0⟩
    · exact ⟨Heap.get?_push_of_some _ (Heap.get?_push_of_some _ (N1 p hp).1), (N1 p hp).2⟩

theorem few_sorted {f : Value} {kw : List (Str × Value)} {Q : Value → Shared → Prop} (F : Fr h₀ L s.heap m) (N : News h₀ L s.heap news) (hl : s.heap.IsList l vs.toArray) (h2 : vs.length < 2)
    (ha1 : argsOk "sorted" ⟨[.ref l], kw⟩) (ha2 : ∀ x, argsOk "list.sort" ⟨[.ref x], kw⟩) (ht : ∀ x, Builtin.«list.sort» ⟨[.ref x], kw⟩ = ksk_tree x f false)
    (h : ∀ D kS e1 h', Fr h₀ L h' m → News h₀ L h' ((kS, seqObj "list" #[] 0) :: (D, seqObj "list" #[] e1) :: news) → D < kS → (∀ q ∈ news, q.1 < D) →
      KatKeys prog w A.in1.in1 h₀ L m kS f (fun ks e s' => KatFin h₀ L m kS D ks e e1 vs (fun s4 => Q (.ref D) s4) s') vs [] 0 { s with heap := h' }) :
    wpAny (model prog w) A (call (.builtin "sorted") [.ref l] kw) Q E s := by
  refine call_function_entry_kw kind_sorted plain_sorted entry_sorted ha1 ?_
  unfold Builtin.«sorted»
  refine wpAny_bind (m := checkCount "sorted" 1 1 _) (wpAny_pure ?_)
  refine wpAny_bind (collect_list hl ?_ (by rw [sizeLine_eq]; omega))
  refine wpAny_bind (wpAny_newList ?_ (by rw [sizeLine_eq]; omega))
  have hsz : ((s.heap.push (seqObj "list" #[] 0)).update s.heap.objs.size (Obj.mapSeq (· ++ vs.toArray))).objs.size = s.heap.objs.size + 1 := by
    rw [Heap.size_update, size_push']
  have hoL : (((s.heap.push (seqObj "list" #[] 0)).update s.heap.objs.size (Obj.mapSeq (· ++ vs.toArray))).push (seqObj "list" vs.toArray 0)).get? (s.heap.objs.size + 1) = some (seqObj "list" vs.toArray 0) := by
    rw [← hsz]; exact Heap.get?_push_size _ rfl
  have keep : ∀ b o, s.heap.get? b = some o → (((s.heap.push (seqObj "list" #[] 0)).update s.heap.objs.size (Obj.mapSeq (· ++ vs.toArray))).push (seqObj "list" vs.toArray 0)).get? b = some o := fun b o q => by
    have hlt : b < s.heap.objs.size := Heap.lt_size q
    rw [Heap.get?_push_ne _ _ _ (by rw [hsz]; exact Nat.ne_of_lt (Nat.lt_succ_of_lt hlt)), Heap.get?_update_ne _ _ _ _ (Nat.ne_of_lt hlt), Heap.get?_push_ne _ _ _ (Nat.ne_of_lt hlt)]
    exact q
  have hL : L < s.heap.objs.size := F.ns.lt
  show wpAny _ _ _ _ _ { s with heap := ((s.heap.push (seqObj "list" #[] 0)).update s.heap.objs.size (Obj.mapSeq (· ++ vs.toArray))).push (seqObj "list" vs.toArray 0) }
  rw [hsz]
  refine wpAny_bind (wpAny_holding (wpAny_call_entry_kw slot_list_sort ⟨_, hoL, rfl⟩ entry_list_sort ?body (ha2 _)))
  case body =>
    show wpAny (model prog w) A.in1.in1 (Builtin.«list.sort» ⟨[.ref (s.heap.objs.size + 1)], kw⟩) _ _ _
    rw [ht (s.heap.objs.size + 1)]
    refine few_keyed (s := { s with heap := ((s.heap.push (seqObj "list" #[] 0)).update s.heap.objs.size (Obj.mapSeq (· ++ vs.toArray))).push (seqObj "list" vs.toArray 0) })
      (F.kept keep) (N.grown keep) hoL (Nat.ne_of_gt (Nat.lt_succ_of_lt hL)) (Heap.get?_none_of_le (Nat.le_trans F.above (Nat.le_succ_of_le (Nat.le_of_lt hL))))
      (fun p hp => Nat.ne_of_lt (Nat.lt_succ_of_lt (Heap.lt_size (N p hp).1))) h2 fun kS e1 h' F' N' l0 l1 => ?_
    refine kat_keys_mono (h _ kS e1 h' F' N' l0 fun q hq => Nat.lt_succ_of_lt (Heap.lt_size (N q hq).1)) fun ks e s' hl' hd => ?_
    exact hd.mono fun s4 hq => ⟨_, rfl, wpAny_pure ⟨_, rfl, hq⟩⟩
end
end
-- Sort2
section
/-- what the sort's questions come to when each has one answer -/
def runT {α : Type} (c : Nat → Nat → Bool) : KasT α → α
  | .ret a => a
  | .ask i j k => runT c (k (c i j))
def inR {α : Type} (n : Nat) : KasT α → Bool
  | .ret _ => true
  | .ask i j k => decide (i < n) && decide (j < n) && inR n (k true) && inR n (k false)
theorem run_wp {α : Type} {n : Nat} {cmp : Nat → Nat → (Bool → Shared → Prop) → Shared → Prop} {c : Nat → Nat → Bool} {s : Shared} (hc : ∀ i j C, i < n → j < n → C (c i j) s → cmp i j C s) {Q : α → Shared → Prop} :
    ∀ t : KasT α, inR n t = true → Q (runT c t) s → t.kasWp cmp Q s
  | .ret _, _, h => h
  | .ask i j k, hi, h => by
    simp only [inR, Bool.and_eq_true, decide_eq_true_eq] at hi
    refine hc i j _ hi.1.1.1 hi.1.1.2 ?_
    refine run_wp hc (k (c i j)) ?_ h
    cases c i j
    · exact hi.2
    · exact hi.1.2
theorem run_congr {α : Type} {n : Nat} {c c' : Nat → Nat → Bool} (hc : ∀ i j, i < n → j < n → c i j = c' i j) : ∀ t : KasT α, inR n t = true → runT c t = runT c' t
  | .ret _, _ => rfl
  | .ask i j k, hi => by
    simp only [inR, Bool.and_eq_true, decide_eq_true_eq] at hi
    show runT c (k (c i j)) = runT c' (k (c' i j))
    rw [hc i j hi.1.1.1 hi.1.1.2]
    refine run_congr hc (k (c' i j)) ?_
    cases c' i j
    · exact hi.2
    · exact hi.1.2
theorem in2 : inR 2 (kas_sort 2) = true := by decide +kernel
theorem in3 : inR 3 (kas_sort 3) = true := by decide +kernel
def tab3 (b01 b10 b02 b20 b12 b21 : Bool) (i j : Nat) : Bool := match i, j with
  | 0, 1 => b01
  | 1, 0 => b10
  | 0, 2 => b02
  | 2, 0 => b20
  | 1, 2 => b12
  | 2, 1 => b21
  | _, _ => false
def okPerm (c : Nat → Nat → Bool) (n : Nat) (l : List Nat) : Bool := l.isPerm (List.range n) && decide (l.Pairwise fun i j => c j i = false)
def bad3 (b01 b10 b02 b20 b12 b21 : Bool) : Bool :=
  (b01 && b10) || (b02 && b20) || (b12 && b21) ||
  (b01 && b12 && !b02) || (b02 && b21 && !b01) || (b10 && b02 && !b12) || (b12 && b20 && !b10) || (b20 && b01 && !b21) || (b21 && b10 && !b20) ||
  (!b01 && !b12 && b02) || (!b02 && !b21 && b01) || (!b10 && !b02 && b12) || (!b12 && !b20 && b10) || (!b20 && !b01 && b21) || (!b21 && !b10 && b20)
theorem tab3_ok : ∀ b01 b10 b02 b20 b12 b21 : Bool, (bad3 b01 b10 b02 b20 b12 b21 || okPerm (tab3 b01 b10 b02 b20 b12 b21) 3 (runT (tab3 b01 b10 b02 b20 b12 b21) (kas_sort 3)).toList) = true := by decide +kernel
theorem tab2_ok : ∀ b01 b10 : Bool, ((b01 && b10) || okPerm (tab3 b01 b10 false false false false) 2 (runT (tab3 b01 b10 false false false false) (kas_sort 2)).toList) = true := by decide +kernel

/-- the key's order: greater priority first, then greater id -/
def rowLt (a b : Row) : Bool := decide (0 - a.pr < 0 - b.pr) || (0 - a.pr == 0 - b.pr && decide (0 - a.id < 0 - b.id))
theorem rowLt_irrefl (a : Row) : rowLt a a = false := by simp [rowLt]
theorem rowLt_asymm (a b : Row) : (rowLt a b && rowLt b a) = false := by
  unfold rowLt
  simp only [Bool.and_eq_false_iff, Bool.or_eq_false_iff, Bool.and_eq_false_iff, decide_eq_false_iff_not, beq_eq_false_iff_ne, ne_eq]
  omega
theorem rowLt_trans (a b c : Row) : (rowLt a b && rowLt b c && !rowLt a c) = false := by
  unfold rowLt
  simp only [Bool.and_eq_false_iff, Bool.or_eq_false_iff, Bool.not_eq_false', Bool.or_eq_true, Bool.and_eq_true, decide_eq_true_eq, beq_iff_eq, decide_eq_false_iff_not, beq_eq_false_iff_ne, ne_eq]
  omega
theorem rowLt_neg (a b c : Row) : (!rowLt a b && !rowLt b c && rowLt a c) = false := by
  unfold rowLt
  simp only [Bool.and_eq_false_iff, Bool.or_eq_false_iff, Bool.not_eq_false', Bool.or_eq_true, Bool.and_eq_true, decide_eq_true_eq, beq_iff_eq, decide_eq_false_iff_not, beq_eq_false_iff_ne, ne_eq]
  omega
def cOf (rs : List Row) (i j : Nat) : Bool := rowLt (rs.getD i ⟨0, 0, 0, 0, 0⟩) (rs.getD j ⟨0, 0, 0, 0, 0⟩)
theorem ok_congr {c c' : Nat → Nat → Bool} {n : Nat} {l : List Nat} (hc : ∀ i j, i < n → j < n → c i j = c' i j) (h : okPerm c n l = true) : okPerm c' n l = true := by
  unfold okPerm at h ⊢
  simp only [Bool.and_eq_true, decide_eq_true_eq] at h ⊢
  refine ⟨h.1, ?_⟩
  have hp : l.Perm (List.range n) := List.isPerm_iff.mp h.1
  refine h.2.imp_of_mem fun {a b} ha hb hq => ?_
  rw [← hc b a (List.mem_range.mp (hp.mem_iff.mp hb)) (List.mem_range.mp (hp.mem_iff.mp ha))]
  exact hq
theorem sort_ok {rs : List Row} (h2 : 2 ≤ rs.length) (h3 : rs.length ≤ 3) : okPerm (cOf rs) rs.length (runT (cOf rs) (kas_sort rs.length)).toList = true := by
  match rs, h2, h3 with
  | [a, b], _, _ =>
    have hc : ∀ i j, i < 2 → j < 2 → cOf [a, b] i j = tab3 (rowLt a b) (rowLt b a) false false false false i j := by
      intro i j hi hj
      rcases (show i = 0 ∨ i = 1 by omega) with rfl | rfl <;> rcases (show j = 0 ∨ j = 1 by omega) with rfl | rfl <;> first | rfl | exact rowLt_irrefl _
    show okPerm (cOf [a, b]) 2 (runT (cOf [a, b]) (kas_sort 2)).toList = true
    rw [run_congr hc _ in2]
    have := tab2_ok (rowLt a b) (rowLt b a)
    rw [rowLt_asymm, Bool.false_or] at this
    exact ok_congr (fun i j hi hj => (hc i j hi hj).symm) this
  | [a, b, c], _, _ =>
    have hc : ∀ i j, i < 3 → j < 3 → cOf [a, b, c] i j = tab3 (rowLt a b) (rowLt b a) (rowLt a c) (rowLt c a) (rowLt b c) (rowLt c b) i j := by
      intro i j hi hj
      rcases (show i = 0 ∨ i = 1 ∨ i = 2 by omega) with rfl | rfl | rfl <;> rcases (show j = 0 ∨ j = 1 ∨ j = 2 by omega) with rfl | rfl | rfl <;> first | rfl | exact rowLt_irrefl _
    show okPerm (cOf [a, b, c]) 3 (runT (cOf [a, b, c]) (kas_sort 3)).toList = true
    rw [run_congr hc _ in3]
    have := tab3_ok (rowLt a b) (rowLt b a) (rowLt a c) (rowLt c a) (rowLt b c) (rowLt c b)
    have e : bad3 (rowLt a b) (rowLt b a) (rowLt a c) (rowLt c a) (rowLt b c) (rowLt c b) = false := by
      unfold bad3
      rw [rowLt_asymm, rowLt_asymm, rowLt_asymm, rowLt_trans, rowLt_trans, rowLt_trans, rowLt_trans, rowLt_trans, rowLt_trans, rowLt_neg, rowLt_neg, rowLt_neg, rowLt_neg, rowLt_neg, rowLt_neg]
      rfl
    rw [e, Bool.false_or] at this
    exact ok_congr (fun i j hi hj => (hc i j hi hj).symm) this
  | [], h, _ => exact absurd h (by decide)
  | [_], h, _ => exact absurd h (by simp)
  | _ :: _ :: _ :: _ :: _, _, h => exact absurd h (by simp)

section
variable {prog : Program} {w : World} {A : Around} {E : Value → Shared → Prop} {s : Shared}
theorem lt_any {b : Bool} {x y : Int} {t u : Tok} {Q : Bool → Shared → Prop} (h : Q (decide (x < y)) s) : wpAny (model prog w) A (oneLt' b (.int x t) (.int y u)) Q E s := by
  cases b with
  | true => exact oneLt_int h
  | false => exact kat_one _ _ (lt_int h)
theorem key_lt {a b : Addr} {x1 x2 y1 y2 : Int} {t1 t2 u1 u2 : Tok} {n k : Nat} {fl : Bool} {Q : Bool → Shared → Prop}
    (ha : s.heap.get? a = some (pairObj (x1, x2) t1 t2 n)) (hb : s.heap.get? b = some (pairObj (y1, y2) u1 u2 k)) (h : Q (decide (x1 < y1) || (x1 == y1 && decide (x2 < y2))) s) :
    wpAny (model prog w) A (keyLt' (tuples' fl) (.ref a) (.ref b)) Q E s := by
  refine kat_lt ha rfl hb rfl ?_
  show KatLex _ _ _ _ _ _ [(Value.int x1 t1, Value.int y1 u1), (Value.int x2 t2, Value.int y2 u2)] 0 s
  refine kat_cons (wpAny_eqBool_int ?_)
  by_cases e1 : x1 = y1
  · subst e1
    rw [beq_self_eq_true]
    have e0 : decide (x1 < x1) = false := by simp
    rw [e0, Bool.false_or, beq_self_eq_true, Bool.true_and] at h
    refine kat_yes (kat_cons (wpAny_eqBool_int ?_))
    by_cases e2 : x2 = y2
    · subst e2
      rw [beq_self_eq_true]
      have e3 : decide (x2 < x2) = false := by simp
      rw [e3] at h
      exact kat_yes (kat_nil h)
    · rw [show (x2 == y2) = false by simpa using e2]
      exact kat_no (lt_any h)
  · have e3 : (x1 == y1) = false := by simpa using e1
    rw [e3, Bool.false_and, Bool.or_false] at h
    rw [e3]
    exact kat_no (lt_any h)
end
end
-- Sort3
section
inductive KeysIn (led : LedT) : List Value → List Row → Prop
  | nil : KeysIn led [] []
  | cons {K : Addr} {t1 t2 : Tok} {n : Nat} {r : Row} {ks : List Value} {rs : List Row} : (K, pairObj (0 - r.pr, 0 - r.id) t1 t2 n) ∈ led → KeysIn led ks rs → KeysIn led (.ref K :: ks) (r :: rs)
theorem KeysIn.mono {led led' : LedT} {ks : List Value} {rs : List Row} (h : KeysIn led ks rs) (hs : ∀ p ∈ led, p ∈ led') : KeysIn led' ks rs := by
  induction h with
  | nil => exact .nil
  | cons h _ ih => exact .cons (hs _ h) ih
theorem KeysIn.snoc {led : LedT} {ks : List Value} {rs : List Row} {K : Addr} {t1 t2 : Tok} {n : Nat} {r : Row} (h : KeysIn led ks rs) (hk : (K, pairObj (0 - r.pr, 0 - r.id) t1 t2 n) ∈ led) : KeysIn led (ks ++ [.ref K]) (rs ++ [r]) := by
  induction h with
  | nil => exact .cons hk .nil
  | cons h _ ih => exact .cons h ih
theorem KeysIn.length {led : LedT} {ks : List Value} {rs : List Row} (h : KeysIn led ks rs) : ks.length = rs.length := by
  induction h with
  | nil => rfl
  | cons _ _ ih => rw [List.length_cons, List.length_cons, ih]
theorem KeysIn.get {led : LedT} {ks : List Value} {rs : List Row} (h : KeysIn led ks rs) : ∀ i, i < rs.length → ∃ K t1 t2 n, ks.getD i Value.none = .ref K ∧ (K, pairObj (0 - (rs.getD i ⟨0, 0, 0, 0, 0⟩).pr, 0 - (rs.getD i ⟨0, 0, 0, 0, 0⟩).id) t1 t2 n) ∈ led := by
  induction h with
  | nil => intro i hi; exact absurd hi (Nat.not_lt_zero _)
  | cons h _ ih =>
    intro i hi
    cases i with
    | zero => exact ⟨_, _, _, _, rfl, h⟩
    | succ i => simpa using ih i (by simpa using hi)
theorem KeysIn.tups {led : LedT} {h : Heap} {h₀ : Heap} {L : Addr} {ks : List Value} {rs : List Row} (N : News h₀ L h led) (k : KeysIn led ks rs) : ∃ fs : List Value, KatTups h ks fs ∧ fs.length = ks.length ∧ ∀ v ∈ fs, ∃ i t, v = Value.int i t := by
  induction k with
  | nil => exact ⟨[], .nil, rfl, fun _ h => absurd h List.not_mem_nil⟩
  | @cons K t1 t2 n r ks rs hk _ ih =>
    obtain ⟨fs, a, b, c⟩ := ih
    refine ⟨.int (0 - r.pr) t1 :: fs, .cons (N _ hk).1 rfl rfl rfl a, by simp [b], fun v hv => ?_⟩
    rcases List.mem_cons.mp hv with rfl | hv
    · exact ⟨_, _, rfl⟩
    · exact c v hv
theorem updF_mid {D : Addr} {o : Obj} {post : LedT} (hpost : ∀ p ∈ post, p.1 ≠ D) : ∀ {pre : LedT}, (∀ p ∈ pre, p.1 ≠ D) → UpdF D o (pre ++ (D, o) :: post) (fun o' => pre ++ (D, o') :: post)
  | [], _ => .head hpost
  | q :: r, h => .tail (h q (.head _)) (updF_mid hpost fun p hp => h p (.tail _ hp))

section
variable {prog : Program} {w : World} {A : Around} {s : Shared} {h₀ : Heap} {L kS D : Addr} {m : Str → Option Value} {news : LedT} {f : Value} {e1 : Nat}

/-- the key's contract -/
def KeyIs (prog : Program) (w : World) (A : Around) (s : Shared) (h₀ : Heap) (L : Addr) (m : Str → Option Value) (news : LedT) (f : Value) : Prop :=
  ∀ (v : Value) (r : Row) (extra : LedT) (h : Heap) (tk : Nat) (C : Value → Shared → Prop), RowAt news v r → Fr h₀ L h m → News h₀ L h (extra ++ news) →
    (∀ (K : Addr) (t1 t2 : Tok) (n : Nat) (h' : Heap) (tk' : Nat), Fr h₀ L h' m → News h₀ L h' ((K, pairObj (0 - r.pr, 0 - r.id) t1 t2 n) :: (extra ++ news)) → (∀ q ∈ extra ++ news, @Ne Nat K q.1) → C (.ref K) { s with heap := h', toks := tk' }) →
    wpAny (model prog w) A (call f [v]) C (fun _ _ => False) { s with heap := h, toks := tk }

theorem keys_all {Fin : List Value → Nat → Shared → Prop} (hnS : ∀ p ∈ news, p.1 ≠ kS) (hDS : D ≠ kS) (key : KeyIs prog w A s h₀ L m news f)
    (total : List Row) (fin : ∀ ks e objs h tk, KeysIn objs ks total → Fr h₀ L h m → News h₀ L h (objs ++ (kS, seqObj "list" (List.toArray ks) e) :: (D, seqObj "list" #[] e1) :: news) → (∀ p ∈ objs, p.1 ≠ kS ∧ p.1 ≠ D) → Fin ks e { s with heap := h, toks := tk }) :
    ∀ (us : List Value) (qs : List Row) (ks : List Value) (ps : List Row) (e : Nat) (objs : LedT) (h : Heap) (tk : Nat), RowAll news us qs → ps ++ qs = total → KeysIn objs ks ps → Fr h₀ L h m →
      News h₀ L h (objs ++ (kS, seqObj "list" (List.toArray ks) e) :: (D, seqObj "list" #[] e1) :: news) → (∀ p ∈ objs, p.1 ≠ kS ∧ p.1 ≠ D) → KatKeys prog w A h₀ L m kS f Fin us ks e { s with heap := h, toks := tk } := by
  intro us
  induction us with
  | nil =>
    intro qs ks ps e objs h tk hR ht hk F N hne
    cases hR
    rw [List.append_nil] at ht
    subst ht
    exact KatKeys.nil (fin ks e objs h tk hk F N hne)
  | cons v us ih =>
    intro qs ks ps e objs h tk hR ht hk F N hne
    cases hR with
    | @cons _ _ r rs h1 h2 =>
      refine KatKeys.cons ?_
      have e0 : objs ++ (kS, seqObj "list" (List.toArray ks) e) :: (D, seqObj "list" #[] e1) :: news = (objs ++ [(kS, seqObj "list" (List.toArray ks) e), (D, seqObj "list" #[] e1)]) ++ news := by simp
      rw [e0] at N
      refine key v r _ h tk _ h1 F N fun K t1 t2 n h' tk' F' N' hK => ?_
      have e2 : (K, pairObj (0 - r.pr, 0 - r.id) t1 t2 n) :: ((objs ++ [(kS, seqObj "list" (List.toArray ks) e), (D, seqObj "list" #[] e1)]) ++ news) = ((K, pairObj (0 - r.pr, 0 - r.id) t1 t2 n) :: objs) ++ (kS, seqObj "list" (List.toArray ks) e) :: ((D, seqObj "list" #[] e1) :: news) := by simp
      rw [e2] at N'
      have hKS : K ≠ kS := hK (kS, seqObj "list" (List.toArray ks) e) (by simp)
      have hKD : K ≠ D := hK (D, seqObj "list" #[] e1) (by simp)
      have hne' : ∀ p ∈ (K, pairObj (0 - r.pr, 0 - r.id) t1 t2 n) :: objs, p.1 ≠ kS ∧ p.1 ≠ D := fun p hp => by
        rcases List.mem_cons.mp hp with rfl | hp
        · exact ⟨hKS, hKD⟩
        · exact hne p hp
      refine KatBack.intro F' N' (updF_mid (fun p hp => ?_) (fun p hp => (hne' p hp).1)) fun h'' c F'' N'' => ?_
      · rcases List.mem_cons.mp hp with rfl | hp
        · exact hDS
        · exact hnS p hp
      · exact ih rs (ks ++ [.ref K]) (ps ++ [r]) c _ h'' tk' h2 (by rw [← ht]; simp) ((hk.mono fun p hp => .tail _ hp).snoc (.head _)) F'' N'' hne'
end
end
-- Sort4
section
section
variable {prog : Program} {w : World} {A : Around} {E : Value → Shared → Prop} {s : Shared} {h₀ : Heap} {L kS D l : Addr} {m : Str → Option Value} {news : LedT} {f : Value} {e1 : Nat} {vs : List Value} {rs : List Row} {n : Nat}

theorem fin_out {ks out : List Value} {e tk : Nat} {objs : LedT} {h : Heap} {C : Shared → Prop} (F : Fr h₀ L h m) (N : News h₀ L h (objs ++ (kS, seqObj "list" (List.toArray ks) e) :: (D, seqObj "list" #[] e1) :: news))
    (hne : ∀ p ∈ objs, p.1 ≠ kS ∧ p.1 ≠ D) (hnS : ∀ p ∈ news, p.1 ≠ kS) (hDS : D ≠ kS) (hnD : ∀ p ∈ news, p.1 ≠ D)
    (k : ∀ h' c, Fr h₀ L h' m → News h₀ L h' ((D, listOf (List.toArray out) c) :: news) → C { s with heap := h', toks := tk }) : KatFin h₀ L m kS D ks e e1 out C { s with heap := h, toks := tk } := by
  refine KatFin.intro F N (updF_mid (fun p hp => ?_) fun p hp => (hne p hp).1) fun h' c F' N' => ?_
  · rcases List.mem_cons.mp hp with rfl | hp
    · exact hDS
    · exact hnS p hp
  · have e2 : objs ++ (kS, seqObj "list" #[] c) :: (D, seqObj "list" #[] e1) :: news = (objs ++ [(kS, seqObj "list" #[] c)]) ++ (D, seqObj "list" #[] e1) :: news := by simp
    have N2 : News h₀ L h' ((objs ++ [(kS, seqObj "list" #[] c)]) ++ (D, seqObj "list" #[] e1) :: news) := by rw [← e2]; exact N'
    refine KasFin.intro F' N2 (updF_mid hnD fun p hp => ?_) fun h'' c' F'' N'' => k h'' c' F'' fun p hp => N'' p (List.mem_append_right _ hp)
    rcases List.mem_append.mp hp with hp | hp
    · exact (hne p hp).2
    · rw [List.mem_singleton.mp hp]; exact fun q => hDS q.symm

theorem perm_rows {l : List Nat} (hR : RowAll news vs rs) (hp : l.Perm (List.range rs.length)) :
    RowAll news (l.map fun i => vs.getD i Value.none) (l.map fun i => rs.getD i ⟨0, 0, 0, 0, 0⟩) ∧ (l.map fun i => rs.getD i ⟨0, 0, 0, 0, 0⟩).Perm rs := by
  constructor
  · have hm : ∀ i ∈ l, i < rs.length := fun i hi => List.mem_range.mp (hp.mem_iff.mp hi)
    clear hp
    induction l with
    | nil => exact .nil
    | cons i l ih =>
      have hi := hm i (.head _)
      have hi2 : i < vs.length := hR.length ▸ hi
      obtain ⟨r, hr, hrow⟩ := hR.get (List.getElem?_eq_getElem hi2)
      have e1 : vs.getD i Value.none = vs[i] := by simp [hi2]
      have e2 : rs.getD i ⟨0, 0, 0, 0, 0⟩ = r := by rw [List.getD_eq_getElem?_getD, hr]; rfl
      simp only [List.map_cons]
      rw [e1, e2]
      exact .cons hrow (ih fun j hj => hm j (.tail _ hj))
  · have e : (List.range rs.length).map (fun i => rs.getD i ⟨0, 0, 0, 0, 0⟩) = rs := by
      apply List.ext_getElem
      · simp
      · intro i h1 h2
        simp [h2]
    exact (hp.map _).trans (by rw [e])

theorem rows_sorted {kw : List (Str × Value)} {Q : Value → Shared → Prop} (F : Fr h₀ L s.heap m) (N : News h₀ L s.heap news) (hm : (l, listOf vs.toArray n) ∈ news) (hR : RowAll news vs rs) (hz : rs.length ≤ 3)
    (ha1 : argsOk "sorted" ⟨[.ref l], kw⟩) (ha2 : ∀ x, argsOk "list.sort" ⟨[.ref x], kw⟩) (ht : ∀ x, Builtin.«list.sort» ⟨[.ref x], kw⟩ = ksk_tree x f false)
    (key : KeyIs prog w A.in1.in1 s h₀ L m news f)
    (done : ∀ (D : Addr) (bs : List Value) (brs : List Row) (c : Nat) (h' : Heap) (tk : Nat), Fr h₀ L h' m → News h₀ L h' ((D, listOf bs.toArray c) :: news) → (∀ q ∈ news, q.1 < D) → RowAll news bs brs → brs.Perm rs → brs.Pairwise (fun a b => rowLt b a = false) →
      Q (.ref D) { s with heap := h', toks := tk }) :
    wpAny (model prog w) A (call (.builtin "sorted") [.ref l] kw) Q E s := by
  have hl := News.isList N hm
  have hlen := hR.length
  by_cases h2 : vs.length < 2
  · refine few_sorted F N hl h2 ha1 ha2 ht fun D kS e1 h' F' N' hDk hD => ?_
    have hnS : ∀ p ∈ news, p.1 ≠ kS := fun p hp => Nat.ne_of_lt (Nat.lt_trans (hD p hp) hDk)
    have hDS : D ≠ kS := Nat.ne_of_lt hDk
    have hnD : ∀ p ∈ news, p.1 ≠ D := fun p hp => Nat.ne_of_lt (hD p hp)
    refine keys_all hnS hDS key rs (fun ks e objs h tk hk F1 N1 hne => ?_) vs rs [] [] 0 [] h' s.toks hR rfl .nil F' N' (fun p hp => absurd hp List.not_mem_nil)
    refine fin_out F1 N1 hne hnS hDS hnD fun h2' c F2 N2 => done D vs rs c h2' tk F2 N2 hD hR (List.Perm.refl _) ?_
    match rs, hlen ▸ h2 with
    | [], _ => exact .nil
    | [_], _ => exact List.pairwise_singleton _ _
    | _ :: _ :: _, h => exact absurd h (by simp)
  · refine kat_sortedK (b := false) F N hl (by omega) (by omega) ha1 ha2 ht fun D kS e1 h' F' N' hDk hD => ?_
    have hnS : ∀ p ∈ news, p.1 ≠ kS := fun p hp => Nat.ne_of_lt (Nat.lt_trans (hD p hp) hDk)
    have hDS : D ≠ kS := Nat.ne_of_lt hDk
    have hnD : ∀ p ∈ news, p.1 ≠ D := fun p hp => Nat.ne_of_lt (hD p hp)
    refine keys_all hnS hDS key rs (fun ks e objs h tk hk F1 N1 hne => ?_) vs rs [] [] 0 [] h' s.toks hR rfl .nil F' N' (fun p hp => absurd hp List.not_mem_nil)
    have Nobjs : News h₀ L h objs := fun p hp => N1 p (List.mem_append_left _ hp)
    obtain ⟨fs, hT, hfl, hfi⟩ := KeysIn.tups Nobjs hk
    have hkl := hk.length
    refine kat_kind (T := .type "int") hT (by omega) (fun v hv => ?_) (by decide) ?_
    · obtain ⟨i, t, rfl⟩ := hfi v hv
      exact Looks.of_pure rfl
    · have hin : inR vs.length (kas_sort vs.length) = true := by
        rcases (show vs.length = 2 ∨ vs.length = 3 by omega) with e | e <;> rw [e]
        · exact in2
        · exact in3
      refine run_wp (n := vs.length) (c := cOf rs) (fun i j C hi hj hC => ?_) _ hin ?_
      · obtain ⟨K1, a1, a2, a3, g1, g2⟩ := hk.get i (hlen ▸ hi)
        obtain ⟨K2, b1, b2, b3, g3, g4⟩ := hk.get j (hlen ▸ hj)
        show wpAny _ _ (keyLt' _ (ks.getD i Value.none) (ks.getD j Value.none)) _ _ _
        rw [g1, g3]
        exact key_lt (Nobjs _ g2).1 (Nobjs _ g4).1 hC
      · have ok := sort_ok (rs := rs) (by omega) hz
        rw [hlen]
        unfold okPerm at ok
        simp only [Bool.and_eq_true, decide_eq_true_eq] at ok
        have hp := List.isPerm_iff.mp ok.1
        obtain ⟨p1, p2⟩ := perm_rows hR hp
        refine fin_out F1 N1 hne hnS hDS hnD fun h2' c F2 N2 => done D _ _ c h2' tk F2 N2 hD p1 p2 ?_
        rw [List.pairwise_map]
        exact ok.2
end
end
-- P1
section
theorem better_tot {a b : Row} (h1 : better a b = false) (h2 : better b a = false) : a.id = b.id := by
  unfold better at h1 h2
  simp only [Bool.or_eq_false_iff, Bool.and_eq_false_iff, decide_eq_false_iff_not, beq_eq_false_iff_ne, ne_eq] at h1 h2
  omega
theorem not_better_trans {a b c : Row} (h1 : better a b = false) (h2 : better b c = false) : better a c = false := by
  unfold better at h1 h2 ⊢
  simp only [Bool.or_eq_false_iff, Bool.and_eq_false_iff, decide_eq_false_iff_not, beq_eq_false_iff_ne, ne_eq] at h1 h2 ⊢
  omega
theorem better_asymm {a b : Row} (h1 : better a b = true) : better b a = false := by
  unfold better at h1 ⊢
  simp only [Bool.or_eq_true, Bool.and_eq_true, decide_eq_true_eq, beq_iff_eq, Bool.or_eq_false_iff, Bool.and_eq_false_iff, decide_eq_false_iff_not, beq_eq_false_iff_ne, ne_eq] at h1 ⊢
  omega
theorem better_irrefl (a : Row) : better a a = false := by
  unfold better
  simp
theorem best_from : ∀ (l : List Row) (q : Row), ∃ m, l.foldl bestStep (some q) = some m ∧ (m = q ∨ m ∈ l) ∧ better q m = false ∧ ∀ y ∈ l, better y m = false
  | [], q => ⟨q, rfl, .inl rfl, better_irrefl q, fun _ h => absurd h List.not_mem_nil⟩
  | r :: l, q => by
    cases hb : better r q with
    | true =>
      obtain ⟨m, h1, h2, h3, h4⟩ := best_from l r
      refine ⟨m, ?_, ?_, not_better_trans (better_asymm hb) h3, fun y hy => ?_⟩
      · rw [List.foldl_cons, ← h1]
        simp [bestStep, hb]
      · rcases h2 with rfl | h2
        · exact .inr (.head _)
        · exact .inr (.tail _ h2)
      · rcases List.mem_cons.mp hy with rfl | hy
        · exact h3
        · exact h4 y hy
    | false =>
      obtain ⟨m, h1, h2, h3, h4⟩ := best_from l q
      refine ⟨m, ?_, ?_, h3, fun y hy => ?_⟩
      · rw [List.foldl_cons, ← h1]
        simp [bestStep, hb]
      · rcases h2 with rfl | h2
        · exact .inl rfl
        · exact .inr (.tail _ h2)
      · rcases List.mem_cons.mp hy with rfl | hy
        · exact not_better_trans hb h3
        · exact h4 y hy
theorem best_some {l : List Row} (h : l ≠ []) : ∃ m, best l = some m ∧ m ∈ l ∧ ∀ y ∈ l, better y m = false := by
  cases l with
  | nil => exact absurd rfl h
  | cons r l =>
    obtain ⟨m, h1, h2, h3, h4⟩ := best_from l r
    refine ⟨m, h1, ?_, fun y hy => ?_⟩
    · rcases h2 with rfl | h2
      · exact .head _
      · exact .tail _ h2
    · rcases List.mem_cons.mp hy with rfl | hy
      · exact h3
      · exact h4 y hy
def Ids (l : List Row) : Prop := l.Pairwise fun a b => a.id ≠ b.id
theorem ids_eq {l : List Row} (h : Ids l) {a b : Row} (ha : a ∈ l) (hb : b ∈ l) (e : a.id = b.id) : a = b := by
  induction l with
  | nil => exact absurd ha List.not_mem_nil
  | cons r l ih =>
    have h' := List.pairwise_cons.mp h
    rcases List.mem_cons.mp ha with ea | ha
    · rcases List.mem_cons.mp hb with eb | hb
      · rw [ea, eb]
      · rw [ea] at e; exact absurd e (h'.1 _ hb)
    · rcases List.mem_cons.mp hb with eb | hb
      · rw [eb] at e; exact absurd e.symm (h'.1 _ ha)
      · exact ih h'.2 ha hb
theorem best_perm {l k : List Row} (hp : l.Perm k) (hi : Ids k) : best l = best k := by
  by_cases h : k = []
  · subst h
    rw [hp.eq_nil]
  · have h' : l ≠ [] := fun e => h (by rw [e] at hp; exact hp.symm.eq_nil)
    obtain ⟨m, a1, a2, a3⟩ := best_some h'
    obtain ⟨n, b1, b2, b3⟩ := best_some h
    have e : m = n := ids_eq hi (hp.mem_iff.mp a2) b2 (better_tot (b3 m (hp.mem_iff.mp a2)) (a3 n (hp.mem_iff.mpr b2)))
    rw [a1, b1, e]
theorem best_head {l : List Row} (h : l.Pairwise fun a b => better b a = false) : best l = l.head? := by
  cases l with
  | nil => rfl
  | cons r l =>
    have h' := (List.pairwise_cons.mp h).1
    have e : ∀ k : List Row, (∀ y ∈ k, better y r = false) → k.foldl bestStep (some r) = some r := by
      intro k
      induction k with
      | nil => intro _; rfl
      | cons y k ih =>
        intro hk
        rw [List.foldl_cons]
        have e1 : bestStep (some r) y = some r := by simp [bestStep, hk y (.head _)]
        rw [e1]
        exact ih fun z hz => hk z (.tail _ hz)
    exact e l h'
theorem ids_filter {l : List Row} (h : Ids l) (P : Row → Bool) : Ids (l.filter P) := List.Pairwise.filter P h
theorem good_head {l k : List Row} (hp : l.Perm k) (hs : l.Pairwise fun a b => better b a = false) (hi : Ids k) (P : Row → Bool) : (l.filter P).head? = best (k.filter P) := by
  rw [← best_head (List.Pairwise.filter P hs)]
  exact best_perm (hp.filter P) (ids_filter hi P)
def firstOf (l : List Row) : Int := addrOf l.head?
/-- the backup: the best of those who say so, else the best of the rest -/
theorem found_backup {l k : List Row} (hp : l.Perm k) (hs : l.Pairwise fun a b => better b a = false) (hi : Ids k) :
    firstOf ((l.filter fun r => !saysD r).filter saysB ++ l.filter fun r => !saysD r) = chosenB k := by
  unfold firstOf chosenB
  have e0 : (l.filter fun r => !saysD r).Perm (leftOf k) := hp.filter _
  have hs' := List.Pairwise.filter (fun r => !saysD r) hs
  have hi' : Ids (leftOf k) := ids_filter hi _
  have e1 := good_head e0 hs' hi' saysB
  have e2 := (e0.filter saysB).length_eq
  by_cases h : 0 < ((leftOf k).filter saysB).length
  · rw [decide_eq_true h, if_pos rfl, ← e1]
    cases hq : (l.filter fun r => !saysD r).filter saysB with
    | nil => rw [hq] at e2; exact absurd h (by rw [← e2]; simp)
    | cons x t => rfl
  · rw [decide_eq_false h]
    have hq : (l.filter fun r => !saysD r).filter saysB = [] := List.eq_nil_of_length_eq_zero (by omega)
    rw [hq, List.nil_append]
    have e3 := good_head hp hs hi fun r => !saysD r
    rw [e3]
    rfl
theorem found_designated {l k : List Row} (hp : l.Perm k) (hs : l.Pairwise fun a b => better b a = false) (hi : Ids k) (b : Int) :
    (if (l.filter saysD) ≠ [] then firstOf (l.filter saysD) else b) = chosenD k b := by
  unfold firstOf chosenD
  rw [good_head hp hs hi saysD]
  have e2 := (hp.filter saysD).length_eq
  by_cases h : l.filter saysD = []
  · have h' : k.filter saysD = [] := List.eq_nil_of_length_eq_zero (by rw [← e2, h]; rfl)
    rw [if_neg (by simp [h]), h']
    rfl
  · have h' : k.filter saysD ≠ [] := fun e => h (List.eq_nil_of_length_eq_zero (by rw [e2, e]; rfl))
    rw [if_pos h]
    obtain ⟨m, a1, _⟩ := best_some h'
    rw [a1]
    rfl
end
-- Tup2
section
set_option maxRecDepth 100000
section
variable {prog : Program} {w : World} {A : Around} {E : Value → Shared → Prop} {s : Shared} {h₀ : Heap} {L a b D : Addr} {m : Str → Option Value} {news : LedT} {n k : Nat} {Q : Value → Shared → Prop}

theorem adjust_upto (b n : Nat) (hb : b ≤ n) : Builtin.Slice.sliceAdjust none (some (b : Int)) 1 (n : Int) = (0, (b : Int)) := by
  unfold Builtin.Slice.sliceAdjust
  have h1 : ¬ ((1 : Int) < 0) := by omega
  have h2 : ¬ ((b : Int) < 0) := by omega
  simp only [h1, h2, if_false]
  congr 1
  omega
theorem places_upto (b : Nat) : Builtin.Slice.slicePlaces 0 (b : Int) 1 = b := by
  unfold Builtin.Slice.slicePlaces
  have h1 : (1 : Int) > 0 := by omega
  simp only [h1, if_true, Int.ediv_one]
  split <;> omega
theorem applied_upto {sl : Addr} {b n : Nat} {u : Tok} {Q : Int × Int × Nat → Shared → Prop} (hs : s.heap.IsSliceOf sl .none (.int b u) .none) (hb : b ≤ n) (h : Q (0, 1, b) s) :
    wpAny (model prog w) A (Builtin.Slice.sliceApplied (.ref sl) (pure (n : Int))) Q E s := by
  obtain ⟨os, hos, hcs, hds⟩ := id hs
  unfold Builtin.Slice.sliceApplied Builtin.Slice.sliceFields
  refine wpAny_bind (wpAny_bind (wpAny_field hos hds (x := .none) rfl (wpAny_bind (wpAny_field hos hds (x := .int b u) rfl (wpAny_bind (wpAny_field hos hds (x := .none) rfl (wpAny_pure ?_)))))))
  refine wpAny_bind (slicePart_none ?_)
  show wpAny _ _ (if ((1 : Int) == 0) = true then _ else _) _ _ s
  rw [if_neg (by decide)]
  refine wpAny_bind (slicePart_none (wpAny_bind (slicePart_int (wpAny_bind (wpAny_pure ?_)))))
  show wpAny _ _ (match Builtin.Slice.sliceAdjust none (some (b : Int)) 1 (n : Int) with | (lo, hi) => pure (lo, (1 : Int), Builtin.Slice.slicePlaces lo hi 1)) _ _ s
  rw [adjust_upto b n hb]
  show wpAny _ _ (pure ((0 : Int), (1 : Int), Builtin.Slice.slicePlaces 0 (b : Int) 1)) _ _ s
  rw [places_upto b]
  exact wpAny_pure h
theorem tpick_upto (xs : Array Value) (b : Nat) : ((List.range b).filterMap fun (k : Nat) => xs[((0 : Int) + (k : Int) * 1).toNat]?).toArray = (xs.toList.take b).toArray := by
  have e : (fun (k : Nat) => xs[((0 : Int) + (k : Int) * 1).toNat]?) = fun k => xs[0 + k]? := by
    funext k
    have : ((0 : Int) + (k : Int) * 1).toNat = 0 + k := by omega
    rw [this]
  rw [e]
  have := pick_run xs 0 b
  rw [List.filterMap_map] at this
  have e2 : ((fun x => xs[x]?) ∘ fun x => 0 + x) = fun k => xs[0 + k]? := rfl
  rw [e2] at this
  rw [this, List.drop_zero]
theorem getItem_upto {t sl : Addr} {items : Array Value} {b : Nat} {u : Tok} (ht : IsTup s.heap t items) (hs : s.heap.IsSliceOf sl .none (.int b u) .none) (hb : b < items.size)
    (h : Q (.ref s.heap.objs.size) { s with heap := s.heap.push { cls := .type "tuple", data := .seq (items.toList.take b).toArray } })
    (hsz : items.size ≤ sizeLine) : wpAny (model prog w) A (getItem (.ref t) (.ref sl)) Q E s := by
  have htake : sizeOk (.seq (items.toList.take b).toArray) := by
    show (items.toList.take b).toArray.size ≤ sizeLine
    rw [List.size_toArray, List.length_take, Array.length_toList]
    omega
  obtain ⟨os, hos, hcs, hds⟩ := id hs
  have hTs : s.TypeIs (.ref sl) "slice" := ⟨os, hos, hcs⟩
  unfold getItem
  try with_reducible refine wpAny_holding ?_
  first | refine wpAny_bind (wpAny_pure ?_) | skip
  refine wpAny_bind (wpAny_sequenceKey ht.typeIs (by decide) ?_)
  refine wpAny_bind (wpAny_callSpecial?_slot (name := Str.ofString "__getitem__") ht.typeIs slot_tuple_getitem
    (wpAny_call_entry slot_tuple_getitem ht.typeIs entry_tuple_getitem ?_ (args_tuple_getitem _ _)))
  show wpAny _ _ (Builtin.Tuple.tupleItemsOf (.ref t) >>= _) _ _ s
  refine wpAny_bind (tupleItemsOf_ ht ?_)
  refine wpAny_bind (wpAny_typeOf hTs ?_)
  rw [if_pos (by decide)]
  refine wpAny_bind (applied_upto hs (Nat.le_of_lt hb) ?_)
  have hno : ¬ (((0 : Int) == 0 && (1 : Int) == 1 && b == items.size) = true) := by
    have : (b == items.size) = false := by rw [beq_eq_false_iff_ne]; omega
    rw [this]; simp
  show wpAny _ _ (if ((0 : Int) == 0 && (1 : Int) == 1 && b == items.size) = true then _ else _) _ _ s
  rw [if_neg hno, tpick_upto items b]
  first
    | exact wpAny_bind (m := Builtin.Tuple.tupleExact _) (wpAny_newObj_type (wpAny_pure ⟨_, rfl, wpAny_pure h⟩) htake)
    | exact wpAny_bind (m := Builtin.Tuple.tupleExact _) (wpAny_newObj_type (wpAny_bind (wpAny_pure (wpAny_pure ⟨_, rfl, wpAny_pure h⟩))) htake)
    | exact wpAny_bind (wpAny_bind (m := Builtin.Tuple.tupleExact _) (wpAny_newObj_type (wpAny_pure (wpAny_pure ⟨_, rfl, wpAny_pure h⟩)) htake))
    | exact wpAny_bind (wpAny_bind (m := Builtin.Tuple.tupleExact _) (wpAny_newObj_type (wpAny_pure ⟨_, rfl, wpAny_pure h⟩) htake))

abbrev tripObj (r : Row) (t1 t2 t3 : Tok) : Obj := { cls := .type "tuple", data := .seq #[.int r.id t1, .int r.ad t2, .int r.pr t3] }
theorem IsTup.ofNews {t : Addr} {items : Array Value} (N : News h₀ L s.heap news) (h : (t, ({ cls := .type "tuple", data := .seq items n } : Obj)) ∈ news) : IsTup s.heap t items := News.isTup N h

/-- row[:3] -/
theorem row_upto {value slice : PySem.Expr} {r : Row} {t1 t2 t3 t4 t5 u : Tok} (F : Fr h₀ L s.heap m) (N : News h₀ L s.heap news) (hm : (a, rowObj r t1 t2 t3 t4 t5 n) ∈ news)
    (h : ∀ D h', Fr h₀ L h' m → News h₀ L h' ((D, tripObj r t1 t2 t3) :: news) → (∀ p ∈ news, p.1 < D) → Q (.ref D) { s with heap := h' })
    (hs : subscripted slice false (.ref a) (.ref s.heap.objs.size) = operate [.ref s.heap.objs.size, .ref a] (getItem (.ref a) (.ref s.heap.objs.size))) (hg : ∀ r, letTemporaryGo value (.ref a) r = pure ()) :
    wpAny (model prog w) A (subscriptTail value slice (.ref a) (.ref s.heap.objs.size)) Q E { s with heap := s.heap.push { cls := .type "slice", data := .fields #[.none, .int (3 : Int) u, .none] } } := by
  have ht : IsTup s.heap a #[.int r.id t1, .int r.ad t2, .int r.pr t3, .int r.dr t4, .int r.bk t5] := News.isTup N hm
  have ht' : IsTup (s.heap.push { cls := .type "slice", data := .fields #[.none, .int ((3 : Nat) : Int) u, .none] }) a _ := ht.keeps fun _ _ e => Heap.get?_push_of_some _ e
  refine subscriptTail_ops (s := { s with heap := s.heap.push { cls := .type "slice", data := .fields #[.none, .int ((3 : Nat) : Int) u, .none] } }) ht'.typeIs slot_tuple_getitem.lookup
    (getItem_upto (b := 3) (u := u) ht' (Heap.IsSliceOf.new ..) (by simp) ?_ (by rw [sizeLine_eq]; simp)) hs hg
  have N1 := News.push (F.push { cls := .type "slice", data := .fields #[.none, .int ((3 : Nat) : Int) u, .none] }) (N.grown fun _ _ e => Heap.get?_push_of_some _ e) (tripObj r t1 t2 t3)
  rw [Heap.size_push] at N1
  show Q (.ref (s.heap.push _).objs.size) _
  rw [Heap.size_push]
  exact h _ _ ((F.push _).push _) N1 fun p hp => Nat.lt_succ_of_lt (Heap.lt_size (N p hp).1)

/-- row[3:] -/
theorem row_from {value slice : PySem.Expr} {r : Row} {t1 t2 t3 t4 t5 u : Tok} (F : Fr h₀ L s.heap m) (N : News h₀ L s.heap news) (hm : (a, rowObj r t1 t2 t3 t4 t5 n) ∈ news)
    (h : ∀ D h', Fr h₀ L h' m → News h₀ L h' ((D, pairObj (r.dr, r.bk) t4 t5 0) :: news) → (∀ p ∈ news, p.1 < D) → Q (.ref D) { s with heap := h' })
    (hs : subscripted slice false (.ref a) (.ref s.heap.objs.size) = operate [.ref s.heap.objs.size, .ref a] (getItem (.ref a) (.ref s.heap.objs.size))) (hg : ∀ r, letTemporaryGo value (.ref a) r = pure ()) :
    wpAny (model prog w) A (subscriptTail value slice (.ref a) (.ref s.heap.objs.size)) Q E { s with heap := s.heap.push { cls := .type "slice", data := .fields #[.int (3 : Int) u, .none, .none] } } := by
  have ht : IsTup s.heap a #[.int r.id t1, .int r.ad t2, .int r.pr t3, .int r.dr t4, .int r.bk t5] := News.isTup N hm
  exact slice_tuple_from (a := 3) F N ht (by decide) (by simp) (fun h' F' N' => h _ h' F' N' fun p hp => Nat.lt_succ_of_lt (Heap.lt_size (N p hp).1)) hs hg (by rw [sizeLine_eq]; simp)

/-- row[:3] + pair -/
theorem trip_add {r : Row} {p : Int × Int} {t1 t2 t3 u1 u2 : Tok} (F : Fr h₀ L s.heap m) (N : News h₀ L s.heap news) (ha : (a, tripObj r t1 t2 t3) ∈ news) (hb : (b, pairObj p u1 u2 n) ∈ news)
    (h : ∀ D h', Fr h₀ L h' m → News h₀ L h' ((D, rowObj (withSaid r p) t1 t2 t3 u1 u2 0) :: news) → (∀ q ∈ news, q.1 < D) → Q (.ref D) { s with heap := h' }) :
    wpAny (model prog w) A (binaryOp .Add (.ref a) (.ref b)) Q E s :=
  kde_addT (its := #[.int r.id t1, .int r.ad t2, .int r.pr t3]) (its2 := #[.int p.1 u1, .int p.2 u2]) F N (News.isTup N ha) (News.isTup N hb) (by simp) (by simp) (by simp) rfl h
end
end
-- Tab
section
/-- the table of the lambda of _law_found: empty, or with the one code made -/
def TabSt (news : LedT) (ps : Array Value) : Prop :=
  ps = #[] ∨ ∃ (c' : Addr) (oc : Obj) (vs : Array Value) (t : Tok), ps = #[rawInt (99 : Nat), rawInt (59 : Nat), .ref c'] ∧ (c', oc) ∈ news ∧ oc.data = .fields vs ∧ vs[1]? = some (.str "_law_found.<locals>.<lambda>" t)
theorem TabSt.mono {news news' : LedT} {ps : Array Value} (h : TabSt news ps) (hs : ∀ p ∈ news, p ∈ news') : TabSt news' ps := by
  rcases h with h | ⟨c', oc, vs, t, h1, h2, h3, h4⟩
  · exact .inl h
  · exact .inr ⟨c', oc, vs, t, h1, hs _ h2, h3, h4⟩
theorem TabSt.one {news : LedT} {c' : Addr} {oc : Obj} {vs : Array Value} {t : Tok} (h2 : (c', oc) ∈ news) (h3 : oc.data = .fields vs) (h4 : vs[1]? = some (.str "_law_found.<locals>.<lambda>" t)) : TabSt news #[rawInt (99 : Nat), rawInt (59 : Nat), .ref c'] :=
  .inr ⟨c', oc, vs, t, rfl, h2, h3, h4⟩

/-- all but the table -/
def Strip (all rest : LedT) : Prop := ∀ p ∈ all, (∃ ps, p = (162, tabObj ps)) ∨ p ∈ rest
theorem Strip.mem {all rest : LedT} (h : Strip all rest) {a : Addr} {o : Obj} (hm : (a, o) ∈ all) (hc : o.cls ≠ .none) : (a, o) ∈ rest := by
  rcases h _ hm with ⟨ps, e⟩ | h
  · exact absurd (congrArg (fun p : Addr × Obj => p.2.cls) e) hc
  · exact h
theorem RowAt.strip {all rest : LedT} {v : Value} {r : Row} (h : RowAt all v r) (hs : Strip all rest) : RowAt rest v r := by
  obtain ⟨a, t1, t2, t3, t4, t5, n, e, h⟩ := h
  exact ⟨a, t1, t2, t3, t4, t5, n, e, hs.mem h (by simp)⟩
theorem PairAt.strip {all rest : LedT} {v : Value} {r : Int × Int} (h : PairAt all v r) (hs : Strip all rest) : PairAt rest v r := by
  obtain ⟨a, t1, t2, n, e, h⟩ := h
  exact ⟨a, t1, t2, n, e, hs.mem h (by simp)⟩
theorem RowAll.strip {all rest : LedT} {vs : List Value} {rs : List Row} (h : RowAll all vs rs) (hs : Strip all rest) : RowAll rest vs rs := by
  induction h with
  | nil => exact .nil
  | cons h _ ih => exact .cons (h.strip hs) ih
theorem RowsAt.strip {all rest : LedT} {v : Value} {rs : List Row} (h : RowsAt all v rs) (hs : Strip all rest) : RowsAt rest v rs := by
  obtain ⟨a, vs, n, e, h, k⟩ := h
  exact ⟨a, vs, n, e, hs.mem h (by simp), k.strip hs⟩
theorem strip_cons {news : LedT} {ps : Array Value} : Strip ((162, tabObj ps) :: news) news := fun p hp => by
  rcases List.mem_cons.mp hp with e | hp
  · exact .inl ⟨ps, e⟩
  · exact .inr hp

/-- a contract beside the lambda's table -/
def SpecT (w : World) (f : Addr) (need : Nat) (vs : List Value) (Rel : LedT → Prop) (Out : LedT → Value → Prop) : Prop :=
  ∀ (p : Program) (loose : List Str) (mean : ExcName → Option Value) (mg mb : Str → Option Value)
    (dp un : Nat) (gd : Option (List Code)) (cn : Str) (cs : Scope) (a : Addr) (ccd : Value) (cl : List (Str × Addr)) (outer : List Env) (A₀ : Around) (base h₀ : Heap) (L : Addr) (m : Str → Option Value) (news : LedT) (ps : Array Value) (s : Shared)
    (Q E : Value → Shared → Prop),
    Below A₀ base outer h₀ → Fr h₀ L s.heap m → Frag.In (Mine.hd.heap_39 w.params) h₀ → News h₀ L s.heap ((162, tabObj ps) :: news) → Top p loose mean mg mb h₀ → cs.kind = .function → CodeHd base 164 162 → TabSt news ps → (∀ q ∈ news, @Ne Nat 162 q.1) → Rel news → dp + need < recursionLimit → un + 8 * need < cLine →
    (∀ r tl ps' h' tk', Fr h₀ L h' m → News h₀ L h' ((162, tabObj ps') :: (tl ++ news)) → (ps' = ps ∨ TabSt tl ps') → (∀ p ∈ tl, @Ne Nat 162 p.1) → (∀ q ∈ news, ∀ p ∈ tl, @Ne Nat p.1 q.1) → Out tl r → Q r { s with heap := h', toks := tk' }) →
    wpAny (model (RowW.prog (OpenRow.toRowW (OpenLaw.row PySem.Challenge.rw_rh0201_01))) w) (ktrTop dp un gd cn cs L a ccd cl outer) (call (.ref f) vs) Q E s

theorem tabSt_next {all tl : LedT} {ps ps' : Array Value} (h : TabSt all ps) (k : ps' = ps ∨ TabSt tl ps') : TabSt (tl ++ all) ps' := by
  rcases k with rfl | k
  · exact h.mono fun p hp => List.mem_append_right _ hp
  · exact k.mono fun p hp => List.mem_append_left _ hp

theorem spect_go {w : World} {f : Addr} {need : Nat} {vs : List Value} {Rel : LedT → Prop} {Out : LedT → Value → Prop} {p : Program} {loose : List Str} {mean : ExcName → Option Value} {mg mb : Str → Option Value}
    {dp un : Nat} {gd : Option (List Code)} {cn : Str} {cs : Scope} {a : Addr} {ccd : Value} {cl : List (Str × Addr)} {outer : List Env} {A₀ : Around} {base h₀ : Heap} {L : Addr} {m : Str → Option Value} {all : LedT} {g : Obj → LedT} {ps : Array Value} {s : Shared}
    {Q E : Value → Shared → Prop} (C : SpecT w f need vs Rel Out)
    (B : Below A₀ base outer h₀) (F : Fr h₀ L s.heap m) (X : Frag.In (Mine.hd.heap_39 w.params) h₀) (N : News h₀ L s.heap all) (T : Top p loose mean mg mb h₀) (hk : cs.kind = .function) (hC : CodeHd base 164 162)
    (U : UpdF 162 (tabObj ps) all g) (hT : TabSt all ps) (R : ∀ rest, Strip all rest → Rel rest) (hd : dp + need < recursionLimit) (hu : un + 8 * need < cLine)
    (ret : ∀ r tl ps' rest h' tk', Fr h₀ L h' m → News h₀ L h' ((162, tabObj ps') :: (tl ++ rest)) → TabSt (tl ++ rest) ps' → (ps' = ps ∨ TabSt tl ps') → (∀ q ∈ tl ++ rest, @Ne Nat 162 q.1) → Strip all rest → (∀ p ∈ rest, p ∈ all) → (∀ q ∈ all, ∀ p ∈ tl, @Ne Nat p.1 q.1) → Out tl r → Q r { s with heap := h', toks := tk' }) :
    wpAny (model (RowW.prog (OpenRow.toRowW (OpenLaw.row PySem.Challenge.rw_rh0201_01))) w) (ktrTop dp un gd cn cs L a ccd cl outer) (call (.ref f) vs) Q E s := by
  obtain ⟨pre, post, e, _, h1, h2⟩ := U.split
  have hS : Strip all (pre ++ post) := fun p hp => by
    rw [e] at hp
    rcases List.mem_append.mp hp with hp | hp
    · exact .inr (List.mem_append_left _ hp)
    · rcases List.mem_cons.mp hp with hp | hp
      · exact .inl ⟨ps, hp⟩
      · exact .inr (List.mem_append_right _ hp)
  have hin : ∀ p ∈ pre ++ post, p ∈ all := fun p hp => by
    rw [e]
    rcases List.mem_append.mp hp with hp | hp
    · exact List.mem_append_left _ hp
    · exact List.mem_append_right _ (.tail _ hp)
  have hne : ∀ q ∈ pre ++ post, @Ne Nat 162 q.1 := fun q hq => by
    rcases List.mem_append.mp hq with hq | hq
    · exact fun e => h1 q hq e.symm
    · exact fun e => h2 q hq e.symm
  have hmem : (162, tabObj ps) ∈ all := by rw [e]; exact List.mem_append_right _ (.head _)
  have hT' : TabSt (pre ++ post) ps := by
    rcases hT with h | ⟨c', oc, vs, t, x1, x2, x3, x4⟩
    · exact .inl h
    · refine .inr ⟨c', oc, vs, t, x1, ?_, x3, x4⟩
      rw [e] at x2
      rcases List.mem_append.mp x2 with q | q
      · exact List.mem_append_left _ q
      · rcases List.mem_cons.mp q with q | q
        · cases q
          cases x3
          rw [x1] at x4
          cases x4
        · exact List.mem_append_right _ q
  refine C p loose mean mg mb dp un gd cn cs a ccd cl outer A₀ base h₀ L m (pre ++ post) ps s Q E B F X (fun q hq => ?_) T hk hC hT' hne (R _ hS) hd hu fun r tl ps' h' tk' F' N' hp h162 hfr ho => ?_
  · rcases List.mem_cons.mp hq with rfl | hq
    · exact N _ hmem
    · exact N _ (hin _ hq)
  · refine ret r tl ps' (pre ++ post) h' tk' F' N' (tabSt_next hT' hp) hp (fun q hq => ?_) hS hin (fun q hq p hp' => ?_) ho
    · rcases List.mem_append.mp hq with hq | hq
      · exact h162 _ hq
      · exact hne _ hq
    · rcases hS _ hq with ⟨ps2, rfl⟩ | hq
      · exact fun e => h162 p hp' e.symm
      · exact hfr q hq p hp'
/-- a pair, and perhaps a code made beside it -/
def PairAddOut (p : Int × Int) (tl : LedT) (r : Value) : Prop := ∃ D t1 t2 n add, tl = (D, pairObj p t1 t2 n) :: add ∧ r = .ref D
theorem pairAddOut {add : LedT} {p : Int × Int} {x y : Int} {D : Addr} {t1 t2 : Tok} {n : Nat} (e1 : x = p.1) (e2 : y = p.2) : PairAddOut p ((D, pairObj (x, y) t1 t2 n) :: add) (.ref D) := ⟨D, t1, t2, n, add, by rw [e1, e2], rfl⟩
theorem Strip.sub {all rest news : LedT} (h : Strip all rest) (hn : ∀ p ∈ news, p ∈ all) (hne : ∀ q ∈ news, @Ne Nat 162 q.1) : ∀ p ∈ news, p ∈ rest := fun p hp => by
  rcases h p (hn p hp) with ⟨ps, e⟩ | h
  · exact absurd (congrArg (·.1) e).symm (hne p hp)
  · exact h
theorem sub_news {h₀ h : Heap} {L : Addr} {all X : LedT} {ps : Array Value} (N : News h₀ L h all) (h1 : (162, tabObj ps) ∈ all) (h2 : ∀ p ∈ X, p ∈ all) : News h₀ L h ((162, tabObj ps) :: X) := fun p hp => by
  rcases List.mem_cons.mp hp with e | hp
  · rw [e]; exact N _ h1
  · exact N _ (h2 p hp)
theorem tabSt_then {tl tl2 : LedT} {ps ps1 ps2 : Array Value} (k : ps1 = ps ∨ TabSt tl ps1) (k2 : ps2 = ps1 ∨ TabSt tl2 ps2) : ps2 = ps ∨ TabSt (tl2 ++ tl) ps2 := by
  rcases k2 with rfl | k2
  · rcases k with k | k
    · exact .inl k
    · exact .inr (k.mono fun p hp => List.mem_append_right _ hp)
  · exact .inr (k2.mono fun p hp => List.mem_append_left _ hp)
theorem forall_app {P : Addr × Obj → Prop} {a b : LedT} (h1 : ∀ p ∈ a, P p) (h2 : ∀ p ∈ b, P p) : ∀ p ∈ a ++ b, P p := fun p hp => by
  rcases List.mem_append.mp hp with h | h
  · exact h1 p h
  · exact h2 p h
theorem turned_of {own : Row} {p : Int × Int} {b : Bool} (h : (((p.1 == own.ad) == (own.dr == own.ad)) && ((p.2 == own.ad) == (own.bk == own.ad))) = b) : isTurned own p = !b := by
  subst h
  unfold isTurned saysD saysB
  cases (p.1 == own.ad) <;> cases (own.dr == own.ad) <;> cases (p.2 == own.ad) <;> cases (own.bk == own.ad) <;> rfl
theorem forall_app' {P : Addr × Obj → Prop} {a b : LedT} (h2 : ∀ p ∈ b, P p) (h1 : ∀ p ∈ a, P p) : ∀ p ∈ a ++ b, P p := forall_app h1 h2
end
-- Lam
section
set_option maxRecDepth 100000
section
variable {M : Model} {A : Around} {E : Value → Shared → Prop} {s : Shared} {h₀ : Heap} {L a c D : Addr} {m mg mb : Str → Option Value} {cn : Str} {cs : Scope} {ccd : Value} {cl : List (Str × Addr)} {news : LedT} {oD : Obj}
  {p : Program} {loose : List Str} {mean : ExcName → Option Value} {params : Arguments} {body : Expr} {scope : Scope} {ps : Array Value} {pos : Pos} {clos : List (Str × Addr)}
/-- the lambda made, be its code in the table or not -/
theorem lam_T {Q : Value → Shared → Prop} (hdef : defaultsOf params (envX cn cs L a ccd cl) = ([], [])) (F : Fr h₀ L s.heap m) (N : News h₀ L s.heap ((D, oD) :: (162, tabObj ps) :: news)) (T : Top p loose mean mg mb h₀) (C : CodeHd h₀ 164 162) (hcd : ccd = .ref 164)
    (hD : @Ne Nat 162 D) (hT : TabSt news ps) (hne : ∀ q ∈ news, @Ne Nat 162 q.1) (hl : pos.line = 99) (hc : pos.col = 59) (hq : (envX cn cs L a ccd cl).qual ++ "<lambda>" = "_law_found.<locals>.<lambda>")
    (hcl : closureFor scope (envX cn cs L a ccd cl) = pure clos)
    (h : ∀ f c' oc vs t ctv ps' add rest h' tk, Fr h₀ L h' m → News h₀ L h' ((f, kla_obj "<lambda>" ((envX cn cs L a ccd cl).qual ++ "<lambda>") params body scope clos ((mg "__name__").getD .none) c' ctv) :: rest) →
      (c', oc) ∈ rest → oc.data = .fields vs → vs[1]? = some (.str ((envX cn cs L a ccd cl).qual ++ "<lambda>") t) → (D, oD) ∈ rest → (162, tabObj ps') ∈ rest → (∀ p ∈ add ++ news, p ∈ rest) → (ps' = ps ∨ TabSt add ps') →
      (∀ p ∈ add, @Ne Nat 162 p.1) → (∀ q ∈ news, ∀ p ∈ add, @Ne Nat p.1 q.1) → (∀ q ∈ rest, @LT.lt Nat _ q.1 f) → Q (.ref f) { s with heap := h', toks := tk }) :
    wpAny M A (eval (.Lambda params body scope pos) (envX cn cs L a ccd cl)) Q E s := by
  refine kla_eval hdef ?_
  rcases hT with rfl | ⟨c', oc, vs, t, rfl, h2, h3, h4⟩
  · have hD9 : @Ne Nat D 162 := hD.symm
    refine kla_nest F N T C hcd (.tail hD9 (.head fun q hq' => fun e => hne q hq' e.symm)) True.intro rfl hcl fun f c' oc vs t ctv h' tk F' N' d1 d2 l1 l2 => ?_
    have hm : (#[] ++ #[rawInt pos.line, rawInt pos.col, .ref c'] : Array Value) = #[rawInt (99 : Nat), rawInt (59 : Nat), .ref c'] := by rw [hl, hc]; rfl
    rw [hm] at N'
    refine h f c' oc vs t ctv #[rawInt (99 : Nat), rawInt (59 : Nat), .ref c'] [(c', oc)] _ h' tk F' N' (.head _) d1 d2 (.tail _ (.head _)) (.tail _ (.tail _ (.head _))) ?_ (.inr (TabSt.one (t := t) (.head _) d1 (by rw [← hq]; exact d2))) ?_ ?_ ?_
    · intro q hq'
      rcases List.mem_cons.mp hq' with rfl | hq'
      · exact .head _
      · exact .tail _ (.tail _ (.tail _ hq'))
    · intro q hq'
      rw [List.mem_singleton.mp hq']
      exact Nat.ne_of_lt (l1 _ (.tail _ (.head _)))
    · intro r hr q hq'
      rw [List.mem_singleton.mp hq']
      exact Nat.ne_of_gt (l1 _ (.tail _ (.tail _ hr)))
    · intro q hq'
      rcases List.mem_cons.mp hq' with rfl | hq'
      · exact l2
      · rcases List.mem_cons.mp hq' with rfl | hq'
        · exact Nat.lt_trans (l1 _ (.head _)) l2
        · rcases List.mem_cons.mp hq' with rfl | hq'
          · exact Nat.lt_trans (l1 (162, tabObj #[]) (.tail _ (.head _))) l2
          · exact Nat.lt_trans (l1 _ (.tail _ (.tail _ hq'))) l2
  · have ht : TriplesOk (#[rawInt (99 : Nat), rawInt (59 : Nat), .ref c'] : Array Value).toList := by first | exact True.intro | (simp [TriplesOk, rawInt]; done)
    have hf : codeAmong pos (#[rawInt (99 : Nat), rawInt (59 : Nat), .ref c'] : Array Value).toList = some (.ref c') := by simp [codeAmong, rawInt, hl, hc]
    refine kla_hit F N T C hcd (.tail _ (.head _)) ht hf hcl fun f ctv h' tk F' N' l1 => ?_
    exact h f c' oc vs t ctv #[rawInt (99 : Nat), rawInt (59 : Nat), .ref c'] [] _ h' tk F' N' (.tail _ (.tail _ h2)) h3 (by rw [hq]; exact h4) (.head _) (.tail _ (.head _)) (fun q hq' => .tail _ (.tail _ hq')) (.inl rfl)
      (fun q hq' => absurd hq' List.not_mem_nil) (fun _ _ q hq' => absurd hq' List.not_mem_nil) l1
end
section
variable {h₀ h : Heap} {L D : Addr} {oD : Obj} {news add rest all : LedT} {ps : Array Value}
theorem allLt_get {d : Addr} : ∀ {l : LedT}, AllLt d l → ∀ p ∈ l, @LT.lt Nat _ p.1 d
  | [], _, p, hp => absurd hp List.not_mem_nil
  | q :: l, h, p, hp => by
    rcases List.mem_cons.mp hp with e | hp
    · rw [e]; exact h.1
    · exact allLt_get h.2 p hp
theorem found_news (N : News h₀ L h ((D, oD) :: all)) (hA : AllLt D rest) (h0 : ∀ p ∈ rest, p ∈ all) (hP : (162, tabObj ps) ∈ rest) (hs : ∀ p ∈ add ++ news, p ∈ rest) (hn1 : ∀ p ∈ add, @Ne Nat 162 p.1) (hn2 : ∀ q ∈ news, ∀ p ∈ add, @Ne Nat p.1 q.1) :
    News h₀ L h ((162, tabObj ps) :: (((D, oD) :: add) ++ news)) ∧ (∀ p ∈ (D, oD) :: add, @Ne Nat 162 p.1) ∧ ∀ q ∈ news, ∀ p ∈ (D, oD) :: add, @Ne Nat p.1 q.1 := by
  refine ⟨fun p hp => ?_, fun p hp => ?_, fun q hq p hp => ?_⟩
  · rcases List.mem_cons.mp hp with e | hp
    · rw [e]; exact N _ (.tail _ (h0 _ hP))
    · rcases List.mem_cons.mp hp with e | hp
      · rw [e]; exact N _ (.head _)
      · exact N _ (.tail _ (h0 _ (hs _ hp)))
  · rcases List.mem_cons.mp hp with e | hp
    · rw [e]; exact Nat.ne_of_lt (allLt_get hA _ hP)
    · exact hn1 p hp
  · rcases List.mem_cons.mp hp with e | hp
    · rw [e]; exact Nat.ne_of_gt (allLt_get hA _ (hs _ (List.mem_append_right _ hq)))
    · exact hn2 q hq p hp
end
end
-- Loop2
section
section
variable {prog : Program} {w : World} {A : Around} {E : Value → Shared → Prop} {s : Shared} {env : Env} {h₀ : Heap} {x : Str} {body : List Stmt} {Q : Flow → Shared → Prop}

def RtEnd (h₀ : Heap) (L D : Addr) (x : Str) (m₀ : Str → Option Value) (all : LedT) (i : Nat) (ws : List Value) (ps : Array Value) (cur cur' : List Row) (s₁ s₂ : Shared) : Prop :=
  ∃ (h' : Heap) (tk : Nat) (v : Value) (q : Row) (c : Nat) (add : LedT) (ps' : Array Value) (m' : Str → Option Value), s₂ = { s₁ with heap := h', toks := tk } ∧ Fr h₀ L h' m' ∧ News h₀ L h' ((162, tabObj ps') :: (D, listOf (ws.set i v).toArray c) :: (add ++ all)) ∧
    (∀ p ∈ add, @Ne Nat p.1 D) ∧ (∀ p ∈ add, @Ne Nat 162 p.1) ∧ (∀ p ∈ add, ∀ q ∈ all, @Ne Nat p.1 q.1) ∧ RowAt add v q ∧ (ps' = ps ∨ TabSt add ps') ∧ cur' = cur.set i q ∧ ∀ z, z ≠ x → m' z = m₀ z
def RtPost (h₀ : Heap) (L D : Addr) (x : Str) (m₀ : Str → Option Value) (all : LedT) (i : Nat) (ws : List Value) (ps : Array Value) (cur cur' : List Row) (s₁ : Shared) (Q : Flow → Shared → Prop) (f : Flow) (s₂ : Shared) : Prop :=
  match f with
  | .ret v => Q (.ret v) s₂
  | .brk => Q .next s₂
  | _ => RtEnd h₀ L D x m₀ all i ws ps cur cur' s₁ s₂

def RtJ (D : Addr) (x : Str) (m₀ : Str → Option Value) (news : LedT) (ps₀ : Array Value) (i : Nat) (cur : List Row) (m : Str → Option Value) (nx : LedT) : Prop :=
  ∃ (ws : List Value) (c : Nat) (junk : LedT) (ps : Array Value), nx = (162, tabObj ps) :: (D, listOf ws.toArray c) :: (junk ++ news) ∧ (∀ p ∈ junk ++ news, @Ne Nat p.1 D) ∧ (∀ p ∈ junk ++ news, @Ne Nat 162 p.1) ∧ (∀ p ∈ junk, ∀ q ∈ news, @Ne Nat p.1 q.1) ∧
    RowAll (junk ++ news) ws cur ∧ RowAll junk (ws.take i) (cur.take i) ∧ (ps = ps₀ ∨ TabSt junk ps) ∧ ∀ z, z ≠ x → m z = m₀ z

/-- a loop over range(n) whose turn stores into one list of rows, beside the lambda's table -/
theorem rows_loopT {r D : Addr} {n : Nat} {vs : List Value} {c : Nat} {news : LedT} {ps₀ : Array Value} {m₀ : Str → Option Value} {t₀ u₀ w₀ : Tok} {rs : List Row} (step : List Row → Nat → List Row)
    (hh : A.handled = none) (hr : IsRange s.heap r 0 (n : Int) 1 t₀ u₀ w₀) (hz : n ≤ 64) (F : Fr h₀ env.locals s.heap m₀) (N : News h₀ env.locals s.heap ((162, tabObj ps₀) :: (D, listOf vs.toArray c) :: news)) (hA : RowAll news vs rs)
    (hD : ∀ q ∈ news, @LT.lt Nat _ q.1 D) (hT : TabSt news ps₀) (h162 : ∀ q ∈ news, @Ne Nat 162 q.1) (hD162 : @Ne Nat 162 D)
    (turn : ∀ (i : Nat) (ws : List Value) (c' : Nat) (cur : List Row) (t : Tok) (ps : Array Value) (all : LedT) (h : Heap) (tk : Nat), i < n → cur = (List.range i).foldl step rs → RowAll all ws cur → (∀ p ∈ all, p.1 ≠ D) → (∀ p ∈ all, p.1 ≠ 162) → TabSt all ps →
      Fr h₀ env.locals h (fun z => if z = x then some (.int (i : Int) t) else m₀ z) → News h₀ env.locals h ((162, tabObj ps) :: (D, listOf ws.toArray c') :: all) →
      wpAny (model prog w) A (execs body env) (RtPost h₀ env.locals D x m₀ all i ws ps cur (step cur i) { s with heap := h, toks := tk } Q) E { s with heap := h, toks := tk })
    (done : ∀ (ws : List Value) (c' : Nat) (u : Option Value) (ps : Array Value) (junk : LedT) (h : Heap) (tk : Nat), RowAll junk (ws.take n) (((List.range n).foldl step rs).take n) → ws.length = ((List.range n).foldl step rs).length → (∀ p ∈ junk, ∀ q ∈ news, @Ne Nat p.1 q.1) → (∀ p ∈ junk ++ news, @Ne Nat p.1 D) →
      (∀ p ∈ junk ++ news, @Ne Nat 162 p.1) → (ps = ps₀ ∨ TabSt junk ps) →
      Fr h₀ env.locals h (fun z => if z = x then u else m₀ z) → News h₀ env.locals h ((162, tabObj ps) :: (D, listOf ws.toArray c') :: (junk ++ news)) → Q .next { s with heap := h, toks := tk }) :
    wpAny (model prog w) A (pyIter (.ref r)) (fun it s₂ => LoopAtV prog w A h₀ env x body Q E it s₂) E s := by
  have keep : ∀ (m : Str → Option Value) (v : Option Value), (∀ z, z ≠ x → m z = m₀ z) → (fun z => if z = x then v else m z) = fun z => if z = x then v else m₀ z := by
    intro m v hm
    funext z
    by_cases h1 : z = x
    · simp [h1]
    · simp only [if_neg h1]; exact hm z h1
  refine tbr_invG (fun i m nx => RtJ D x m₀ news ps₀ i ((List.range i).foldl step rs) m nx) (n := n) hh hr (range_small hz) ?_ F N
    ⟨vs, c, [], ps₀, rfl, fun p hp => Nat.ne_of_lt (hD p hp), h162, (fun p hp => absurd hp List.not_mem_nil), hA, .nil, .inl rfl, fun _ _ => rfl⟩ ?_ ?_
  · rw [rangeSize_nat]; simp
  · rintro i k t m₁ nx h tk own hk hoff ⟨ws, c', junk, ps, rfl, hne, h1, hjn, hR, hTk, hps, hm⟩ F₁ N₁
    have hi : i < n := by
      have := (List.getElem?_eq_some_iff.mp hk).1
      rwa [rangeKs_length] at this
    have hk' : k = (i : Int) := by
      unfold rangeKs at hk
      rw [List.getElem?_map, List.getElem?_range hi] at hk
      have := Option.some.inj hk
      rw [← this]; exact Int.zero_add _
    subst hk'
    rw [keep m₁ _ hm] at F₁
    have hne2 : ∀ p ∈ (junk ++ news) ++ own, @Ne Nat p.1 D := fun p hp => by
      rcases List.mem_append.mp hp with hp | hp
      · exact hne p hp
      · exact hoff p hp (D, listOf ws.toArray c') (.tail _ (.head _))
    have h2 : ∀ p ∈ (junk ++ news) ++ own, @Ne Nat p.1 162 := fun p hp => by
      rcases List.mem_append.mp hp with hp | hp
      · exact fun e => h1 p hp e.symm
      · exact hoff p hp (162, tabObj ps) (.head _)
    have hT1 : TabSt ((junk ++ news) ++ own) ps := by
      rcases hps with rfl | k
      · exact hT.mono fun p hp => by simp [hp]
      · exact k.mono fun p hp => by simp [hp]
    refine wpAny_mono (turn i ws c' _ t ps ((junk ++ news) ++ own) h tk hi rfl (hR.mono fun p hp => List.mem_append_left _ hp) hne2 h2 hT1 F₁ N₁) (fun f s₂ p => ?_) fun _ _ e => e
    have fin : RtEnd h₀ env.locals D x m₀ ((junk ++ news) ++ own) i ws ps ((List.range i).foldl step rs) (step ((List.range i).foldl step rs) i) { s with heap := h, toks := tk } s₂ →
        TbEnd h₀ env.locals (RtJ D x m₀ news ps₀ (i + 1) ((List.range (i + 1)).foldl step rs)) own { s with heap := h, toks := tk } s₂ := by
      rintro ⟨h', tk', v', q', c'', add, ps', m', e, F', N', ha, ha2, hb, hq', hps', hc', hm'⟩
      have hs : (List.range (i + 1)).foldl step rs = step ((List.range i).foldl step rs) i := by
        rw [List.range_succ, List.foldl_append]
        rfl
      rw [hs]
      refine ⟨h', tk', m', _, (162, tabObj ps') :: (D, listOf (ws.set i v').toArray c'') :: ((add ++ junk) ++ news), e, F', N', ?_, ?_, ?_, ws.set i v', c'', add ++ junk, ps', rfl, ?_, ?_, ?_, ?_, ?_, tabSt_then hps hps', hm'⟩
      · intro p hp
        rcases List.mem_cons.mp hp with rfl | hp
        · exact .head _
        · rcases List.mem_cons.mp hp with rfl | hp
          · exact .tail _ (.head _)
          · refine List.mem_cons_of_mem _ (List.mem_cons_of_mem _ ?_)
            simp only [List.mem_append] at hp ⊢
            rcases hp with (hp | hp) | hp <;> simp [hp]
      · intro p hp
        refine List.mem_cons_of_mem _ (List.mem_cons_of_mem _ ?_)
        simp [hp]
      · intro p hp q hq
        rcases List.mem_cons.mp hq with rfl | hq
        · exact hoff p hp (162, tabObj ps) (.head _)
        · rcases List.mem_cons.mp hq with rfl | hq
          · exact hoff p hp (D, listOf ws.toArray c') (.tail _ (.head _))
          · simp only [List.mem_append] at hq
            rcases hq with (hq | hq) | hq
            · exact fun e => hb q hq p (by simp [hp]) e.symm
            · exact hoff p hp q (List.mem_cons_of_mem _ (List.mem_cons_of_mem _ (by simp [hq])))
            · exact hoff p hp q (List.mem_cons_of_mem _ (List.mem_cons_of_mem _ (by simp [hq])))
      · intro p hp
        simp only [List.mem_append] at hp
        rcases hp with (hp | hp) | hp
        · exact ha p hp
        · exact hne p (by simp [hp])
        · exact hne p (by simp [hp])
      · intro p hp
        simp only [List.mem_append] at hp
        rcases hp with (hp | hp) | hp
        · exact ha2 p hp
        · exact h1 p (by simp [hp])
        · exact h1 p (by simp [hp])
      · intro p hp q hq
        rcases List.mem_append.mp hp with hp | hp
        · exact hb p hp q (by simp [hq])
        · exact hjn p hp q hq
      · rw [List.append_assoc, hc']
        exact (hR.mono fun p hp => List.mem_append_right _ hp).set (hq'.mono fun p hp => List.mem_append_left _ hp) i
      · by_cases hil : i < ws.length
        · have hil2 : i < ((List.range i).foldl step rs).length := hR.length ▸ hil
          rw [hc', take_set ws i v' hil, take_set _ i q' hil2]
          exact (hTk.mono fun p hp => List.mem_append_right _ hp).append (.cons (hq'.mono fun p hp => List.mem_append_left _ hp) .nil)
        · have hil2 : ¬ i < ((List.range i).foldl step rs).length := hR.length ▸ hil
          rw [hc', List.set_eq_of_length_le (by omega), List.set_eq_of_length_le (by omega), List.take_of_length_le (by omega), List.take_of_length_le (by omega)]
          rw [List.take_of_length_le (by omega), List.take_of_length_le (by omega)] at hTk
          exact hTk.mono fun p hp => List.mem_append_right _ hp
    cases f with
    | ret v => exact p
    | brk => exact p
    | next => exact fin p
    | cont => exact fin p
  · rintro m₁ nx h tk ⟨ws, c', junk, ps, rfl, hne, h1, hjn, hR, hTk, hps, hm⟩ F₁ N₁
    have e := keep m₁ (m₁ x) hm
    have e2 : (fun z => if z = x then m₁ x else m₁ z) = m₁ := by
      funext z
      by_cases h1 : z = x
      · simp [h1]
      · simp [h1]
    rw [e2] at e
    exact done ws c' (m₁ x) ps junk h tk hTk hR.length hjn hne h1 hps (by rw [← e]; exact F₁) N₁
end
theorem news_swap {h₀ h : Heap} {L : Addr} {p q : Addr × Obj} {r : LedT} (N : News h₀ L h (p :: q :: r)) : News h₀ L h (q :: p :: r) := fun x hx => by
  rcases List.mem_cons.mp hx with e | hx
  · rw [e]; exact N _ (.tail _ (.head _))
  · rcases List.mem_cons.mp hx with e | hx
    · rw [e]; exact N _ (.head _)
    · exact N _ (.tail _ (.tail _ hx))
section
variable {h₀ : Heap} {x : Str}
theorem turn_news {h2 : Heap} {L D T : Addr} {oD oT : Obj} {ps2 : Array Value} {tl rest all : LedT} (N2 : News h₀ L h2 ((162, tabObj ps2) :: (tl ++ rest))) (m1 : (D, oD) ∈ rest) (m2 : (T, oT) ∈ rest) (hs : ∀ p ∈ all, p ∈ rest) :
    News h₀ L h2 ((162, tabObj ps2) :: (D, oD) :: (T, oT) :: (tl ++ all)) := fun p hp => by
  rcases List.mem_cons.mp hp with e | hp
  · rw [e]; exact N2 _ (.head _)
  · rcases List.mem_cons.mp hp with e | hp
    · rw [e]; exact N2 _ (.tail _ (List.mem_append_right _ m1))
    · rcases List.mem_cons.mp hp with e | hp
      · rw [e]; exact N2 _ (.tail _ (List.mem_append_right _ m2))
      · rcases List.mem_append.mp hp with hp | hp
        · exact N2 _ (.tail _ (List.mem_append_left _ hp))
        · exact N2 _ (.tail _ (List.mem_append_right _ (hs p hp)))
theorem rt_close {D W : Addr} {ws : List Value} {c n9 i : Nat} {all all9 tl : LedT} {ps ps2 : Array Value} {m₀ m' : Str → Option Value} {cur cur' : List Row} {q : Row} {t1 t2 t3 t4 t5 : Tok} {L : Addr} {h' : Heap} {tk : Nat} {s₁ : Shared}
    (F : Fr h₀ L h' m') (N : News h₀ L h' all9) (h0 : (162, tabObj ps2) ∈ all9) (h1 : (D, listOf (ws.set i (.ref W)).toArray c) ∈ all9) (h2 : (W, rowObj q t1 t2 t3 t4 t5 n9) ∈ all9) (h3 : ∀ p ∈ tl ++ all, p ∈ all9)
    (hkD : @Ne Nat W D) (hk162 : @Ne Nat 162 W) (hkall : ∀ q ∈ all, @Ne Nat W q.1) (htD : ∀ p ∈ tl, @Ne Nat p.1 D) (ht162 : ∀ p ∈ tl, @Ne Nat 162 p.1) (htall : ∀ p ∈ tl, ∀ q ∈ all, @Ne Nat p.1 q.1) (hps : ps2 = ps ∨ TabSt tl ps2)
    (e : cur' = cur.set i q) (hm : ∀ z, z ≠ x → m' z = m₀ z) :
    RtEnd h₀ L D x m₀ all i ws ps cur cur' s₁ { s₁ with heap := h', toks := tk } := by
  refine ⟨h', tk, .ref W, q, c, (W, rowObj q t1 t2 t3 t4 t5 n9) :: tl, ps2, m', rfl, F, ?_, ?_, ?_, ?_, ?_, hps.imp id (fun k => k.mono fun p hp => .tail _ hp), e, hm⟩
  · intro p hp
    rcases List.mem_cons.mp hp with rfl | hp
    · exact N _ h0
    · rcases List.mem_cons.mp hp with rfl | hp
      · exact N _ h1
      · rcases List.mem_cons.mp hp with rfl | hp
        · exact N _ h2
        · exact N _ (h3 _ hp)
  · intro p hp
    rcases List.mem_cons.mp hp with rfl | hp
    · exact hkD
    · exact htD p hp
  · intro p hp
    rcases List.mem_cons.mp hp with rfl | hp
    · exact hk162
    · exact ht162 p hp
  · intro p hp r hr
    rcases List.mem_cons.mp hp with rfl | hp
    · exact hkall r hr
    · exact htall p hp r hr
  · exact ⟨W, t1, t2, t3, t4, t5, n9, rfl, .head _⟩
end
end
-- CellLoop
section
set_option maxRecDepth 100000
section
variable {prog : Program} {w : World} {A : Around} {E : Value → Shared → Prop} {s : Shared} {env : Env} {h₀ : Heap} {x : Str} {px : Pos} {body : List Stmt} {Q : Flow → Shared → Prop}
/-- a loop over a range whose target is stored by the walk itself (a cell, say) -/
theorem cell_range {r : Addr} {a₀ b₀ : Int} {t₀ u₀ v₀ : Tok} {n : Nat} {m₀ : Str → Option Value} {news : LedT} (J : Nat → (Str → Option Value) → LedT → Prop)
    (hh : A.handled = none) (hr : IsRange s.heap r a₀ b₀ 1 t₀ u₀ v₀) (hsmall : Builtin.Range.small a₀ b₀ 1 = true) (hn : Builtin.Range.rangeSize a₀ b₀ 1 = (n : Int)) (F : Fr h₀ env.locals s.heap m₀) (N : News h₀ env.locals s.heap news) (hj : J 0 m₀ news)
    (turn : ∀ i k t m₁ nx h tk own, (rangeKs a₀ n)[i]? = some k → TbOff own nx → J i m₁ nx → Fr h₀ env.locals h m₁ → News h₀ env.locals h (nx ++ own) →
      wpAny (model prog w) A (assign (.Name x px) env (.int k t)) (fun _ s₃ => wpAny (model prog w) A (execs body env) (TbPost h₀ env.locals (J (i + 1)) own { s with heap := h, toks := tk } Q) E s₃) E { s with heap := h, toks := tk })
    (done : ∀ m₁ nx h tk, J n m₁ nx → Fr h₀ env.locals h m₁ → News h₀ env.locals h nx → Q .next { s with heap := h, toks := tk }) :
    wpAny (model prog w) A (pyIter (.ref r)) (fun it s₂ => TurnsAt prog w A h₀ env (.Name x px) body Q E it s₂) E s := by
  refine wpAny_pyIter_range hr hsmall ?_
  have W : Walks prog w A s.heap.objs.size [s.heap.objs.size] [s.heap.objs.size] n (fun i v => i < n ∧ ∃ t, v = .int (a₀ + i * 1) t)
      (fun i h => IsRangeIter h s.heap.objs.size (a₀ + (i : Nat) * 1) ((n : Int) - (i : Nat)) 1) := (Walks.range hh _ a₀ 1 n).bound
  refine ⟨s.heap.objs.size, [s.heap.objs.size], [s.heap.objs.size], n, _, _, _, m₀, news, J, rfl, KTurns.ofWalks W fun i v s Q E _ hq => wpAny_pure hq, ?_, ?_, ?_, (by show IsRangeIter _ _ _ _ _; rw [hn]; simpa using Heap.get?_push_size _ rfl), F.push _, (fun p hp => ⟨Heap.get?_push_of_some _ (N p hp).1, (N p hp).2⟩), hj, ?_, ?_⟩
  · intro hm
    exact absurd F.ns.lt ((List.mem_singleton.mp hm) ▸ Nat.lt_irrefl _)
  · intro b hb
    rw [List.mem_singleton.mp hb]
    exact next_is_new F
  · intro p hp hI
    exact absurd (Heap.lt_size (N p hp).1) ((List.mem_singleton.mp hI) ▸ Nat.lt_irrefl _)
  · rintro i v m₁ nx h tk own hi ⟨_, t, rfl⟩ hJ hoff hown _ hmem hst' F₁ N₁
    have hsep : TbOff own nx := by
      intro p hp q hq e
      exact hoff q hq (e ▸ hown p hp)
    have N₂ : News h₀ env.locals h (nx ++ own) := fun p hp => N₁ p ((List.mem_append.mp hp).elim (fun h => List.mem_append.mpr (.inr h)) fun h => List.mem_append.mpr (.inl h))
    have hk : (rangeKs a₀ n)[i]? = some (a₀ + (i : Int)) := by simp [rangeKs, hi]
    have e1 : a₀ + (i : Int) * 1 = a₀ + (i : Int) := by omega
    rw [e1]
    refine wpAny_mono (turn i _ t m₁ nx h tk own hk hsep hJ F₁ N₂) (fun _ s₃ h₃ => wpAny_mono h₃ (fun f s₂ p => ?_) fun _ _ e => e) fun _ _ e => e
    have fin : TbEnd h₀ env.locals (J (i + 1)) own { s with heap := h, toks := tk } s₂ → LoopStepU h₀ env.locals [s.heap.objs.size] own (J (i + 1)) { s with heap := h, toks := tk } .next s₂ := by
      rintro ⟨h', tk, m', news', nx, e, F', N', hn, ho, ha, hm⟩
      refine ⟨rfl, h', tk, m', nx, e, F', fun p hp => N' p ((List.mem_append.mp hp).elim (ho p) (hn p)), fun p hp hq => ?_, hm⟩
      have hb := List.mem_singleton.mp hq
      exact ha _ (hmem _ (List.mem_singleton.mpr rfl) (next_is_new F) _ hst') p hp hb.symm
    cases f with
    | ret v => exact .ret p
    | brk => exact .brk p
    | next => exact .next (fin p)
    | cont => exact .cont (fin p)
  · rintro h' tk m' news' F' N' _ hJ
    exact done m' news' h' tk hJ F' N'
end
end
section
open PyProof.Rows.LCg PyProof.Rows.LCt
local macro_rules | `(tactic| walk_at $s:str) => `(tactic| k_extra $s)
local macro_rules | `(tactic| k_mem) => `(tactic| k_extra "kw mem")
theorem kw1 : True := by
  k_with_none
  k_with "eval ListComp" => (k_here; lct_look; lcg_calm; k_dflt (refine LCt.ListComp_T (F₀ := by k_asm) (by with_unfolding_all rfl) (by decide) (by rfl) (by decide) (by rfl) ?_))
  k_with "exec Assign cons ListComp" => (k_here; lct_look; lcg_calm; k_dflt (refine LCt.Assign_ListComp_T (F₀ := by k_asm) (by rfl) (by with_unfolding_all rfl) (by with_unfolding_all rfl) (by decide) (by rfl) (by decide) (by rfl) (by rfl) (by rfl) ?_))
  k_with "subscriptTail" => (k_here; (with_reducible show wpAny _ _ (subscriptTail _ _ (Value.ref _) (Value.int _ _)) _ _ _); k_dflt (refine' item_tupleT ?kwt ?kwa ?kwb ?kwc ?kwd ?_; (case kwt => exact News.isTup (by k_asm) (by k_mem)); (case kwa => decide); (case kwb => decide); (case kwc => rfl); (case kwd => rfl); k_whole))
  k_with "kw mem" => (first | with_reducible assumption | (refine List.mem_append_right _ ?_; first | with_reducible assumption | (refine List.mem_cons_of_mem _ ?_; first | with_reducible assumption | (refine List.mem_cons_of_mem _ ?_; first | with_reducible assumption | (refine List.mem_cons_of_mem _ ?_; with_reducible assumption)))) | (refine List.mem_cons_of_mem _ ?_; first | with_reducible assumption | (refine List.mem_append_right _ ?_; first | with_reducible assumption | (refine List.mem_cons_of_mem _ ?_; first | with_reducible assumption | (refine List.mem_cons_of_mem _ ?_; first | with_reducible assumption | (refine List.mem_cons_of_mem _ ?_; with_reducible assumption)))) | (refine List.mem_cons_of_mem _ ?_; first | with_reducible assumption | (refine List.mem_append_right _ ?_; first | with_reducible assumption | (refine List.mem_cons_of_mem _ ?_; first | with_reducible assumption | (refine List.mem_cons_of_mem _ ?_; first | with_reducible assumption | (refine List.mem_cons_of_mem _ ?_; with_reducible assumption)))) | (refine List.mem_cons_of_mem _ ?_; first | with_reducible assumption | (refine List.mem_append_right _ ?_; first | with_reducible assumption | (refine List.mem_cons_of_mem _ ?_; first | with_reducible assumption | (refine List.mem_cons_of_mem _ ?_; first | with_reducible assumption | (refine List.mem_cons_of_mem _ ?_; with_reducible assumption)))) | (refine List.mem_cons_of_mem _ ?_; first | with_reducible assumption | (refine List.mem_append_right _ ?_; first | with_reducible assumption | (refine List.mem_cons_of_mem _ ?_; first | with_reducible assumption | (refine List.mem_cons_of_mem _ ?_; first | with_reducible assumption | (refine List.mem_cons_of_mem _ ?_; with_reducible assumption)))) | (refine List.mem_cons_of_mem _ ?_; first | with_reducible assumption | (refine List.mem_append_right _ ?_; first | with_reducible assumption | (refine List.mem_cons_of_mem _ ?_; first | with_reducible assumption | (refine List.mem_cons_of_mem _ ?_; first | with_reducible assumption | (refine List.mem_cons_of_mem _ ?_; with_reducible assumption)))) | (refine List.mem_cons_of_mem _ ?_; first | with_reducible assumption | (refine List.mem_append_right _ ?_; first | with_reducible assumption | (refine List.mem_cons_of_mem _ ?_; first | with_reducible assumption | (refine List.mem_cons_of_mem _ ?_; first | with_reducible assumption | (refine List.mem_cons_of_mem _ ?_; with_reducible assumption)))) | (refine List.mem_cons_of_mem _ ?_; first | with_reducible assumption | (refine List.mem_append_right _ ?_; first | with_reducible assumption | (refine List.mem_cons_of_mem _ ?_; first | with_reducible assumption | (refine List.mem_cons_of_mem _ ?_; first | with_reducible assumption | (refine List.mem_cons_of_mem _ ?_; with_reducible assumption)))) | (refine List.mem_cons_of_mem _ ?_; first | with_reducible assumption | (refine List.mem_append_right _ ?_; first | with_reducible assumption | (refine List.mem_cons_of_mem _ ?_; first | with_reducible assumption | (refine List.mem_cons_of_mem _ ?_; first | with_reducible assumption | (refine List.mem_cons_of_mem _ ?_; with_reducible assumption)))) | (refine List.mem_cons_of_mem _ ?_; first | with_reducible assumption | (refine List.mem_append_right _ ?_; first | with_reducible assumption | (refine List.mem_cons_of_mem _ ?_; first | with_reducible assumption | (refine List.mem_cons_of_mem _ ?_; first | with_reducible assumption | (refine List.mem_cons_of_mem _ ?_; with_reducible assumption)))) | (refine List.mem_cons_of_mem _ ?_; first | with_reducible assumption | (refine List.mem_append_right _ ?_; first | with_reducible assumption | (refine List.mem_cons_of_mem _ ?_; first | with_reducible assumption | (refine List.mem_cons_of_mem _ ?_; first | with_reducible assumption | (refine List.mem_cons_of_mem _ ?_; with_reducible assumption)))) | (refine List.mem_cons_of_mem _ ?_; first | with_reducible assumption | (refine List.mem_append_right _ ?_; first | with_reducible assumption | (refine List.mem_cons_of_mem _ ?_; first | with_reducible assumption | (refine List.mem_cons_of_mem _ ?_; first | with_reducible assumption | (refine List.mem_cons_of_mem _ ?_; with_reducible assumption)))) | (refine List.mem_cons_of_mem _ ?_; first | with_reducible assumption | (refine List.mem_append_right _ ?_; first | with_reducible assumption | (refine List.mem_cons_of_mem _ ?_; first | with_reducible assumption | (refine List.mem_cons_of_mem _ ?_; first | with_reducible assumption | (refine List.mem_cons_of_mem _ ?_; with_reducible assumption)))) | (refine List.mem_cons_of_mem _ ?_; first | with_reducible assumption | (refine List.mem_append_right _ ?_; first | with_reducible assumption | (refine List.mem_cons_of_mem _ ?_; first | with_reducible assumption | (refine List.mem_cons_of_mem _ ?_; first | with_reducible assumption | (refine List.mem_cons_of_mem _ ?_; with_reducible assumption)))) | (refine List.mem_cons_of_mem _ ?_; first | with_reducible assumption | (refine List.mem_append_right _ ?_; first | with_reducible assumption | (refine List.mem_cons_of_mem _ ?_; first | with_reducible assumption | (refine List.mem_cons_of_mem _ ?_; first | with_reducible assumption | (refine List.mem_cons_of_mem _ ?_; with_reducible assumption)))))))))))))))))))
  k_with "compareOp Gt ref ref" => (k_here; (with_reducible show wpAny _ _ (compareOp CmpOp.Gt (Value.ref _) (Value.ref _)) _ _ _); k_dflt (refine' gt_pair (x1 := _) ?kwu ?kwa ?kwb ?_; (case kwu => first | k_units | ktr_units); (case kwa => exact News.get (by k_asm) (by k_mem)); (case kwb => exact News.get (by k_asm) (by k_mem)); k_whole))
  k_with "call builtin:len" => (k_here; (with_reducible show wpAny _ _ (call (Value.builtin _) [Value.ref _]) _ _ _); k_dflt (refine' len_rows (vs := _) ?kwl ?kwr ?kwz ?_; (case kwl => exact News.isList (by k_asm) (by k_mem)); (case kwr => assumption); (case kwz => first | assumption | omega); k_whole))
  trivial
-- F1
set_option maxRecDepth 100000 in
set_option maxHeartbeats 8000000 in
theorem says_designated_spec (w : World) (v : Value) (r : Row) : Spec w 21 2 [v] (fun news => RowAt news v r) (BoolOut (saysD r)) := by
  unfold Spec
  k_fill
  intro p loose mean mg mb dp un gd cn cs a ccd cl outer A₀ base h₀ L m news s Q E B F X N T hk hR hd hu hret
  obtain ⟨a, t1, t2, t3, t4, t5, n, rfl, hm⟩ := hR
  refine wpAny_call ?_
  k_dflt ktr_enter
  k_steps
  exact hret _ [] _ _ (by k_asm) (by k_asm) (fun _ _ _ h => nomatch h) ⟨rfl, rfl⟩
set_option maxRecDepth 100000 in
set_option maxHeartbeats 8000000 in
theorem says_backup_spec (w : World) (v : Value) (r : Row) : Spec w 28 2 [v] (fun news => RowAt news v r) (BoolOut (saysB r)) := by
  unfold Spec
  k_fill
  intro p loose mean mg mb dp un gd cn cs a ccd cl outer A₀ base h₀ L m news s Q E B F X N T hk hR hd hu hret
  obtain ⟨a, t1, t2, t3, t4, t5, n, rfl, hm⟩ := hR
  refine wpAny_call ?_
  k_dflt ktr_enter
  k_steps
  exact hret _ [] _ _ (by k_asm) (by k_asm) (fun _ _ _ h => nomatch h) ⟨rfl, rfl⟩
set_option maxRecDepth 100000 in
set_option maxHeartbeats 8000000 in
theorem can_be_chosen_spec (w : World) (v : Value) (rs : List Row) : Spec w 33 2 [v] (fun news => RowsAt news v rs ∧ rs.length ≤ 64) (RowsOut (canBe rs)) := by
  unfold Spec
  k_fill
  intro p loose mean mg mb dp un gd cn cs a ccd cl outer A₀ base h₀ L m news s Q E B F X N T hk hR hd hu hret
  obtain ⟨⟨a, vs, n, rfl, hm, hR⟩, hlen⟩ := hR
  refine wpAny_call ?_
  k_dflt ktr_enter
  k_steps
  refine filter_src (fun r => decide (0 < r.pr)) (by rfl) (by k_asm) (by k_asm) hm hR hlen ?_ ?_
  · intro v r I oI C oC D m₂ h tk ys E' hv hC hx F' N' off ne
    obtain ⟨a, t1, t2, t3, t4, t5, n, rfl, hv⟩ := hv
    dsimp only
    k_steps
    all_goals first
      | (rename ¬ _ => hc; exact CompEnd.intro (by k_asm) (by k_asm) news (fun _ h => h) off (.inr ⟨_, hm, rfl, _, rfl⟩) ⟨decide_eq_false hc, rfl⟩)
      | (rename (0 : Int) < _ => hc; exact CompEnd.intro (by k_asm) (by k_asm) news (fun _ h => h) off (.inr ⟨_, hm, rfl, _, rfl⟩) ⟨⟨rfl, decide_eq_true hc⟩, rfl⟩)
  · intro g zs hz
    k_steps
    exact hret _ [_] _ _ (by k_asm) (by k_asm) (off1_fresh (by assumption)) ⟨_, _, _, rfl, rfl, hz⟩
-- F2
set_option maxRecDepth 100000 in
set_option maxHeartbeats 8000000 in
theorem address_of_spec (w : World) (v : Value) (o : Option Row) : Spec w 47 2 [v] (fun news => OptAt news v o) (IntOut (addrOf o)) := by
  unfold Spec
  k_fill
  intro p loose mean mg mb dp un gd cn cs a ccd cl outer A₀ base h₀ L m news s Q E B F X N T hk hR hd hu hret
  cases o with
  | none =>
    have hR : v = .none := hR
    subst hR
    refine wpAny_call ?_
    k_dflt ktr_enter
    k_steps
    exact hret _ [] _ _ (by k_asm) (by k_asm) (fun _ _ _ h => nomatch h) ⟨rfl, _, rfl⟩
  | some r =>
    obtain ⟨a, t1, t2, t3, t4, t5, n, rfl, hm⟩ := hR
    refine wpAny_call ?_
    k_dflt ktr_enter
    k_steps
    exact hret _ [] _ _ (by k_asm) (by k_asm) (fun _ _ _ h => nomatch h) ⟨rfl, _, rfl⟩
set_option maxRecDepth 100000 in
set_option maxHeartbeats 8000000 in
theorem bestStep_yes {r q : Row} (h : better r q = true) : bestStep (some q) r = some r := by simp [bestStep, h]
theorem bestStep_no {r q : Row} (h : better r q = false) : bestStep (some q) r = some q := by simp [bestStep, h]
theorem best_take {rs : List Row} {r : Row} {i : Nat} (h : rs[i]? = some r) : best (rs.take (i + 1)) = bestStep (best (rs.take i)) r := by
  unfold best
  rw [List.take_add_one, h, List.foldl_append]
  rfl
set_option maxRecDepth 100000 in
set_option maxHeartbeats 8000000 in
theorem best_row_spec (w : World) (v : Value) (rs : List Row) : Spec w 40 2 [v] (fun news => RowsAt news v rs ∧ rs.length ≤ 64) (OptRowOut (best rs)) := by
  unfold Spec
  k_fill
  intro p loose mean mg mb dp un gd cn cs a ccd cl outer A₀ base h₀ L m news s Q E B F X N T hk hR hd hu hret
  obtain ⟨⟨a, vs, n, rfl, hm, hR⟩, hlen⟩ := hR
  refine wpAny_call ?_
  k_dflt ktr_enter
  k_steps
  (rename Fr _ _ _ _ => lF')
  (rename News _ _ _ _ => lN')
  k_dflt (with_unfolding_all refine' For_invVF lF' ?k1 ?k2 ?_)
  (case k1 => exact rfl)
  (case k2 => exact rfl)
  walk1
  refine kdl_iter (fun i m nx => nx = news ∧ ∃ (rv : Option Value) (bv : Value), m = (fun y => if y = Str.ofString "row" then rv else if y = Str.ofString "best" then some bv else List.lookup y [(Str.ofString "rows", Value.ref a)]) ∧ (match best (rs.take i) with | none => bv = .none | some q => RowAt news bv q)) (by rfl) hm lF' lN' ⟨rfl, none, .none, ?_, rfl⟩ ?_ ?_
  · funext y
    by_cases h1 : y = Str.ofString "row"
    · subst h1; with_unfolding_all rfl
    · simp only [if_neg h1]; with_unfolding_all rfl
  · rintro i v m₁ news₁ h tk own hv hown hl ⟨hn1, rv, bv, rfl, hb⟩ F₁ N₁
    subst hn1
    obtain ⟨r, hr, hvr⟩ := hR.get hv
    have hvr' : RowAt (news₁ ++ own) v r := hvr.mono (fun _ h => List.mem_append_left _ h)
    cases hbest : best (rs.take i) with
    | none =>
      rw [hbest] at hb
      dsimp only at hb
      subst hb
      k_steps
      refine InvEndG.intro (by k_asm) (by k_asm) (nx := news₁) ⟨hl, rfl, some v, v, ?_, ?_⟩ hown (fun _ h => List.mem_append_left _ h) (fun _ h => List.mem_append_right _ h)
      · funext y
        by_cases h1 : y = Str.ofString "row"
        · subst h1; with_unfolding_all rfl
        · simp only [if_neg h1]
          by_cases h2 : y = Str.ofString "best"
          · simp only [if_pos h2]
          · simp only [if_neg h2]
      · rw [best_take hr, hbest]
        exact hvr
    | some q =>
      rw [hbest] at hb
      dsimp only at hb
      have hb' : RowAt (news₁ ++ own) bv q := hb.mono (fun _ h => List.mem_append_left _ h)
      obtain ⟨a', t1', t2', t3', t4', t5', n', rfl, hm'⟩ := hb'
      obtain ⟨a1, t1, t2, t3, t4, t5, n1, rfl, hm1⟩ := hvr'
      k_steps
      · have hc : better r q = true := by assumption
        refine InvEndG.intro (by k_asm) (by k_asm) (nx := news₁) ⟨hl, rfl, some (.ref a1), .ref a1, ?_, ?_⟩ hown (fun _ h => .tail _ (.tail _ (List.mem_append_left _ h))) (fun _ h => .tail _ (.tail _ (List.mem_append_right _ h)))
        · funext y
          by_cases h1 : y = Str.ofString "row"
          · subst h1; with_unfolding_all rfl
          · simp only [if_neg h1]
            by_cases h2 : y = Str.ofString "best"
            · simp only [if_pos h2]
            · simp only [if_neg h2]
        · rw [best_take hr, hbest, bestStep_yes hc]
          exact hvr
      · have hc : better r q = false := by assumption
        refine InvEndG.intro (by k_asm) (by k_asm) (nx := news₁) ⟨hl, rfl, some (.ref a1), .ref a', ?_, ?_⟩ hown (fun _ h => .tail _ (.tail _ (List.mem_append_left _ h))) (fun _ h => .tail _ (.tail _ (List.mem_append_right _ h)))
        · funext y
          by_cases h1 : y = Str.ofString "row"
          · subst h1; with_unfolding_all rfl
          · simp only [if_neg h1]
        · rw [best_take hr, hbest, bestStep_no hc]
          exact hb
  · rintro m₁ news₁ h tk ⟨hn1, rv, bv, rfl, hb⟩ F₁ N₁
    subst hn1
    k_steps
    refine hret _ [] _ _ (by k_asm) (by k_asm) (fun _ _ _ h => nomatch h) ⟨rfl, ?_⟩
    rw [show rs.take vs.length = rs from by rw [hR.length, List.take_length]] at hb
    exact hb
theorem kw2 : True := by
  k_with_none
  k_with "eval ListComp" => (k_here; lct_look; lcg_calm; k_dflt (refine LCt.ListComp_T (F₀ := by k_asm) (by with_unfolding_all rfl) (by decide) (by rfl) (by decide) (by rfl) ?_))
  k_with "exec Assign cons ListComp" => (k_here; lct_look; lcg_calm; k_dflt (refine LCt.Assign_ListComp_T (F₀ := by k_asm) (by rfl) (by with_unfolding_all rfl) (by with_unfolding_all rfl) (by decide) (by rfl) (by decide) (by rfl) (by rfl) (by rfl) ?_))
  k_with "subscriptTail" => (k_here; (with_reducible show wpAny _ _ (subscriptTail _ _ (Value.ref _) (Value.int _ _)) _ _ _); k_dflt (refine' item_tupleT ?kwt ?kwa ?kwb ?kwc ?kwd ?_; (case kwt => exact News.isTup (by k_asm) (by k_mem)); (case kwa => decide); (case kwb => decide); (case kwc => rfl); (case kwd => rfl); k_whole))
  k_with "kw mem" => (first | with_reducible assumption | (refine List.mem_append_right _ ?_; first | with_reducible assumption | (refine List.mem_cons_of_mem _ ?_; first | with_reducible assumption | (refine List.mem_cons_of_mem _ ?_; first | with_reducible assumption | (refine List.mem_cons_of_mem _ ?_; with_reducible assumption)))) | (refine List.mem_cons_of_mem _ ?_; first | with_reducible assumption | (refine List.mem_append_right _ ?_; first | with_reducible assumption | (refine List.mem_cons_of_mem _ ?_; first | with_reducible assumption | (refine List.mem_cons_of_mem _ ?_; first | with_reducible assumption | (refine List.mem_cons_of_mem _ ?_; with_reducible assumption)))) | (refine List.mem_cons_of_mem _ ?_; first | with_reducible assumption | (refine List.mem_append_right _ ?_; first | with_reducible assumption | (refine List.mem_cons_of_mem _ ?_; first | with_reducible assumption | (refine List.mem_cons_of_mem _ ?_; first | with_reducible assumption | (refine List.mem_cons_of_mem _ ?_; with_reducible assumption)))) | (refine List.mem_cons_of_mem _ ?_; first | with_reducible assumption | (refine List.mem_append_right _ ?_; first | with_reducible assumption | (refine List.mem_cons_of_mem _ ?_; first | with_reducible assumption | (refine List.mem_cons_of_mem _ ?_; first | with_reducible assumption | (refine List.mem_cons_of_mem _ ?_; with_reducible assumption)))) | (refine List.mem_cons_of_mem _ ?_; first | with_reducible assumption | (refine List.mem_append_right _ ?_; first | with_reducible assumption | (refine List.mem_cons_of_mem _ ?_; first | with_reducible assumption | (refine List.mem_cons_of_mem _ ?_; first | with_reducible assumption | (refine List.mem_cons_of_mem _ ?_; with_reducible assumption)))) | (refine List.mem_cons_of_mem _ ?_; first | with_reducible assumption | (refine List.mem_append_right _ ?_; first | with_reducible assumption | (refine List.mem_cons_of_mem _ ?_; first | with_reducible assumption | (refine List.mem_cons_of_mem _ ?_; first | with_reducible assumption | (refine List.mem_cons_of_mem _ ?_; with_reducible assumption)))) | (refine List.mem_cons_of_mem _ ?_; first | with_reducible assumption | (refine List.mem_append_right _ ?_; first | with_reducible assumption | (refine List.mem_cons_of_mem _ ?_; first | with_reducible assumption | (refine List.mem_cons_of_mem _ ?_; first | with_reducible assumption | (refine List.mem_cons_of_mem _ ?_; with_reducible assumption)))) | (refine List.mem_cons_of_mem _ ?_; first | with_reducible assumption | (refine List.mem_append_right _ ?_; first | with_reducible assumption | (refine List.mem_cons_of_mem _ ?_; first | with_reducible assumption | (refine List.mem_cons_of_mem _ ?_; first | with_reducible assumption | (refine List.mem_cons_of_mem _ ?_; with_reducible assumption)))) | (refine List.mem_cons_of_mem _ ?_; first | with_reducible assumption | (refine List.mem_append_right _ ?_; first | with_reducible assumption | (refine List.mem_cons_of_mem _ ?_; first | with_reducible assumption | (refine List.mem_cons_of_mem _ ?_; first | with_reducible assumption | (refine List.mem_cons_of_mem _ ?_; with_reducible assumption)))) | (refine List.mem_cons_of_mem _ ?_; first | with_reducible assumption | (refine List.mem_append_right _ ?_; first | with_reducible assumption | (refine List.mem_cons_of_mem _ ?_; first | with_reducible assumption | (refine List.mem_cons_of_mem _ ?_; first | with_reducible assumption | (refine List.mem_cons_of_mem _ ?_; with_reducible assumption)))) | (refine List.mem_cons_of_mem _ ?_; first | with_reducible assumption | (refine List.mem_append_right _ ?_; first | with_reducible assumption | (refine List.mem_cons_of_mem _ ?_; first | with_reducible assumption | (refine List.mem_cons_of_mem _ ?_; first | with_reducible assumption | (refine List.mem_cons_of_mem _ ?_; with_reducible assumption)))) | (refine List.mem_cons_of_mem _ ?_; first | with_reducible assumption | (refine List.mem_append_right _ ?_; first | with_reducible assumption | (refine List.mem_cons_of_mem _ ?_; first | with_reducible assumption | (refine List.mem_cons_of_mem _ ?_; first | with_reducible assumption | (refine List.mem_cons_of_mem _ ?_; with_reducible assumption)))) | (refine List.mem_cons_of_mem _ ?_; first | with_reducible assumption | (refine List.mem_append_right _ ?_; first | with_reducible assumption | (refine List.mem_cons_of_mem _ ?_; first | with_reducible assumption | (refine List.mem_cons_of_mem _ ?_; first | with_reducible assumption | (refine List.mem_cons_of_mem _ ?_; with_reducible assumption)))) | (refine List.mem_cons_of_mem _ ?_; first | with_reducible assumption | (refine List.mem_append_right _ ?_; first | with_reducible assumption | (refine List.mem_cons_of_mem _ ?_; first | with_reducible assumption | (refine List.mem_cons_of_mem _ ?_; first | with_reducible assumption | (refine List.mem_cons_of_mem _ ?_; with_reducible assumption)))) | (refine List.mem_cons_of_mem _ ?_; first | with_reducible assumption | (refine List.mem_append_right _ ?_; first | with_reducible assumption | (refine List.mem_cons_of_mem _ ?_; first | with_reducible assumption | (refine List.mem_cons_of_mem _ ?_; first | with_reducible assumption | (refine List.mem_cons_of_mem _ ?_; with_reducible assumption)))))))))))))))))))
  k_with "compareOp Gt ref ref" => (k_here; (with_reducible show wpAny _ _ (compareOp CmpOp.Gt (Value.ref _) (Value.ref _)) _ _ _); k_dflt (refine' gt_pair (x1 := _) ?kwu ?kwa ?kwb ?_; (case kwu => first | k_units | ktr_units); (case kwa => exact News.get (by k_asm) (by k_mem)); (case kwb => exact News.get (by k_asm) (by k_mem)); k_whole))
  k_with "call builtin:len" => (k_here; (with_reducible show wpAny _ _ (call (Value.builtin _) [Value.ref _]) _ _ _); k_dflt (refine' len_rows (vs := _) ?kwl ?kwr ?kwz ?_; (case kwl => exact News.isList (by k_asm) (by k_mem)); (case kwr => assumption); (case kwz => first | assumption | omega); k_whole))
  k_with "call ref" => (k_here; (with_reducible show wpAny _ _ (call (Value.ref 21) [_]) _ _ _); k_dflt (refine' spec_use (says_designated_spec _ _ _) ?kwk1 ?kwk2 ?kwk3 ?kwk4 ?kwk5 ?kwkK ?kwkR ?kwkd ?kwku ?_; (case kwk1 => k_asm); (case kwk2 => k_asm); (case kwk3 => k_asm); (case kwk4 => k_asm); (case kwk5 => k_asm); (case kwkK => first | exact rfl | assumption); (case kwkR => exact RowAt.mono (by assumption) (by k_sub)); (case kwkd => ktr_room); (case kwku => ktr_units)); intro r9 tl9 h9 tk9 F9 N9 hl9 ho9; (obtain ⟨e9, e8⟩ := ho9; subst e9; subst e8; clear hl9); (try simp only [List.nil_append, List.cons_append] at N9); (try dsimp only); (try k_sweep); (try k_fold))
  k_with "call ref" => (k_here; (with_reducible show wpAny _ _ (call (Value.ref 28) [_]) _ _ _); k_dflt (refine' spec_use (says_backup_spec _ _ _) ?kwk1 ?kwk2 ?kwk3 ?kwk4 ?kwk5 ?kwkK ?kwkR ?kwkd ?kwku ?_; (case kwk1 => k_asm); (case kwk2 => k_asm); (case kwk3 => k_asm); (case kwk4 => k_asm); (case kwk5 => k_asm); (case kwkK => first | exact rfl | assumption); (case kwkR => exact RowAt.mono (by assumption) (by k_sub)); (case kwkd => ktr_room); (case kwku => ktr_units)); intro r9 tl9 h9 tk9 F9 N9 hl9 ho9; (obtain ⟨e9, e8⟩ := ho9; subst e9; subst e8; clear hl9); (try simp only [List.nil_append, List.cons_append] at N9); (try dsimp only); (try k_sweep); (try k_fold))
  k_with "call ref" => (k_here; (with_reducible show wpAny _ _ (call (Value.ref 33) [_]) _ _ _); k_dflt (refine' spec_use (can_be_chosen_spec _ _ _) ?kwk1 ?kwk2 ?kwk3 ?kwk4 ?kwk5 ?kwkK ?kwkR ?kwkd ?kwku ?_; (case kwk1 => k_asm); (case kwk2 => k_asm); (case kwk3 => k_asm); (case kwk4 => k_asm); (case kwk5 => k_asm); (case kwkK => first | exact rfl | assumption); (case kwkR => (refine And.intro ?_ ?_; (first | exact RowsAt.mono (by assumption) (by k_sub) | exact ⟨_, _, _, rfl, by k_mem, RowAll.mono (by assumption) (by k_sub)⟩); (first | assumption | omega | (simp only [List.length_append, List.length_cons, List.length_nil, List.length_take, List.length_drop, List.length_set]; omega)))); (case kwkd => ktr_room); (case kwku => ktr_units)); intro r9 tl9 h9 tk9 F9 N9 hl9 ho9; (obtain ⟨D9, vs9, n9, e9, e8, hr9⟩ := ho9; subst e9; subst e8; have hk9 := fresh_one hl9; clear hl9; (try (have hn9 := hk9; simp only [List.mem_cons, forall_eq_or_imp] at hn9))); (try simp only [List.nil_append, List.cons_append] at N9); (try dsimp only); (try k_sweep); (try k_fold))
  k_with "call ref" => (k_here; (with_reducible show wpAny _ _ (call (Value.ref 47) [_]) _ _ _); k_dflt (refine' spec_use (address_of_spec _ _ _) ?kwk1 ?kwk2 ?kwk3 ?kwk4 ?kwk5 ?kwkK ?kwkR ?kwkd ?kwku ?_; (case kwk1 => k_asm); (case kwk2 => k_asm); (case kwk3 => k_asm); (case kwk4 => k_asm); (case kwk5 => k_asm); (case kwkK => first | exact rfl | assumption); (case kwkR => exact OptAt.mono (by assumption) (by k_sub)); (case kwkd => ktr_room); (case kwku => ktr_units)); intro r9 tl9 h9 tk9 F9 N9 hl9 ho9; (obtain ⟨e9, t8, e8⟩ := ho9; subst e9; subst e8; clear hl9); (try simp only [List.nil_append, List.cons_append] at N9); (try dsimp only); (try k_sweep); (try k_fold))
  k_with "call ref" => (k_here; (with_reducible show wpAny _ _ (call (Value.ref 40) [_]) _ _ _); k_dflt (refine' spec_use (best_row_spec _ _ _) ?kwk1 ?kwk2 ?kwk3 ?kwk4 ?kwk5 ?kwkK ?kwkR ?kwkd ?kwku ?_; (case kwk1 => k_asm); (case kwk2 => k_asm); (case kwk3 => k_asm); (case kwk4 => k_asm); (case kwk5 => k_asm); (case kwkK => first | exact rfl | assumption); (case kwkR => (refine And.intro ?_ ?_; (first | exact RowsAt.mono (by assumption) (by k_sub) | exact ⟨_, _, _, rfl, by k_mem, RowAll.mono (by assumption) (by k_sub)⟩); (first | assumption | omega | (simp only [List.length_append, List.length_cons, List.length_nil, List.length_take, List.length_drop, List.length_set]; omega)))); (case kwkd => ktr_room); (case kwku => ktr_units)); intro r9 tl9 h9 tk9 F9 N9 hl9 ho9; (obtain ⟨e9, o8⟩ := ho9; subst e9; clear hl9); (try simp only [List.nil_append, List.cons_append] at N9); (try dsimp only); (try k_sweep); (try k_fold))
  trivial
-- F3
set_option maxRecDepth 100000 in
set_option maxHeartbeats 8000000 in
theorem chosen_backup_spec (w : World) (v : Value) (rs : List Row) : Spec w 52 5 [v] (fun news => RowsAt news v rs ∧ rs.length ≤ 64) (IntOut (chosenB rs)) := by
  unfold Spec
  k_fill
  intro p loose mean mg mb dp un gd cn cs a ccd cl outer A₀ base h₀ L m news s Q E B F X N T hk hR hd hu hret
  obtain ⟨⟨a, vs, n, rfl, hm, hR⟩, hlen⟩ := hR
  refine wpAny_call ?_
  k_dflt ktr_enter
  k_steps
  refine filter_src (fun r => !saysD r) (by rfl) (by k_asm) (by k_asm) hm hR hlen ?_ ?_
  · intro v r I oI C oC D m₂ h tk ys E' hv hC hx F' N' off ne
    dsimp only
    k_steps
    all_goals exact CompEnd.intro (by k_asm) (by k_asm) _ (fun _ h => h) off (.inr ⟨_, hm, rfl, _, rfl⟩) (by first | exact ⟨by rename saysD r = _ => hc; rw [hc]; rfl, rfl⟩ | exact ⟨⟨rfl, by rename saysD r = _ => hc; rw [hc]; rfl⟩, rfl⟩)
  · intro g zs hz
    replace hz : RowAll news zs (leftOf rs) := hz
    have hlen2 : (leftOf rs).length ≤ 64 := Nat.le_trans (List.length_filter_le _ _) hlen
    k_steps
    refine filter_src (rs := leftOf rs) saysB (by rfl) (by k_asm) (by k_asm) (.head _) (hz.mono (fun _ h => .tail _ h)) hlen2 ?_ ?_
    · intro v r I oI C oC D m₂ h tk ys E' hv hC hx F' N' off ne
      dsimp only
      k_steps
      all_goals exact CompEnd.intro (by k_asm) (by k_asm) _ (fun _ h => h) off (.inr ⟨_, .head _, rfl, _, rfl⟩) (by first | exact ⟨by assumption, rfl⟩ | exact ⟨⟨rfl, by assumption⟩, rfl⟩)
    · intro g zs2 hz2
      have hlen3 : ((leftOf rs).filter saysB).length ≤ 64 := Nat.le_trans (List.length_filter_le _ _) hlen2
      k_steps
      · have hc : decide (0 < ((leftOf rs).filter saysB).length) = true := decide_eq_true (by omega)
        refine hret _ [] _ _ (by k_asm) (cb_drop (by k_asm) (by k_sub)) (fun _ _ _ h => nomatch h) (intOut ?_)
        unfold chosenB
        rw [hc]
        rfl
      · have hc : decide (0 < ((leftOf rs).filter saysB).length) = false := decide_eq_false (by omega)
        refine hret _ [] _ _ (by k_asm) (cb_drop (by k_asm) (by k_sub)) (fun _ _ _ h => nomatch h) (intOut ?_)
        unfold chosenB
        rw [hc]
        rfl
-- F4
theorem kw3 : True := by
  k_with_none
  k_with "eval ListComp" => (k_here; lct_look; lcg_calm; k_dflt (refine LCt.ListComp_T (F₀ := by k_asm) (by with_unfolding_all rfl) (by decide) (by rfl) (by decide) (by rfl) ?_))
  k_with "exec Assign cons ListComp" => (k_here; lct_look; lcg_calm; k_dflt (refine LCt.Assign_ListComp_T (F₀ := by k_asm) (by rfl) (by with_unfolding_all rfl) (by with_unfolding_all rfl) (by decide) (by rfl) (by decide) (by rfl) (by rfl) (by rfl) ?_))
  k_with "subscriptTail" => (k_here; (with_reducible show wpAny _ _ (subscriptTail _ _ (Value.ref _) (Value.int _ _)) _ _ _); k_dflt (refine' item_tupleT ?kwt ?kwa ?kwb ?kwc ?kwd ?_; (case kwt => exact News.isTup (by k_asm) (by k_mem)); (case kwa => decide); (case kwb => decide); (case kwc => rfl); (case kwd => rfl); k_whole))
  k_with "kw mem" => (first | with_reducible assumption | (refine List.mem_append_right _ ?_; first | with_reducible assumption | (refine List.mem_cons_of_mem _ ?_; first | with_reducible assumption | (refine List.mem_cons_of_mem _ ?_; first | with_reducible assumption | (refine List.mem_cons_of_mem _ ?_; with_reducible assumption)))) | (refine List.mem_cons_of_mem _ ?_; first | with_reducible assumption | (refine List.mem_append_right _ ?_; first | with_reducible assumption | (refine List.mem_cons_of_mem _ ?_; first | with_reducible assumption | (refine List.mem_cons_of_mem _ ?_; first | with_reducible assumption | (refine List.mem_cons_of_mem _ ?_; with_reducible assumption)))) | (refine List.mem_cons_of_mem _ ?_; first | with_reducible assumption | (refine List.mem_append_right _ ?_; first | with_reducible assumption | (refine List.mem_cons_of_mem _ ?_; first | with_reducible assumption | (refine List.mem_cons_of_mem _ ?_; first | with_reducible assumption | (refine List.mem_cons_of_mem _ ?_; with_reducible assumption)))) | (refine List.mem_cons_of_mem _ ?_; first | with_reducible assumption | (refine List.mem_append_right _ ?_; first | with_reducible assumption | (refine List.mem_cons_of_mem _ ?_; first | with_reducible assumption | (refine List.mem_cons_of_mem _ ?_; first | with_reducible assumption | (refine List.mem_cons_of_mem _ ?_; with_reducible assumption)))) | (refine List.mem_cons_of_mem _ ?_; first | with_reducible assumption | (refine List.mem_append_right _ ?_; first | with_reducible assumption | (refine List.mem_cons_of_mem _ ?_; first | with_reducible assumption | (refine List.mem_cons_of_mem _ ?_; first | with_reducible assumption | (refine List.mem_cons_of_mem _ ?_; with_reducible assumption)))) | (refine List.mem_cons_of_mem _ ?_; first | with_reducible assumption | (refine List.mem_append_right _ ?_; first | with_reducible assumption | (refine List.mem_cons_of_mem _ ?_; first | with_reducible assumption | (refine List.mem_cons_of_mem _ ?_; first | with_reducible assumption | (refine List.mem_cons_of_mem _ ?_; with_reducible assumption)))) | (refine List.mem_cons_of_mem _ ?_; first | with_reducible assumption | (refine List.mem_append_right _ ?_; first | with_reducible assumption | (refine List.mem_cons_of_mem _ ?_; first | with_reducible assumption | (refine List.mem_cons_of_mem _ ?_; first | with_reducible assumption | (refine List.mem_cons_of_mem _ ?_; with_reducible assumption)))) | (refine List.mem_cons_of_mem _ ?_; first | with_reducible assumption | (refine List.mem_append_right _ ?_; first | with_reducible assumption | (refine List.mem_cons_of_mem _ ?_; first | with_reducible assumption | (refine List.mem_cons_of_mem _ ?_; first | with_reducible assumption | (refine List.mem_cons_of_mem _ ?_; with_reducible assumption)))) | (refine List.mem_cons_of_mem _ ?_; first | with_reducible assumption | (refine List.mem_append_right _ ?_; first | with_reducible assumption | (refine List.mem_cons_of_mem _ ?_; first | with_reducible assumption | (refine List.mem_cons_of_mem _ ?_; first | with_reducible assumption | (refine List.mem_cons_of_mem _ ?_; with_reducible assumption)))) | (refine List.mem_cons_of_mem _ ?_; first | with_reducible assumption | (refine List.mem_append_right _ ?_; first | with_reducible assumption | (refine List.mem_cons_of_mem _ ?_; first | with_reducible assumption | (refine List.mem_cons_of_mem _ ?_; first | with_reducible assumption | (refine List.mem_cons_of_mem _ ?_; with_reducible assumption)))) | (refine List.mem_cons_of_mem _ ?_; first | with_reducible assumption | (refine List.mem_append_right _ ?_; first | with_reducible assumption | (refine List.mem_cons_of_mem _ ?_; first | with_reducible assumption | (refine List.mem_cons_of_mem _ ?_; first | with_reducible assumption | (refine List.mem_cons_of_mem _ ?_; with_reducible assumption)))) | (refine List.mem_cons_of_mem _ ?_; first | with_reducible assumption | (refine List.mem_append_right _ ?_; first | with_reducible assumption | (refine List.mem_cons_of_mem _ ?_; first | with_reducible assumption | (refine List.mem_cons_of_mem _ ?_; first | with_reducible assumption | (refine List.mem_cons_of_mem _ ?_; with_reducible assumption)))) | (refine List.mem_cons_of_mem _ ?_; first | with_reducible assumption | (refine List.mem_append_right _ ?_; first | with_reducible assumption | (refine List.mem_cons_of_mem _ ?_; first | with_reducible assumption | (refine List.mem_cons_of_mem _ ?_; first | with_reducible assumption | (refine List.mem_cons_of_mem _ ?_; with_reducible assumption)))) | (refine List.mem_cons_of_mem _ ?_; first | with_reducible assumption | (refine List.mem_append_right _ ?_; first | with_reducible assumption | (refine List.mem_cons_of_mem _ ?_; first | with_reducible assumption | (refine List.mem_cons_of_mem _ ?_; first | with_reducible assumption | (refine List.mem_cons_of_mem _ ?_; with_reducible assumption)))) | (refine List.mem_cons_of_mem _ ?_; first | with_reducible assumption | (refine List.mem_append_right _ ?_; first | with_reducible assumption | (refine List.mem_cons_of_mem _ ?_; first | with_reducible assumption | (refine List.mem_cons_of_mem _ ?_; first | with_reducible assumption | (refine List.mem_cons_of_mem _ ?_; with_reducible assumption)))))))))))))))))))
  k_with "compareOp Gt ref ref" => (k_here; (with_reducible show wpAny _ _ (compareOp CmpOp.Gt (Value.ref _) (Value.ref _)) _ _ _); k_dflt (refine' gt_pair (x1 := _) ?kwu ?kwa ?kwb ?_; (case kwu => first | k_units | ktr_units); (case kwa => exact News.get (by k_asm) (by k_mem)); (case kwb => exact News.get (by k_asm) (by k_mem)); k_whole))
  k_with "call builtin:len" => (k_here; (with_reducible show wpAny _ _ (call (Value.builtin _) [Value.ref _]) _ _ _); k_dflt (refine' len_rows (vs := _) ?kwl ?kwr ?kwz ?_; (case kwl => exact News.isList (by k_asm) (by k_mem)); (case kwr => assumption); (case kwz => first | assumption | omega); k_whole))
  k_with "call ref" => (k_here; (with_reducible show wpAny _ _ (call (Value.ref 21) [_]) _ _ _); k_dflt (refine' spec_use (says_designated_spec _ _ _) ?kwk1 ?kwk2 ?kwk3 ?kwk4 ?kwk5 ?kwkK ?kwkR ?kwkd ?kwku ?_; (case kwk1 => k_asm); (case kwk2 => k_asm); (case kwk3 => k_asm); (case kwk4 => k_asm); (case kwk5 => k_asm); (case kwkK => first | exact rfl | assumption); (case kwkR => exact RowAt.mono (by assumption) (by k_sub)); (case kwkd => ktr_room); (case kwku => ktr_units)); intro r9 tl9 h9 tk9 F9 N9 hl9 ho9; (obtain ⟨e9, e8⟩ := ho9; subst e9; subst e8; clear hl9); (try simp only [List.nil_append, List.cons_append] at N9); (try dsimp only); (try k_sweep); (try k_fold))
  k_with "call ref" => (k_here; (with_reducible show wpAny _ _ (call (Value.ref 28) [_]) _ _ _); k_dflt (refine' spec_use (says_backup_spec _ _ _) ?kwk1 ?kwk2 ?kwk3 ?kwk4 ?kwk5 ?kwkK ?kwkR ?kwkd ?kwku ?_; (case kwk1 => k_asm); (case kwk2 => k_asm); (case kwk3 => k_asm); (case kwk4 => k_asm); (case kwk5 => k_asm); (case kwkK => first | exact rfl | assumption); (case kwkR => exact RowAt.mono (by assumption) (by k_sub)); (case kwkd => ktr_room); (case kwku => ktr_units)); intro r9 tl9 h9 tk9 F9 N9 hl9 ho9; (obtain ⟨e9, e8⟩ := ho9; subst e9; subst e8; clear hl9); (try simp only [List.nil_append, List.cons_append] at N9); (try dsimp only); (try k_sweep); (try k_fold))
  k_with "call ref" => (k_here; (with_reducible show wpAny _ _ (call (Value.ref 33) [_]) _ _ _); k_dflt (refine' spec_use (can_be_chosen_spec _ _ _) ?kwk1 ?kwk2 ?kwk3 ?kwk4 ?kwk5 ?kwkK ?kwkR ?kwkd ?kwku ?_; (case kwk1 => k_asm); (case kwk2 => k_asm); (case kwk3 => k_asm); (case kwk4 => k_asm); (case kwk5 => k_asm); (case kwkK => first | exact rfl | assumption); (case kwkR => (refine And.intro ?_ ?_; (first | exact RowsAt.mono (by assumption) (by k_sub) | exact ⟨_, _, _, rfl, by k_mem, RowAll.mono (by assumption) (by k_sub)⟩); (first | assumption | omega | (simp only [List.length_append, List.length_cons, List.length_nil, List.length_take, List.length_drop, List.length_set]; omega)))); (case kwkd => ktr_room); (case kwku => ktr_units)); intro r9 tl9 h9 tk9 F9 N9 hl9 ho9; (obtain ⟨D9, vs9, n9, e9, e8, hr9⟩ := ho9; subst e9; subst e8; have hk9 := fresh_one hl9; clear hl9; (try (have hn9 := hk9; simp only [List.mem_cons, forall_eq_or_imp] at hn9))); (try simp only [List.nil_append, List.cons_append] at N9); (try dsimp only); (try k_sweep); (try k_fold))
  k_with "call ref" => (k_here; (with_reducible show wpAny _ _ (call (Value.ref 47) [_]) _ _ _); k_dflt (refine' spec_use (address_of_spec _ _ _) ?kwk1 ?kwk2 ?kwk3 ?kwk4 ?kwk5 ?kwkK ?kwkR ?kwkd ?kwku ?_; (case kwk1 => k_asm); (case kwk2 => k_asm); (case kwk3 => k_asm); (case kwk4 => k_asm); (case kwk5 => k_asm); (case kwkK => first | exact rfl | assumption); (case kwkR => exact OptAt.mono (by assumption) (by k_sub)); (case kwkd => ktr_room); (case kwku => ktr_units)); intro r9 tl9 h9 tk9 F9 N9 hl9 ho9; (obtain ⟨e9, t8, e8⟩ := ho9; subst e9; subst e8; clear hl9); (try simp only [List.nil_append, List.cons_append] at N9); (try dsimp only); (try k_sweep); (try k_fold))
  k_with "call ref" => (k_here; (with_reducible show wpAny _ _ (call (Value.ref 40) [_]) _ _ _); k_dflt (refine' spec_use (best_row_spec _ _ _) ?kwk1 ?kwk2 ?kwk3 ?kwk4 ?kwk5 ?kwkK ?kwkR ?kwkd ?kwku ?_; (case kwk1 => k_asm); (case kwk2 => k_asm); (case kwk3 => k_asm); (case kwk4 => k_asm); (case kwk5 => k_asm); (case kwkK => first | exact rfl | assumption); (case kwkR => (refine And.intro ?_ ?_; (first | exact RowsAt.mono (by assumption) (by k_sub) | exact ⟨_, _, _, rfl, by k_mem, RowAll.mono (by assumption) (by k_sub)⟩); (first | assumption | omega | (simp only [List.length_append, List.length_cons, List.length_nil, List.length_take, List.length_drop, List.length_set]; omega)))); (case kwkd => ktr_room); (case kwku => ktr_units)); intro r9 tl9 h9 tk9 F9 N9 hl9 ho9; (obtain ⟨e9, o8⟩ := ho9; subst e9; clear hl9); (try simp only [List.nil_append, List.cons_append] at N9); (try dsimp only); (try k_sweep); (try k_fold))
  k_with "call ref" => (k_here; (with_reducible show wpAny _ _ (call (Value.ref 52) [_]) _ _ _); k_dflt (refine' spec_use (chosen_backup_spec _ _ _) ?kwk1 ?kwk2 ?kwk3 ?kwk4 ?kwk5 ?kwkK ?kwkR ?kwkd ?kwku ?_; (case kwk1 => k_asm); (case kwk2 => k_asm); (case kwk3 => k_asm); (case kwk4 => k_asm); (case kwk5 => k_asm); (case kwkK => first | exact rfl | assumption); (case kwkR => (refine And.intro ?_ ?_; (first | exact RowsAt.mono (by assumption) (by k_sub) | exact ⟨_, _, _, rfl, by k_mem, RowAll.mono (by assumption) (by k_sub)⟩); (first | assumption | omega | (simp only [List.length_append, List.length_cons, List.length_nil, List.length_take, List.length_drop, List.length_set]; omega)))); (case kwkd => ktr_room); (case kwku => ktr_units)); intro r9 tl9 h9 tk9 F9 N9 hl9 ho9; (obtain ⟨e9, t8, e8⟩ := ho9; subst e9; subst e8; clear hl9); (try simp only [List.nil_append, List.cons_append] at N9); (try dsimp only); (try k_sweep); (try k_fold))
  trivial
set_option maxRecDepth 100000 in
set_option maxHeartbeats 8000000 in
theorem chosen_designated_spec (w : World) (v : Value) (rs : List Row) (b : Int) (tb : Tok) : Spec w 57 5 [v, .int b tb] (fun news => RowsAt news v rs ∧ rs.length ≤ 64) (IntOut (chosenD rs b)) := by
  unfold Spec
  k_fill
  intro p' loose mean mg mb dp un gd cn cs a ccd cl outer A₀ base h₀ L m news s Q E B F X N T hk hR hd hu hret
  obtain ⟨⟨a, vs, n, rfl, hm, hR⟩, hlen⟩ := hR
  refine wpAny_call ?_
  k_dflt ktr_enter
  k_steps
  refine filter_src saysD (by rfl) (by k_asm) (by k_asm) hm hR hlen ?_ ?_
  · intro v r I oI C oC D m₂ h tk ys E' hv hC hx F' N' off ne
    dsimp only
    k_steps
    all_goals exact CompEnd.intro (by k_asm) (by k_asm) _ (fun _ h => h) off (.inr ⟨_, hm, rfl, _, rfl⟩) (by first | exact ⟨by assumption, rfl⟩ | exact ⟨⟨rfl, by assumption⟩, rfl⟩)
  · intro g zs hz
    have hlen2 : (rs.filter saysD).length ≤ 64 := Nat.le_trans (List.length_filter_le _ _) hlen
    k_steps
    rename OptAt _ _ _ => ho
    cases hb : best (rs.filter saysD) with
    | none =>
      rw [hb] at ho
      have ho : _ = Value.none := ho
      subst ho
      k_steps
      refine hret _ [] _ _ (by k_asm) (cb_drop (by k_asm) (by k_sub)) (fun _ _ _ h => nomatch h) (intOut ?_)
      unfold chosenD
      rw [hb]
    | some q =>
      rw [hb] at ho
      have ho' : OptAt _ _ (some q) := ho
      obtain ⟨a', t1', t2', t3', t4', t5', n', rfl, hm'⟩ := ho
      k_steps
      refine hret _ [] _ _ (by k_asm) (cb_drop (by k_asm) (by k_sub)) (fun _ _ _ h => nomatch h) (intOut ?_)
      unfold chosenD
      rw [hb]
      rfl
theorem kw4 : True := by
  k_with "call ref" => (k_here; (with_reducible show wpAny _ _ (call (Value.ref 57) [_, _]) _ _ _); k_dflt (refine' spec_use (chosen_designated_spec _ _ _ _ _) ?kwk1 ?kwk2 ?kwk3 ?kwk4 ?kwk5 ?kwkK ?kwkR ?kwkd ?kwku ?_; (case kwk1 => k_asm); (case kwk2 => k_asm); (case kwk3 => k_asm); (case kwk4 => k_asm); (case kwk5 => k_asm); (case kwkK => first | exact rfl | assumption); (case kwkR => (refine And.intro ?_ ?_; (first | exact RowsAt.mono (by assumption) (by k_sub) | exact ⟨_, _, _, rfl, by k_mem, RowAll.mono (by assumption) (by k_sub)⟩); (first | assumption | omega | (simp only [List.length_append, List.length_cons, List.length_nil, List.length_take, List.length_drop, List.length_set]; omega)))); (case kwkd => ktr_room); (case kwku => ktr_units)); intro r9 tl9 h9 tk9 F9 N9 hl9 ho9; (obtain ⟨e9, t8, e8⟩ := ho9; subst e9; subst e8; clear hl9); (try simp only [List.nil_append, List.cons_append] at N9); (try dsimp only); (try k_sweep); (try k_fold))
  trivial
set_option maxRecDepth 100000 in
set_option maxHeartbeats 8000000 in
theorem one_round_spec (w : World) (v : Value) (rs : List Row) : Spec w 64 8 [v] (fun news => RowsAt news v rs ∧ rs.length ≤ 64) (PairOut (oneRound rs)) := by
  unfold Spec
  k_fill
  intro p' loose mean mg mb dp un gd cn cs a ccd cl outer A₀ base h₀ L m news s Q E B F X N T hk hR hd hu hret
  obtain ⟨hR, hlen⟩ := hR
  have hlen2 : (canBe rs).length ≤ 64 := Nat.le_trans (List.length_filter_le _ _) hlen
  refine wpAny_call ?_
  k_dflt ktr_enter
  k_steps
  exact hret _ [(_, pairObj (_, _) _ _ _)] _ _ (by k_asm) (cb_drop (by k_asm) sub_skip1) (fresh_all (by rename _ ∧ AllLt _ _ => hf; exact hf.2)) (pairOut rfl rfl)
theorem kw5 : True := by
  k_with "call ref" => (k_here; (with_reducible show wpAny _ _ (call (Value.ref 64) [_]) _ _ _); k_dflt (refine' spec_use (one_round_spec _ _ _) ?kwk1 ?kwk2 ?kwk3 ?kwk4 ?kwk5 ?kwkK ?kwkR ?kwkd ?kwku ?_; (case kwk1 => k_asm); (case kwk2 => k_asm); (case kwk3 => k_asm); (case kwk4 => k_asm); (case kwk5 => k_asm); (case kwkK => first | exact rfl | assumption); (case kwkR => (refine And.intro ?_ ?_; (first | exact RowsAt.mono (by assumption) (by k_sub) | exact ⟨_, _, _, rfl, by k_mem, RowAll.mono (by assumption) (by k_sub)⟩); (first | assumption | omega | (simp only [List.length_append, List.length_cons, List.length_nil, List.length_take, List.length_drop, List.length_set]; omega)))); (case kwkd => ktr_room); (case kwku => ktr_units)); intro r9 tl9 h9 tk9 F9 N9 hl9 ho9; (obtain ⟨D9, t8, t7, n9, e9, e8⟩ := ho9; subst e9; subst e8; have hk9 := fresh_one hl9; clear hl9; (try (have hn9 := hk9; simp only [List.mem_cons, forall_eq_or_imp] at hn9))); (try simp only [List.nil_append, List.cons_append] at N9); (try dsimp only); (try k_sweep); (try k_fold))
  trivial
set_option maxRecDepth 100000 in
set_option maxHeartbeats 8000000 in
theorem with_said_spec (w : World) (v u : Value) (r : Row) (p : Int × Int) : Spec w 71 2 [v, u] (fun news => RowAt news v r ∧ PairAt news u p) (RowOut (withSaid r p)) := by
  unfold Spec
  k_fill
  intro p' loose mean mg mb dp un gd cn cs a ccd cl outer A₀ base h₀ L m news s Q E B F X N T hk hR hd hu hret
  obtain ⟨⟨a, t1, t2, t3, t4, t5, n, rfl, hm⟩, ⟨a', t1', t2', n', rfl, hm'⟩⟩ := hR
  refine wpAny_call ?_
  k_dflt ktr_enter
  k_steps
  exact hret _ [_] _ _ (by k_asm) (by k_asm) (fresh_lt (by assumption)) ⟨_, _, _, _, _, _, _, rfl, rfl⟩
theorem kw6 : True := by
  k_with "call ref" => (k_here; (with_reducible show wpAny _ _ (call (Value.ref 71) [_, _]) _ _ _); k_dflt (refine' spec_use (with_said_spec _ _ _ _ _) ?kwk1 ?kwk2 ?kwk3 ?kwk4 ?kwk5 ?kwkK ?kwkR ?kwkd ?kwku ?_; (case kwk1 => k_asm); (case kwk2 => k_asm); (case kwk3 => k_asm); (case kwk4 => k_asm); (case kwk5 => k_asm); (case kwkK => first | exact rfl | assumption); (case kwkR => (refine And.intro ?_ ?_; (first | exact RowAt.mono (by assumption) (by k_sub) | exact ⟨_, _, _, _, _, _, _, rfl, by k_mem⟩); (first | exact PairAt.mono (by assumption) (by k_sub) | exact ⟨_, _, _, _, rfl, by k_mem⟩))); (case kwkd => ktr_room); (case kwku => ktr_units)); intro r9 tl9 h9 tk9 F9 N9 hl9 ho9; (obtain ⟨D9, t8, t7, t6, t5, t4, n9, e9, e8⟩ := ho9; subst e9; subst e8; have hk9 := fresh_one hl9; clear hl9; (try (have hn9 := hk9; simp only [List.mem_cons, forall_eq_or_imp] at hn9))); (try simp only [List.nil_append, List.cons_append] at N9); (try dsimp only); (try k_sweep); (try k_fold))
  trivial
set_option maxRecDepth 100000 in
set_option maxHeartbeats 8000000 in
theorem is_turned_spec (w : World) (v u : Value) (r : Row) (p : Int × Int) : Spec w 78 5 [v, u] (fun news => RowAt news v r ∧ PairAt news u p) (BoolOut (isTurned r p)) := by
  unfold Spec
  k_fill
  intro p' loose mean mg mb dp un gd cn cs a ccd cl outer A₀ base h₀ L m news s Q E B F X N T hk hR hd hu hret
  obtain ⟨hr, ⟨a', t1', t2', n', rfl, hm'⟩⟩ := hR
  have hr' := hr
  obtain ⟨a, t1, t2, t3, t4, t5, n, rfl, hm⟩ := hr
  refine wpAny_call ?_
  k_dflt ktr_enter
  k_steps
  · have hc : ((p.1 == r.ad) != saysD r) = true := by assumption
    refine hret _ [] _ _ (by k_asm) (by k_asm) (fun _ _ _ h => nomatch h) (boolOut ?_)
    unfold isTurned
    rw [hc]
    rfl
  · have hc : ((p.1 == r.ad) != saysD r) = false := by assumption
    refine hret _ [] _ _ (by k_asm) (by k_asm) (fun _ _ _ h => nomatch h) (boolOut ?_)
    unfold isTurned
    rw [hc]
    rfl
theorem kw7 : True := by
  k_with "call ref" => (k_here; (with_reducible show wpAny _ _ (call (Value.ref 78) [_, _]) _ _ _); k_dflt (refine' spec_use (is_turned_spec _ _ _ _ _) ?kwk1 ?kwk2 ?kwk3 ?kwk4 ?kwk5 ?kwkK ?kwkR ?kwkd ?kwku ?_; (case kwk1 => k_asm); (case kwk2 => k_asm); (case kwk3 => k_asm); (case kwk4 => k_asm); (case kwk5 => k_asm); (case kwkK => first | exact rfl | assumption); (case kwkR => (refine And.intro ?_ ?_; (first | exact RowAt.mono (by assumption) (by k_sub) | exact ⟨_, _, _, _, _, _, _, rfl, by k_mem⟩); (first | exact PairAt.mono (by assumption) (by k_sub) | exact ⟨_, _, _, _, rfl, by k_mem⟩))); (case kwkd => ktr_room); (case kwku => ktr_units)); intro r9 tl9 h9 tk9 F9 N9 hl9 ho9; (obtain ⟨e9, e8⟩ := ho9; subst e9; subst e8; clear hl9); (try simp only [List.nil_append, List.cons_append] at N9); (try dsimp only); (try k_sweep); (try k_fold))
  trivial
-- F5
theorem kw8 : True := by
  k_with_none
  k_with "eval ListComp" => (k_here; lct_look; lcg_calm; k_dflt (refine LCt.ListComp_T (F₀ := by k_asm) (by with_unfolding_all rfl) (by decide) (by rfl) (by decide) (by rfl) ?_))
  k_with "exec Assign cons ListComp" => (k_here; lct_look; lcg_calm; k_dflt (refine LCt.Assign_ListComp_T (F₀ := by k_asm) (by rfl) (by with_unfolding_all rfl) (by with_unfolding_all rfl) (by decide) (by rfl) (by decide) (by rfl) (by rfl) (by rfl) ?_))
  k_with "subscriptTail" => (k_here; (with_reducible show wpAny _ _ (subscriptTail _ _ (Value.ref _) (Value.int _ _)) _ _ _); k_dflt (refine' item_tupleT ?kwt ?kwa ?kwb ?kwc ?kwd ?_; (case kwt => exact News.isTup (by k_asm) (by k_mem)); (case kwa => decide); (case kwb => decide); (case kwc => rfl); (case kwd => rfl); k_whole))
  k_with "kw mem" => (first | with_reducible assumption | (refine List.mem_append_right _ ?_; first | with_reducible assumption | (refine List.mem_cons_of_mem _ ?_; first | with_reducible assumption | (refine List.mem_cons_of_mem _ ?_; first | with_reducible assumption | (refine List.mem_cons_of_mem _ ?_; with_reducible assumption)))) | (refine List.mem_cons_of_mem _ ?_; first | with_reducible assumption | (refine List.mem_append_right _ ?_; first | with_reducible assumption | (refine List.mem_cons_of_mem _ ?_; first | with_reducible assumption | (refine List.mem_cons_of_mem _ ?_; first | with_reducible assumption | (refine List.mem_cons_of_mem _ ?_; with_reducible assumption)))) | (refine List.mem_cons_of_mem _ ?_; first | with_reducible assumption | (refine List.mem_append_right _ ?_; first | with_reducible assumption | (refine List.mem_cons_of_mem _ ?_; first | with_reducible assumption | (refine List.mem_cons_of_mem _ ?_; first | with_reducible assumption | (refine List.mem_cons_of_mem _ ?_; with_reducible assumption)))) | (refine List.mem_cons_of_mem _ ?_; first | with_reducible assumption | (refine List.mem_append_right _ ?_; first | with_reducible assumption | (refine List.mem_cons_of_mem _ ?_; first | with_reducible assumption | (refine List.mem_cons_of_mem _ ?_; first | with_reducible assumption | (refine List.mem_cons_of_mem _ ?_; with_reducible assumption)))) | (refine List.mem_cons_of_mem _ ?_; first | with_reducible assumption | (refine List.mem_append_right _ ?_; first | with_reducible assumption | (refine List.mem_cons_of_mem _ ?_; first | with_reducible assumption | (refine List.mem_cons_of_mem _ ?_; first | with_reducible assumption | (refine List.mem_cons_of_mem _ ?_; with_reducible assumption)))) | (refine List.mem_cons_of_mem _ ?_; first | with_reducible assumption | (refine List.mem_append_right _ ?_; first | with_reducible assumption | (refine List.mem_cons_of_mem _ ?_; first | with_reducible assumption | (refine List.mem_cons_of_mem _ ?_; first | with_reducible assumption | (refine List.mem_cons_of_mem _ ?_; with_reducible assumption)))) | (refine List.mem_cons_of_mem _ ?_; first | with_reducible assumption | (refine List.mem_append_right _ ?_; first | with_reducible assumption | (refine List.mem_cons_of_mem _ ?_; first | with_reducible assumption | (refine List.mem_cons_of_mem _ ?_; first | with_reducible assumption | (refine List.mem_cons_of_mem _ ?_; with_reducible assumption)))) | (refine List.mem_cons_of_mem _ ?_; first | with_reducible assumption | (refine List.mem_append_right _ ?_; first | with_reducible assumption | (refine List.mem_cons_of_mem _ ?_; first | with_reducible assumption | (refine List.mem_cons_of_mem _ ?_; first | with_reducible assumption | (refine List.mem_cons_of_mem _ ?_; with_reducible assumption)))) | (refine List.mem_cons_of_mem _ ?_; first | with_reducible assumption | (refine List.mem_append_right _ ?_; first | with_reducible assumption | (refine List.mem_cons_of_mem _ ?_; first | with_reducible assumption | (refine List.mem_cons_of_mem _ ?_; first | with_reducible assumption | (refine List.mem_cons_of_mem _ ?_; with_reducible assumption)))) | (refine List.mem_cons_of_mem _ ?_; first | with_reducible assumption | (refine List.mem_append_right _ ?_; first | with_reducible assumption | (refine List.mem_cons_of_mem _ ?_; first | with_reducible assumption | (refine List.mem_cons_of_mem _ ?_; first | with_reducible assumption | (refine List.mem_cons_of_mem _ ?_; with_reducible assumption)))) | (refine List.mem_cons_of_mem _ ?_; first | with_reducible assumption | (refine List.mem_append_right _ ?_; first | with_reducible assumption | (refine List.mem_cons_of_mem _ ?_; first | with_reducible assumption | (refine List.mem_cons_of_mem _ ?_; first | with_reducible assumption | (refine List.mem_cons_of_mem _ ?_; with_reducible assumption)))) | (refine List.mem_cons_of_mem _ ?_; first | with_reducible assumption | (refine List.mem_append_right _ ?_; first | with_reducible assumption | (refine List.mem_cons_of_mem _ ?_; first | with_reducible assumption | (refine List.mem_cons_of_mem _ ?_; first | with_reducible assumption | (refine List.mem_cons_of_mem _ ?_; with_reducible assumption)))) | (refine List.mem_cons_of_mem _ ?_; first | with_reducible assumption | (refine List.mem_append_right _ ?_; first | with_reducible assumption | (refine List.mem_cons_of_mem _ ?_; first | with_reducible assumption | (refine List.mem_cons_of_mem _ ?_; first | with_reducible assumption | (refine List.mem_cons_of_mem _ ?_; with_reducible assumption)))) | (refine List.mem_cons_of_mem _ ?_; first | with_reducible assumption | (refine List.mem_append_right _ ?_; first | with_reducible assumption | (refine List.mem_cons_of_mem _ ?_; first | with_reducible assumption | (refine List.mem_cons_of_mem _ ?_; first | with_reducible assumption | (refine List.mem_cons_of_mem _ ?_; with_reducible assumption)))) | (refine List.mem_cons_of_mem _ ?_; first | with_reducible assumption | (refine List.mem_append_right _ ?_; first | with_reducible assumption | (refine List.mem_cons_of_mem _ ?_; first | with_reducible assumption | (refine List.mem_cons_of_mem _ ?_; first | with_reducible assumption | (refine List.mem_cons_of_mem _ ?_; with_reducible assumption)))))))))))))))))))
  k_with "compareOp Gt ref ref" => (k_here; (with_reducible show wpAny _ _ (compareOp CmpOp.Gt (Value.ref _) (Value.ref _)) _ _ _); k_dflt (refine' gt_pair (x1 := _) ?kwu ?kwa ?kwb ?_; (case kwu => first | k_units | ktr_units); (case kwa => exact News.get (by k_asm) (by k_mem)); (case kwb => exact News.get (by k_asm) (by k_mem)); k_whole))
  k_with "call builtin:len" => (k_here; (with_reducible show wpAny _ _ (call (Value.builtin _) [Value.ref _]) _ _ _); k_dflt (refine' len_rows (vs := _) ?kwl ?kwr ?kwz ?_; (case kwl => exact News.isList (by k_asm) (by k_mem)); (case kwr => assumption); (case kwz => first | assumption | omega); k_whole))
  k_with "call type:list" => (k_here; (with_reducible show wpAny _ _ (call (Value.type _) [Value.ref _]) _ _ _); k_dflt (refine' rows_copy ?kwF ?kwN ?kwm ?kwr ?kwz ?_; (case kwF => k_asm); (case kwN => k_asm); (case kwm => k_mem); (case kwr => (first | exact RowAll.mono (by assumption) (by k_sub) | exact RowAll.cons (by (first | exact RowAt.mono (by assumption) (by k_sub) | exact ⟨_, _, _, _, _, _, _, rfl, by k_mem⟩)) RowAll.nil)); (case kwz => (first | assumption | omega | (simp only [List.length_append, List.length_cons, List.length_nil, List.length_take, List.length_drop, List.length_set]; omega))); k_whole); intro D' c' h' F' N' l1 hA'; (try k_lt l1); (try k_sweep))
  k_with "binaryOp Add ref ref" => (k_here; (with_reducible show wpAny _ _ (binaryOp _ (Value.ref _) (Value.ref _)) _ _ _); k_dflt (refine' rows_add ?kwF ?kwN ?kwa ?kwb ?kwr ?kwq ?kwz ?kwy ?_; (case kwF => k_asm); (case kwN => k_asm); (case kwa => k_mem); (case kwb => k_mem); (case kwr => (first | exact RowAll.mono (by assumption) (by k_sub) | exact RowAll.cons (by (first | exact RowAt.mono (by assumption) (by k_sub) | exact ⟨_, _, _, _, _, _, _, rfl, by k_mem⟩)) RowAll.nil)); (case kwq => (first | exact RowAll.mono (by assumption) (by k_sub) | exact RowAll.cons (by (first | exact RowAt.mono (by assumption) (by k_sub) | exact ⟨_, _, _, _, _, _, _, rfl, by k_mem⟩)) RowAll.nil)); (case kwz => (first | assumption | omega | (simp only [List.length_append, List.length_cons, List.length_nil, List.length_take, List.length_drop, List.length_set]; omega))); (case kwy => (first | assumption | omega | (simp only [List.length_append, List.length_cons, List.length_nil, List.length_take, List.length_drop, List.length_set]; omega))); k_whole); intro D' h' F' N' l1 hA'; (try k_lt l1); (try k_sweep))
  k_with "subscriptTail Name Slice ref ref" => (k_here; (with_reducible show wpAny _ _ (subscriptTail _ (PySem.Expr.Slice _ _ none _) (Value.ref _) (Value.ref _)) _ _ _); k_dflt (refine' rows_upto ?kwF ?kwN ?kwm ?kwp ?kwq ?kwr ?kwz ?kwy ?_ ?kws ?kwt; (case kwF => k_asm); (case kwN => k_asm); (case kwm => k_mem); (case kwp => exact IsPart.none); (case kwq => exact IsPart.int _ _); (case kwr => (first | exact RowAll.mono (by assumption) (by k_sub) | exact RowAll.cons (by (first | exact RowAt.mono (by assumption) (by k_sub) | exact ⟨_, _, _, _, _, _, _, rfl, by k_mem⟩)) RowAll.nil)); (case kwz => (first | assumption | omega | (simp only [List.length_append, List.length_cons, List.length_nil, List.length_take, List.length_drop, List.length_set]; omega))); (case kwy => (first | assumption | omega | (simp only [List.length_append, List.length_cons, List.length_nil, List.length_take, List.length_drop, List.length_set]; omega))); (case kws => with_unfolding_all rfl); (case kwt => kmk_pure)); intro D' h' F' N' l1 hA'; (try k_lt l1); (try k_sweep))
  k_with "subscriptTail Name Slice ref ref" => (k_here; (with_reducible show wpAny _ _ (subscriptTail _ (PySem.Expr.Slice _ _ none _) (Value.ref _) (Value.ref _)) _ _ _); k_dflt (refine' rows_from ?kwF ?kwN ?kwm ?kwp ?kwq ?kwr ?kwz ?kwy ?_ ?kws ?kwt; (case kwF => k_asm); (case kwN => k_asm); (case kwm => k_mem); (case kwp => exact IsPart.int _ _); (case kwq => exact IsPart.none); (case kwr => (first | exact RowAll.mono (by assumption) (by k_sub) | exact RowAll.cons (by (first | exact RowAt.mono (by assumption) (by k_sub) | exact ⟨_, _, _, _, _, _, _, rfl, by k_mem⟩)) RowAll.nil)); (case kwz => (first | assumption | omega | (simp only [List.length_append, List.length_cons, List.length_nil, List.length_take, List.length_drop, List.length_set]; omega))); (case kwy => (first | assumption | omega | (simp only [List.length_append, List.length_cons, List.length_nil, List.length_take, List.length_drop, List.length_set]; omega))); (case kws => with_unfolding_all rfl); (case kwt => kmk_pure)); intro D' h' F' N' l1 hA'; (try k_lt l1); (try k_sweep))
  k_with "subscriptTail" => (k_here; (with_reducible show wpAny _ _ (subscriptTail _ _ (Value.ref _) (Value.int _ _)) _ _ _); k_dflt (refine' rows_item ?kwN ?kwm ?kwr ?kwx ?kwy ?kwz ?_ ?kws ?kwt; (case kwN => k_asm); (case kwm => k_mem); (case kwr => (first | exact RowAll.mono (by assumption) (by k_sub) | exact RowAll.cons (by (first | exact RowAt.mono (by assumption) (by k_sub) | exact ⟨_, _, _, _, _, _, _, rfl, by k_mem⟩)) RowAll.nil)); (case kwx => (first | assumption | omega | (simp only [List.length_append, List.length_cons, List.length_nil, List.length_take, List.length_drop, List.length_set]; omega))); (case kwy => (first | assumption | omega | (simp only [List.length_append, List.length_cons, List.length_nil, List.length_take, List.length_drop, List.length_set]; omega))); (case kwz => (first | assumption | omega | (simp only [List.length_append, List.length_cons, List.length_nil, List.length_take, List.length_drop, List.length_set]; omega))); (case kws => with_unfolding_all rfl); (case kwt => kmk_pure); k_whole); intro v' r' hv' hr' hA'; (have hA2' := hA'; obtain ⟨a9', t1', t2', t3', t4', t5', n9', e9', hm9'⟩ := hA2'; subst e9'))
  k_with "setItem ref int" => (k_here; (with_reducible show wpAny _ _ (setItem (Value.ref _) (Value.int _ _) _) _ _ _); k_dflt (refine' rows_set ?kwF ?kwN ?kwu ?kwr ?kwx ?kwy ?kwz ?_; (case kwF => k_asm); (case kwN => k_asm); (case kwu => k_upd); (case kwr => (first | exact RowAll.mono (by assumption) (by k_sub) | exact RowAll.cons (by (first | exact RowAt.mono (by assumption) (by k_sub) | exact ⟨_, _, _, _, _, _, _, rfl, by k_mem⟩)) RowAll.nil)); (case kwx => (first | assumption | omega | (simp only [List.length_append, List.length_cons, List.length_nil, List.length_take, List.length_drop, List.length_set]; omega))); (case kwy => (first | assumption | omega | (simp only [List.length_append, List.length_cons, List.length_nil, List.length_take, List.length_drop, List.length_set]; omega))); (case kwz => (first | assumption | omega | (simp only [List.length_append, List.length_cons, List.length_nil, List.length_take, List.length_drop, List.length_set]; omega))); k_whole); intro h' F' N'; (try k_sweep))
  k_with "call ref" => (k_here; (with_reducible show wpAny _ _ (call (Value.ref 21) [_]) _ _ _); k_dflt (refine' spec_use (says_designated_spec _ _ _) ?kwk1 ?kwk2 ?kwk3 ?kwk4 ?kwk5 ?kwkK ?kwkR ?kwkd ?kwku ?_; (case kwk1 => k_asm); (case kwk2 => k_asm); (case kwk3 => k_asm); (case kwk4 => k_asm); (case kwk5 => k_asm); (case kwkK => first | exact rfl | assumption); (case kwkR => exact RowAt.mono (by assumption) (by k_sub)); (case kwkd => ktr_room); (case kwku => ktr_units)); intro r9 tl9 h9 tk9 F9 N9 hl9 ho9; (obtain ⟨e9, e8⟩ := ho9; subst e9; subst e8; clear hl9); (try simp only [List.nil_append, List.cons_append] at N9); (try dsimp only); (try k_sweep); (try k_fold))
  k_with "call ref" => (k_here; (with_reducible show wpAny _ _ (call (Value.ref 28) [_]) _ _ _); k_dflt (refine' spec_use (says_backup_spec _ _ _) ?kwk1 ?kwk2 ?kwk3 ?kwk4 ?kwk5 ?kwkK ?kwkR ?kwkd ?kwku ?_; (case kwk1 => k_asm); (case kwk2 => k_asm); (case kwk3 => k_asm); (case kwk4 => k_asm); (case kwk5 => k_asm); (case kwkK => first | exact rfl | assumption); (case kwkR => exact RowAt.mono (by assumption) (by k_sub)); (case kwkd => ktr_room); (case kwku => ktr_units)); intro r9 tl9 h9 tk9 F9 N9 hl9 ho9; (obtain ⟨e9, e8⟩ := ho9; subst e9; subst e8; clear hl9); (try simp only [List.nil_append, List.cons_append] at N9); (try dsimp only); (try k_sweep); (try k_fold))
  k_with "call ref" => (k_here; (with_reducible show wpAny _ _ (call (Value.ref 33) [_]) _ _ _); k_dflt (refine' spec_use (can_be_chosen_spec _ _ _) ?kwk1 ?kwk2 ?kwk3 ?kwk4 ?kwk5 ?kwkK ?kwkR ?kwkd ?kwku ?_; (case kwk1 => k_asm); (case kwk2 => k_asm); (case kwk3 => k_asm); (case kwk4 => k_asm); (case kwk5 => k_asm); (case kwkK => first | exact rfl | assumption); (case kwkR => (refine And.intro ?_ ?_; (first | exact RowsAt.mono (by assumption) (by k_sub) | exact ⟨_, _, _, rfl, by k_mem, RowAll.mono (by assumption) (by k_sub)⟩); (first | assumption | omega | (simp only [List.length_append, List.length_cons, List.length_nil, List.length_take, List.length_drop, List.length_set]; omega)))); (case kwkd => ktr_room); (case kwku => ktr_units)); intro r9 tl9 h9 tk9 F9 N9 hl9 ho9; (obtain ⟨D9, vs9, n9, e9, e8, hr9⟩ := ho9; subst e9; subst e8; have hk9 := fresh_one hl9; clear hl9; (try (have hn9 := hk9; simp only [List.mem_cons, forall_eq_or_imp] at hn9))); (try simp only [List.nil_append, List.cons_append] at N9); (try dsimp only); (try k_sweep); (try k_fold))
  k_with "call ref" => (k_here; (with_reducible show wpAny _ _ (call (Value.ref 47) [_]) _ _ _); k_dflt (refine' spec_use (address_of_spec _ _ _) ?kwk1 ?kwk2 ?kwk3 ?kwk4 ?kwk5 ?kwkK ?kwkR ?kwkd ?kwku ?_; (case kwk1 => k_asm); (case kwk2 => k_asm); (case kwk3 => k_asm); (case kwk4 => k_asm); (case kwk5 => k_asm); (case kwkK => first | exact rfl | assumption); (case kwkR => exact OptAt.mono (by assumption) (by k_sub)); (case kwkd => ktr_room); (case kwku => ktr_units)); intro r9 tl9 h9 tk9 F9 N9 hl9 ho9; (obtain ⟨e9, t8, e8⟩ := ho9; subst e9; subst e8; clear hl9); (try simp only [List.nil_append, List.cons_append] at N9); (try dsimp only); (try k_sweep); (try k_fold))
  k_with "call ref" => (k_here; (with_reducible show wpAny _ _ (call (Value.ref 40) [_]) _ _ _); k_dflt (refine' spec_use (best_row_spec _ _ _) ?kwk1 ?kwk2 ?kwk3 ?kwk4 ?kwk5 ?kwkK ?kwkR ?kwkd ?kwku ?_; (case kwk1 => k_asm); (case kwk2 => k_asm); (case kwk3 => k_asm); (case kwk4 => k_asm); (case kwk5 => k_asm); (case kwkK => first | exact rfl | assumption); (case kwkR => (refine And.intro ?_ ?_; (first | exact RowsAt.mono (by assumption) (by k_sub) | exact ⟨_, _, _, rfl, by k_mem, RowAll.mono (by assumption) (by k_sub)⟩); (first | assumption | omega | (simp only [List.length_append, List.length_cons, List.length_nil, List.length_take, List.length_drop, List.length_set]; omega)))); (case kwkd => ktr_room); (case kwku => ktr_units)); intro r9 tl9 h9 tk9 F9 N9 hl9 ho9; (obtain ⟨e9, o8⟩ := ho9; subst e9; clear hl9); (try simp only [List.nil_append, List.cons_append] at N9); (try dsimp only); (try k_sweep); (try k_fold))
  k_with "call ref" => (k_here; (with_reducible show wpAny _ _ (call (Value.ref 52) [_]) _ _ _); k_dflt (refine' spec_use (chosen_backup_spec _ _ _) ?kwk1 ?kwk2 ?kwk3 ?kwk4 ?kwk5 ?kwkK ?kwkR ?kwkd ?kwku ?_; (case kwk1 => k_asm); (case kwk2 => k_asm); (case kwk3 => k_asm); (case kwk4 => k_asm); (case kwk5 => k_asm); (case kwkK => first | exact rfl | assumption); (case kwkR => (refine And.intro ?_ ?_; (first | exact RowsAt.mono (by assumption) (by k_sub) | exact ⟨_, _, _, rfl, by k_mem, RowAll.mono (by assumption) (by k_sub)⟩); (first | assumption | omega | (simp only [List.length_append, List.length_cons, List.length_nil, List.length_take, List.length_drop, List.length_set]; omega)))); (case kwkd => ktr_room); (case kwku => ktr_units)); intro r9 tl9 h9 tk9 F9 N9 hl9 ho9; (obtain ⟨e9, t8, e8⟩ := ho9; subst e9; subst e8; clear hl9); (try simp only [List.nil_append, List.cons_append] at N9); (try dsimp only); (try k_sweep); (try k_fold))
  k_with "call ref" => (k_here; (with_reducible show wpAny _ _ (call (Value.ref 57) [_, _]) _ _ _); k_dflt (refine' spec_use (chosen_designated_spec _ _ _ _ _) ?kwk1 ?kwk2 ?kwk3 ?kwk4 ?kwk5 ?kwkK ?kwkR ?kwkd ?kwku ?_; (case kwk1 => k_asm); (case kwk2 => k_asm); (case kwk3 => k_asm); (case kwk4 => k_asm); (case kwk5 => k_asm); (case kwkK => first | exact rfl | assumption); (case kwkR => (refine And.intro ?_ ?_; (first | exact RowsAt.mono (by assumption) (by k_sub) | exact ⟨_, _, _, rfl, by k_mem, RowAll.mono (by assumption) (by k_sub)⟩); (first | assumption | omega | (simp only [List.length_append, List.length_cons, List.length_nil, List.length_take, List.length_drop, List.length_set]; omega)))); (case kwkd => ktr_room); (case kwku => ktr_units)); intro r9 tl9 h9 tk9 F9 N9 hl9 ho9; (obtain ⟨e9, t8, e8⟩ := ho9; subst e9; subst e8; clear hl9); (try simp only [List.nil_append, List.cons_append] at N9); (try dsimp only); (try k_sweep); (try k_fold))
  k_with "call ref" => (k_here; (with_reducible show wpAny _ _ (call (Value.ref 64) [_]) _ _ _); k_dflt (refine' spec_use (one_round_spec _ _ _) ?kwk1 ?kwk2 ?kwk3 ?kwk4 ?kwk5 ?kwkK ?kwkR ?kwkd ?kwku ?_; (case kwk1 => k_asm); (case kwk2 => k_asm); (case kwk3 => k_asm); (case kwk4 => k_asm); (case kwk5 => k_asm); (case kwkK => first | exact rfl | assumption); (case kwkR => (refine And.intro ?_ ?_; (first | exact RowsAt.mono (by assumption) (by k_sub) | exact ⟨_, _, _, rfl, by k_mem, RowAll.mono (by assumption) (by k_sub)⟩); (first | assumption | omega | (simp only [List.length_append, List.length_cons, List.length_nil, List.length_take, List.length_drop, List.length_set]; omega)))); (case kwkd => ktr_room); (case kwku => ktr_units)); intro r9 tl9 h9 tk9 F9 N9 hl9 ho9; (obtain ⟨D9, t8, t7, n9, e9, e8⟩ := ho9; subst e9; subst e8; have hk9 := fresh_one hl9; clear hl9; (try (have hn9 := hk9; simp only [List.mem_cons, forall_eq_or_imp] at hn9))); (try simp only [List.nil_append, List.cons_append] at N9); (try dsimp only); (try k_sweep); (try k_fold))
  k_with "call ref" => (k_here; (with_reducible show wpAny _ _ (call (Value.ref 71) [_, _]) _ _ _); k_dflt (refine' spec_use (with_said_spec _ _ _ _ _) ?kwk1 ?kwk2 ?kwk3 ?kwk4 ?kwk5 ?kwkK ?kwkR ?kwkd ?kwku ?_; (case kwk1 => k_asm); (case kwk2 => k_asm); (case kwk3 => k_asm); (case kwk4 => k_asm); (case kwk5 => k_asm); (case kwkK => first | exact rfl | assumption); (case kwkR => (refine And.intro ?_ ?_; (first | exact RowAt.mono (by assumption) (by k_sub) | exact ⟨_, _, _, _, _, _, _, rfl, by k_mem⟩); (first | exact PairAt.mono (by assumption) (by k_sub) | exact ⟨_, _, _, _, rfl, by k_mem⟩))); (case kwkd => ktr_room); (case kwku => ktr_units)); intro r9 tl9 h9 tk9 F9 N9 hl9 ho9; (obtain ⟨D9, t8, t7, t6, t5, t4, n9, e9, e8⟩ := ho9; subst e9; subst e8; have hk9 := fresh_one hl9; clear hl9; (try (have hn9 := hk9; simp only [List.mem_cons, forall_eq_or_imp] at hn9))); (try simp only [List.nil_append, List.cons_append] at N9); (try dsimp only); (try k_sweep); (try k_fold))
  k_with "call ref" => (k_here; (with_reducible show wpAny _ _ (call (Value.ref 78) [_, _]) _ _ _); k_dflt (refine' spec_use (is_turned_spec _ _ _ _ _) ?kwk1 ?kwk2 ?kwk3 ?kwk4 ?kwk5 ?kwkK ?kwkR ?kwkd ?kwku ?_; (case kwk1 => k_asm); (case kwk2 => k_asm); (case kwk3 => k_asm); (case kwk4 => k_asm); (case kwk5 => k_asm); (case kwkK => first | exact rfl | assumption); (case kwkR => (refine And.intro ?_ ?_; (first | exact RowAt.mono (by assumption) (by k_sub) | exact ⟨_, _, _, _, _, _, _, rfl, by k_mem⟩); (first | exact PairAt.mono (by assumption) (by k_sub) | exact ⟨_, _, _, _, rfl, by k_mem⟩))); (case kwkd => ktr_room); (case kwku => ktr_units)); intro r9 tl9 h9 tk9 F9 N9 hl9 ho9; (obtain ⟨e9, e8⟩ := ho9; subst e9; subst e8; clear hl9); (try simp only [List.nil_append, List.cons_append] at N9); (try dsimp only); (try k_sweep); (try k_fold))
  trivial
theorem pairOutE {news : LedT} {p q : Int × Int} {D : Addr} {t1 t2 : Tok} {n : Nat} (e : p = q) : PairOut q news [(D, pairObj p t1 t2 n)] (.ref D) := ⟨D, t1, t2, n, by rw [e], rfl⟩
set_option maxRecDepth 100000 in
set_option maxHeartbeats 8000000 in
theorem elect_spec (w : World) (v u : Value) (rs : List Row) (r : Row) : Spec w 85 12 [v, u] (fun news => RowsAt news v rs ∧ rs.length ≤ 60 ∧ RowAt news u r) (PairOut (elect rs r)) := by
  unfold Spec
  k_fill
  intro p' loose mean mg mb dp un gd cn cs a ccd cl outer A₀ base h₀ L m news s Q E B F X N T hk hR hd hu hret
  obtain ⟨⟨a, vs, n, rfl, hm, hR⟩, hlen, hr⟩ := hR
  refine wpAny_call ?_
  k_dflt ktr_enter
  k_steps
  · have hc : isTurned r (oneRound (rs ++ [r])) = true := by assumption
    refine hret _ [_] _ _ (by k_asm) (cb_drop (by k_asm) (sub_tail (by k_sub))) (fresh_of (by assumption) (by k_sub)) (pairOutE ?_)
    unfold elect
    rw [hc]
    rfl
  · have hc : isTurned r (oneRound (rs ++ [r])) = false := by assumption
    refine hret _ [_] _ _ (by k_asm) (cb_drop (by k_asm) (sub_tail (by k_sub))) (fresh_of (by assumption) (by k_sub)) (pairOutE ?_)
    unfold elect
    rw [hc]
    rfl
-- F6
local macro_rules | `(tactic| k_all) => `(tactic| k_extra "kw all")
theorem kw9 : True := by
  k_with_none
  k_with "eval ListComp" => (k_here; lct_look; lcg_calm; k_dflt (refine LCt.ListComp_T (F₀ := by k_asm) (by with_unfolding_all rfl) (by decide) (by rfl) (by decide) (by rfl) ?_))
  k_with "exec Assign cons ListComp" => (k_here; lct_look; lcg_calm; k_dflt (refine LCt.Assign_ListComp_T (F₀ := by k_asm) (by rfl) (by with_unfolding_all rfl) (by with_unfolding_all rfl) (by decide) (by rfl) (by decide) (by rfl) (by rfl) (by rfl) ?_))
  k_with "subscriptTail" => (k_here; (with_reducible show wpAny _ _ (subscriptTail _ _ (Value.ref _) (Value.int _ _)) _ _ _); k_dflt (refine' item_tupleT ?kwt ?kwa ?kwb ?kwc ?kwd ?_; (case kwt => exact News.isTup (by k_asm) (by k_mem)); (case kwa => decide); (case kwb => decide); (case kwc => rfl); (case kwd => rfl); k_whole))
  k_with "kw mem" => (first | with_reducible assumption | (refine List.mem_append_right _ ?_; first | with_reducible assumption | (refine List.mem_cons_of_mem _ ?_; first | with_reducible assumption | (refine List.mem_cons_of_mem _ ?_; first | with_reducible assumption | (refine List.mem_cons_of_mem _ ?_; with_reducible assumption)))) | (refine List.mem_cons_of_mem _ ?_; first | with_reducible assumption | (refine List.mem_append_right _ ?_; first | with_reducible assumption | (refine List.mem_cons_of_mem _ ?_; first | with_reducible assumption | (refine List.mem_cons_of_mem _ ?_; first | with_reducible assumption | (refine List.mem_cons_of_mem _ ?_; with_reducible assumption)))) | (refine List.mem_cons_of_mem _ ?_; first | with_reducible assumption | (refine List.mem_append_right _ ?_; first | with_reducible assumption | (refine List.mem_cons_of_mem _ ?_; first | with_reducible assumption | (refine List.mem_cons_of_mem _ ?_; first | with_reducible assumption | (refine List.mem_cons_of_mem _ ?_; with_reducible assumption)))) | (refine List.mem_cons_of_mem _ ?_; first | with_reducible assumption | (refine List.mem_append_right _ ?_; first | with_reducible assumption | (refine List.mem_cons_of_mem _ ?_; first | with_reducible assumption | (refine List.mem_cons_of_mem _ ?_; first | with_reducible assumption | (refine List.mem_cons_of_mem _ ?_; with_reducible assumption)))) | (refine List.mem_cons_of_mem _ ?_; first | with_reducible assumption | (refine List.mem_append_right _ ?_; first | with_reducible assumption | (refine List.mem_cons_of_mem _ ?_; first | with_reducible assumption | (refine List.mem_cons_of_mem _ ?_; first | with_reducible assumption | (refine List.mem_cons_of_mem _ ?_; with_reducible assumption)))) | (refine List.mem_cons_of_mem _ ?_; first | with_reducible assumption | (refine List.mem_append_right _ ?_; first | with_reducible assumption | (refine List.mem_cons_of_mem _ ?_; first | with_reducible assumption | (refine List.mem_cons_of_mem _ ?_; first | with_reducible assumption | (refine List.mem_cons_of_mem _ ?_; with_reducible assumption)))) | (refine List.mem_cons_of_mem _ ?_; first | with_reducible assumption | (refine List.mem_append_right _ ?_; first | with_reducible assumption | (refine List.mem_cons_of_mem _ ?_; first | with_reducible assumption | (refine List.mem_cons_of_mem _ ?_; first | with_reducible assumption | (refine List.mem_cons_of_mem _ ?_; with_reducible assumption)))) | (refine List.mem_cons_of_mem _ ?_; first | with_reducible assumption | (refine List.mem_append_right _ ?_; first | with_reducible assumption | (refine List.mem_cons_of_mem _ ?_; first | with_reducible assumption | (refine List.mem_cons_of_mem _ ?_; first | with_reducible assumption | (refine List.mem_cons_of_mem _ ?_; with_reducible assumption)))) | (refine List.mem_cons_of_mem _ ?_; first | with_reducible assumption | (refine List.mem_append_right _ ?_; first | with_reducible assumption | (refine List.mem_cons_of_mem _ ?_; first | with_reducible assumption | (refine List.mem_cons_of_mem _ ?_; first | with_reducible assumption | (refine List.mem_cons_of_mem _ ?_; with_reducible assumption)))) | (refine List.mem_cons_of_mem _ ?_; first | with_reducible assumption | (refine List.mem_append_right _ ?_; first | with_reducible assumption | (refine List.mem_cons_of_mem _ ?_; first | with_reducible assumption | (refine List.mem_cons_of_mem _ ?_; first | with_reducible assumption | (refine List.mem_cons_of_mem _ ?_; with_reducible assumption)))) | (refine List.mem_cons_of_mem _ ?_; first | with_reducible assumption | (refine List.mem_append_right _ ?_; first | with_reducible assumption | (refine List.mem_cons_of_mem _ ?_; first | with_reducible assumption | (refine List.mem_cons_of_mem _ ?_; first | with_reducible assumption | (refine List.mem_cons_of_mem _ ?_; with_reducible assumption)))) | (refine List.mem_cons_of_mem _ ?_; first | with_reducible assumption | (refine List.mem_append_right _ ?_; first | with_reducible assumption | (refine List.mem_cons_of_mem _ ?_; first | with_reducible assumption | (refine List.mem_cons_of_mem _ ?_; first | with_reducible assumption | (refine List.mem_cons_of_mem _ ?_; with_reducible assumption)))) | (refine List.mem_cons_of_mem _ ?_; first | with_reducible assumption | (refine List.mem_append_right _ ?_; first | with_reducible assumption | (refine List.mem_cons_of_mem _ ?_; first | with_reducible assumption | (refine List.mem_cons_of_mem _ ?_; first | with_reducible assumption | (refine List.mem_cons_of_mem _ ?_; with_reducible assumption)))) | (refine List.mem_cons_of_mem _ ?_; first | with_reducible assumption | (refine List.mem_append_right _ ?_; first | with_reducible assumption | (refine List.mem_cons_of_mem _ ?_; first | with_reducible assumption | (refine List.mem_cons_of_mem _ ?_; first | with_reducible assumption | (refine List.mem_cons_of_mem _ ?_; with_reducible assumption)))) | (refine List.mem_cons_of_mem _ ?_; first | with_reducible assumption | (refine List.mem_append_right _ ?_; first | with_reducible assumption | (refine List.mem_cons_of_mem _ ?_; first | with_reducible assumption | (refine List.mem_cons_of_mem _ ?_; first | with_reducible assumption | (refine List.mem_cons_of_mem _ ?_; with_reducible assumption)))))))))))))))))))
  k_with "compareOp Gt ref ref" => (k_here; (with_reducible show wpAny _ _ (compareOp CmpOp.Gt (Value.ref _) (Value.ref _)) _ _ _); k_dflt (refine' gt_pair (x1 := _) ?kwu ?kwa ?kwb ?_; (case kwu => first | k_units | ktr_units); (case kwa => exact News.get (by k_asm) (by k_mem)); (case kwb => exact News.get (by k_asm) (by k_mem)); k_whole))
  k_with "call builtin:len" => (k_here; (with_reducible show wpAny _ _ (call (Value.builtin _) [Value.ref _]) _ _ _); k_dflt (refine' len_rows (vs := _) ?kwl ?kwr ?kwz ?_; (case kwl => exact News.isList (by k_asm) (by k_mem)); (case kwr => assumption); (case kwz => first | assumption | omega); k_whole))
  k_with "pyIter ref" => (k_here; (with_reducible show wpAny _ _ (pyIter (Value.ref _)) (fun it s₂ => LoopAtV _ _ _ _ _ _ _ _ _ it s₂) _ _); refine Hold.intro ?_)
  k_with "kw all" => with_reducible assumption
  k_with "call type:list" => (k_here; (with_reducible show wpAny _ _ (call (Value.type _) [Value.ref _]) _ _ _); k_dflt (refine' rows_copy ?kwF ?kwN ?kwm ?kwr ?kwz ?_; (case kwF => k_asm); (case kwN => k_asm); (case kwm => k_mem); (case kwr => (first | exact RowAll.mono (by assumption) (by k_sub) | exact RowAll.cons (by (first | exact RowAt.mono (by assumption) (by k_sub) | exact ⟨_, _, _, _, _, _, _, rfl, by k_mem⟩)) RowAll.nil)); (case kwz => (first | assumption | omega | (simp only [List.length_append, List.length_cons, List.length_nil, List.length_take, List.length_drop, List.length_set]; omega))); k_whole); intro D' c' h' F' N' l1 hA'; (try k_lt l1); (try k_sweep))
  k_with "binaryOp Add ref ref" => (k_here; (with_reducible show wpAny _ _ (binaryOp _ (Value.ref _) (Value.ref _)) _ _ _); k_dflt (refine' rows_add ?kwF ?kwN ?kwa ?kwb ?kwr ?kwq ?kwz ?kwy ?_; (case kwF => k_asm); (case kwN => k_asm); (case kwa => k_mem); (case kwb => k_mem); (case kwr => (first | exact RowAll.mono (by assumption) (by k_sub) | exact RowAll.cons (by (first | exact RowAt.mono (by assumption) (by k_sub) | exact ⟨_, _, _, _, _, _, _, rfl, by k_mem⟩)) RowAll.nil)); (case kwq => (first | exact RowAll.mono (by assumption) (by k_sub) | exact RowAll.cons (by (first | exact RowAt.mono (by assumption) (by k_sub) | exact ⟨_, _, _, _, _, _, _, rfl, by k_mem⟩)) RowAll.nil)); (case kwz => (first | assumption | omega | (simp only [List.length_append, List.length_cons, List.length_nil, List.length_take, List.length_drop, List.length_set]; omega))); (case kwy => (first | assumption | omega | (simp only [List.length_append, List.length_cons, List.length_nil, List.length_take, List.length_drop, List.length_set]; omega))); k_whole); intro D' h' F' N' l1 hA'; (try k_lt l1); (try k_sweep))
  k_with "subscriptTail Name Slice ref ref" => (k_here; (with_reducible show wpAny _ _ (subscriptTail _ (PySem.Expr.Slice _ _ none _) (Value.ref _) (Value.ref _)) _ _ _); k_dflt (refine' rows_upto ?kwF ?kwN ?kwm ?kwp ?kwq ?kwr ?kwz ?kwy ?_ ?kws ?kwt; (case kwF => k_asm); (case kwN => k_asm); (case kwm => k_mem); (case kwp => exact IsPart.none); (case kwq => exact IsPart.int _ _); (case kwr => (first | exact RowAll.mono (by assumption) (by k_sub) | exact RowAll.cons (by (first | exact RowAt.mono (by assumption) (by k_sub) | exact ⟨_, _, _, _, _, _, _, rfl, by k_mem⟩)) RowAll.nil)); (case kwz => (first | assumption | omega | (simp only [List.length_append, List.length_cons, List.length_nil, List.length_take, List.length_drop, List.length_set]; omega))); (case kwy => (first | assumption | omega | (simp only [List.length_append, List.length_cons, List.length_nil, List.length_take, List.length_drop, List.length_set]; omega))); (case kws => with_unfolding_all rfl); (case kwt => kmk_pure)); intro D' h' F' N' l1 hA'; (try k_lt l1); (try k_sweep))
  k_with "subscriptTail Name Slice ref ref" => (k_here; (with_reducible show wpAny _ _ (subscriptTail _ (PySem.Expr.Slice _ _ none _) (Value.ref _) (Value.ref _)) _ _ _); k_dflt (refine' rows_from ?kwF ?kwN ?kwm ?kwp ?kwq ?kwr ?kwz ?kwy ?_ ?kws ?kwt; (case kwF => k_asm); (case kwN => k_asm); (case kwm => k_mem); (case kwp => exact IsPart.int _ _); (case kwq => exact IsPart.none); (case kwr => (first | exact RowAll.mono (by assumption) (by k_sub) | exact RowAll.cons (by (first | exact RowAt.mono (by assumption) (by k_sub) | exact ⟨_, _, _, _, _, _, _, rfl, by k_mem⟩)) RowAll.nil)); (case kwz => (first | assumption | omega | (simp only [List.length_append, List.length_cons, List.length_nil, List.length_take, List.length_drop, List.length_set]; omega))); (case kwy => (first | assumption | omega | (simp only [List.length_append, List.length_cons, List.length_nil, List.length_take, List.length_drop, List.length_set]; omega))); (case kws => with_unfolding_all rfl); (case kwt => kmk_pure)); intro D' h' F' N' l1 hA'; (try k_lt l1); (try k_sweep))
  k_with "subscriptTail" => (k_here; (with_reducible show wpAny _ _ (subscriptTail _ _ (Value.ref _) (Value.int _ _)) _ _ _); k_dflt (refine' rows_item ?kwN ?kwm ?kwr ?kwx ?kwy ?kwz ?_ ?kws ?kwt; (case kwN => k_asm); (case kwm => k_mem); (case kwr => (first | exact RowAll.mono (by assumption) (by k_sub) | exact RowAll.cons (by (first | exact RowAt.mono (by assumption) (by k_sub) | exact ⟨_, _, _, _, _, _, _, rfl, by k_mem⟩)) RowAll.nil)); (case kwx => (first | assumption | omega | (simp only [List.length_append, List.length_cons, List.length_nil, List.length_take, List.length_drop, List.length_set]; omega))); (case kwy => (first | assumption | omega | (simp only [List.length_append, List.length_cons, List.length_nil, List.length_take, List.length_drop, List.length_set]; omega))); (case kwz => (first | assumption | omega | (simp only [List.length_append, List.length_cons, List.length_nil, List.length_take, List.length_drop, List.length_set]; omega))); (case kws => with_unfolding_all rfl); (case kwt => kmk_pure); k_whole); intro v' r' hv' hr' hA'; (have hA2' := hA'; obtain ⟨a9', t1', t2', t3', t4', t5', n9', e9', hm9'⟩ := hA2'; subst e9'))
  k_with "setItem ref int" => (k_here; (with_reducible show wpAny _ _ (setItem (Value.ref _) (Value.int _ _) _) _ _ _); k_dflt (refine' rows_set ?kwF ?kwN ?kwu ?kwr ?kwx ?kwy ?kwz ?_; (case kwF => k_asm); (case kwN => k_asm); (case kwu => k_upd); (case kwr => (first | exact RowAll.mono (by assumption) (by k_sub) | exact RowAll.cons (by (first | exact RowAt.mono (by assumption) (by k_sub) | exact ⟨_, _, _, _, _, _, _, rfl, by k_mem⟩)) RowAll.nil)); (case kwx => (first | assumption | omega | (simp only [List.length_append, List.length_cons, List.length_nil, List.length_take, List.length_drop, List.length_set]; omega))); (case kwy => (first | assumption | omega | (simp only [List.length_append, List.length_cons, List.length_nil, List.length_take, List.length_drop, List.length_set]; omega))); (case kwz => (first | assumption | omega | (simp only [List.length_append, List.length_cons, List.length_nil, List.length_take, List.length_drop, List.length_set]; omega))); k_whole); intro h' F' N'; (try k_sweep))
  k_with "call ref" => (k_here; (with_reducible show wpAny _ _ (call (Value.ref 85) [_, _]) _ _ _); k_dflt (refine' spec_use (elect_spec _ _ _ _ _) ?kwk1 ?kwk2 ?kwk3 ?kwk4 ?kwk5 ?kwkK ?kwkR ?kwkd ?kwku ?_; (case kwk1 => k_asm); (case kwk2 => k_asm); (case kwk3 => k_asm); (case kwk4 => k_asm); (case kwk5 => k_asm); (case kwkK => first | exact rfl | assumption); (case kwkR => (refine And.intro ?_ (And.intro ?_ ?_); (first | exact RowsAt.mono (by assumption) (by k_sub) | exact ⟨_, _, _, rfl, by k_mem, RowAll.mono (by assumption) (by k_sub)⟩); (first | assumption | omega | (simp only [List.length_append, List.length_cons, List.length_nil, List.length_take, List.length_drop, List.length_set]; omega)); (first | exact RowAt.mono (by assumption) (by k_sub) | exact ⟨_, _, _, _, _, _, _, rfl, by k_mem⟩))); (case kwkd => ktr_room); (case kwku => ktr_units)); intro r9 tl9 h9 tk9 F9 N9 hl9 ho9; (obtain ⟨D9, t8, t7, n9, e9, e8⟩ := ho9; subst e9; subst e8; have hk9 := fresh_one hl9; clear hl9; (try (have hn9 := hk9; simp only [List.mem_cons, forall_eq_or_imp] at hn9))); (try simp only [List.nil_append, List.cons_append] at N9); (try dsimp only); (try k_sweep); (try k_fold))
  k_with "call ref" => (k_here; (with_reducible show wpAny _ _ (call (Value.ref 71) [_, _]) _ _ _); k_dflt (refine' spec_use (with_said_spec _ _ _ _ _) ?kwk1 ?kwk2 ?kwk3 ?kwk4 ?kwk5 ?kwkK ?kwkR ?kwkd ?kwku ?_; (case kwk1 => k_asm); (case kwk2 => k_asm); (case kwk3 => k_asm); (case kwk4 => k_asm); (case kwk5 => k_asm); (case kwkK => first | exact rfl | assumption); (case kwkR => (refine And.intro ?_ ?_; (first | exact RowAt.mono (by assumption) (by k_sub) | exact ⟨_, _, _, _, _, _, _, rfl, by k_mem⟩); (first | exact PairAt.mono (by assumption) (by k_sub) | exact ⟨_, _, _, _, rfl, by k_mem⟩))); (case kwkd => ktr_room); (case kwku => ktr_units)); intro r9 tl9 h9 tk9 F9 N9 hl9 ho9; (obtain ⟨D9, t8, t7, t6, t5, t4, n9, e9, e8⟩ := ho9; subst e9; subst e8; have hk9 := fresh_one hl9; clear hl9; (try (have hn9 := hk9; simp only [List.mem_cons, forall_eq_or_imp] at hn9))); (try simp only [List.nil_append, List.cons_append] at N9); (try dsimp only); (try k_sweep); (try k_fold))
  trivial
def tellAt (f : List Row) (i : Nat) : List Row := match f[i]? with
  | none => f
  | some r => f.set i (withSaid r (elect (f.take i ++ f.drop (i + 1)) r))
def toldRound (rs : List Row) : List Row := (List.range rs.length).foldl tellAt rs
theorem tellAt_length (f : List Row) (i : Nat) : (tellAt f i).length = f.length := by
  unfold tellAt
  split
  · rfl
  · rw [List.length_set]
theorem told_length (rs : List Row) (l : List Nat) : ∀ f : List Row, f.length = rs.length → (l.foldl tellAt f).length = rs.length := by
  induction l with
  | nil => intro f h; exact h
  | cons i r ih => intro f h; exact ih _ ((tellAt_length f i).trans h)
theorem tell_eq {cur : List Row} {i : Nat} {r1 r2 : Row} (h1 : cur[(i : Int).toNat]? = some r1) (h2 : cur[(i : Int).toNat]? = some r2) :
    tellAt cur i = cur.set (i : Int).toNat (withSaid r1 (elect (cur.take (i : Int).toNat ++ cur.drop ((i : Int) + 1).toNat) r2)) := by
  rw [h1] at h2
  have e := Option.some.inj h2
  subst e
  have e1 : (i : Int).toNat = i := by omega
  have e2 : ((i : Int) + 1).toNat = i + 1 := by omega
  rw [e1, e2]
  rw [e1] at h1
  unfold tellAt
  rw [h1]
def RowsFresh (rs : List Row) (_ tl : LedT) (r : Value) : Prop := ∃ D vs n tl', tl = (D, listOf vs.toArray n) :: tl' ∧ r = .ref D ∧ RowAll tl' vs rs
set_option maxRecDepth 100000 in
set_option maxHeartbeats 8000000 in
theorem told_round_spec (w : World) (v : Value) (rs : List Row) : Spec w 109 20 [v] (fun news => RowsAt news v rs ∧ rs.length ≤ 60) (RowsFresh (toldRound rs)) := by
  unfold Spec
  k_fill
  intro p' loose mean mg mb dp un gd cn cs a ccd cl outer A₀ base h₀ L m news s Q E B F X N T hk hR hd hu hret
  obtain ⟨⟨a, vs, n, rfl, hm, hR⟩, hlen⟩ := hR
  refine wpAny_call ?_
  k_dflt ktr_enter
  k_steps
  refine Hold.out ?_
  rename IsRange _ _ _ _ _ _ _ _ => hr
  rename Fr _ _ _ _ => lF'
  rename News _ _ _ _ => lN'
  rename RowAll _ _ _ => hA
  rename ∀ q ∈ news, q.1 < _ => hlt
  refine rows_loop tellAt [Str.ofString "pair"] (by rfl) hr (by omega) lF' lN' hA hlt ?_ ?_
  · intro i ws c' cur t u all h tk hi hcur hA2 hne F₁ N₁
    have hlc : cur.length = rs.length := hcur ▸ told_length rs _ rs rfl
    clear hr hlt lF' lN' hA
    k_steps
    show RlEnd _ _ _ _ _ _ _ _ _ _ _ _ _
    refine rl_close (by k_asm) (by k_asm) (by k_mem) (by k_mem) (by k_sub) (by assumption) (by k_sub) (by omega) (tell_eq (by assumption) (by assumption)) ?_
    intro z h1 h2
    have h3 : z ≠ Str.ofString "pair" := by rintro rfl; exact absurd h2 (by decide)
    rw [if_neg h3, if_neg h1, if_neg (by rw [h2]; decide)]
  · intro ws c' u junk h tk hA1 hlw hjn hne F₁ N₁
    rw [told_length rs _ rs rfl] at hlw
    rw [List.take_of_length_le (by omega), List.take_of_length_le (by rw [told_length rs _ rs rfl]; omega)] at hA1
    k_steps
    refine hret _ (_ :: junk) _ _ (by k_asm) (by k_asm) ?_ ⟨_, _, _, junk, rfl, rfl, hA1⟩
    intro q hq p hp
    rcases List.mem_cons.mp hp with rfl | hp
    · exact fun e => hne q (List.mem_append_right _ hq) e.symm
    · exact hjn p hp q hq
-- P2
section
theorem ids_map {l k : List Row} (e : l.map Row.id = k.map Row.id) (h : Ids k) : Ids l := by
  have h1 : (k.map Row.id).Pairwise (· ≠ ·) := by rw [List.pairwise_map]; exact h
  rw [← e, List.pairwise_map] at h1
  exact h1
theorem tellAt_ids (f : List Row) (i : Nat) : (tellAt f i).map Row.id = f.map Row.id := by
  unfold tellAt
  split
  · rfl
  · rename_i r hr
    rw [List.map_set]
    apply List.ext_getElem
    · simp
    · intro j h1 h2
      rw [List.getElem_set]
      split
      · rename_i e
        subst e
        simp only [List.getElem_map]
        have := (List.getElem?_eq_some_iff.mp hr).2
        rw [this]
        rfl
      · rfl
theorem told_ids (l : List Nat) : ∀ f : List Row, (l.foldl tellAt f).map Row.id = f.map Row.id := by
  induction l with
  | nil => intro f; rfl
  | cons i r ih => intro f; exact (ih _).trans (tellAt_ids f i)
theorem ids_split {l : List Row} {i : Nat} {r : Row} (h : Ids l) (hr : l[i]? = some r) : Ids ((l.take i ++ l.drop (i + 1)) ++ [r]) := by
  have hi := (List.getElem?_eq_some_iff.mp hr).1
  have e : l = l.take i ++ r :: l.drop (i + 1) := by
    have := (List.getElem?_eq_some_iff.mp hr).2
    rw [← this, ← List.drop_eq_getElem_cons hi, List.take_append_drop]
  have hp : ((l.take i ++ l.drop (i + 1)) ++ [r]).Perm l := by
    have h1 : (l.take i ++ r :: l.drop (i + 1)).Perm ((l.take i ++ l.drop (i + 1)) ++ [r]) := by
      rw [List.append_assoc]
      exact List.Perm.append_left _ (List.perm_append_comm (l₁ := [r]))
    rw [← e] at h1
    exact h1.symm
  unfold Ids at h ⊢
  exact (hp.pairwise_iff fun {a b} (k : a.id ≠ b.id) => k.symm).mpr h
theorem ids_splitI {l : List Row} {i : Nat} {r : Row} (h : Ids l) (hr : l[(i : Int).toNat]? = some r) : Ids ((l.take (i : Int).toNat ++ l.drop ((i : Int) + 1).toNat) ++ [r]) := by
  have e1 : (i : Int).toNat = i := by omega
  have e2 : ((i : Int) + 1).toNat = i + 1 := by omega
  rw [e1] at hr
  rw [e1, e2]
  exact ids_split h hr
theorem len_splitI {l : List Row} {i n : Nat} (h : l.length = n) (hi : i < n) (hn : n ≤ 3) : (l.take (i : Int).toNat ++ l.drop ((i : Int) + 1).toNat).length ≤ 2 := by
  have e1 : (i : Int).toNat = i := by omega
  have e2 : ((i : Int) + 1).toNat = i + 1 := by omega
  rw [e1, e2, List.length_append, List.length_take, List.length_drop]
  omega
end
-- F7
theorem kw10 : True := by
  k_with_none
  k_with "eval ListComp" => (k_here; lct_look; lcg_calm; k_dflt (refine LCt.ListComp_T (F₀ := by k_asm) (by with_unfolding_all rfl) (by decide) (by rfl) (by decide) (by rfl) ?_))
  k_with "exec Assign cons ListComp" => (k_here; lct_look; lcg_calm; k_dflt (refine LCt.Assign_ListComp_T (F₀ := by k_asm) (by rfl) (by with_unfolding_all rfl) (by with_unfolding_all rfl) (by decide) (by rfl) (by decide) (by rfl) (by rfl) (by rfl) ?_))
  k_with "subscriptTail" => (k_here; (with_reducible show wpAny _ _ (subscriptTail _ _ (Value.ref _) (Value.int _ _)) _ _ _); k_dflt (refine' item_tupleT ?kwt ?kwa ?kwb ?kwc ?kwd ?_; (case kwt => exact News.isTup (by k_asm) (by k_mem)); (case kwa => decide); (case kwb => decide); (case kwc => rfl); (case kwd => rfl); k_whole))
  k_with "kw mem" => (first | with_reducible assumption | (refine List.mem_append_right _ ?_; first | with_reducible assumption | (refine List.mem_cons_of_mem _ ?_; first | with_reducible assumption | (refine List.mem_cons_of_mem _ ?_; first | with_reducible assumption | (refine List.mem_cons_of_mem _ ?_; with_reducible assumption)))) | (refine List.mem_cons_of_mem _ ?_; first | with_reducible assumption | (refine List.mem_append_right _ ?_; first | with_reducible assumption | (refine List.mem_cons_of_mem _ ?_; first | with_reducible assumption | (refine List.mem_cons_of_mem _ ?_; first | with_reducible assumption | (refine List.mem_cons_of_mem _ ?_; with_reducible assumption)))) | (refine List.mem_cons_of_mem _ ?_; first | with_reducible assumption | (refine List.mem_append_right _ ?_; first | with_reducible assumption | (refine List.mem_cons_of_mem _ ?_; first | with_reducible assumption | (refine List.mem_cons_of_mem _ ?_; first | with_reducible assumption | (refine List.mem_cons_of_mem _ ?_; with_reducible assumption)))) | (refine List.mem_cons_of_mem _ ?_; first | with_reducible assumption | (refine List.mem_append_right _ ?_; first | with_reducible assumption | (refine List.mem_cons_of_mem _ ?_; first | with_reducible assumption | (refine List.mem_cons_of_mem _ ?_; first | with_reducible assumption | (refine List.mem_cons_of_mem _ ?_; with_reducible assumption)))) | (refine List.mem_cons_of_mem _ ?_; first | with_reducible assumption | (refine List.mem_append_right _ ?_; first | with_reducible assumption | (refine List.mem_cons_of_mem _ ?_; first | with_reducible assumption | (refine List.mem_cons_of_mem _ ?_; first | with_reducible assumption | (refine List.mem_cons_of_mem _ ?_; with_reducible assumption)))) | (refine List.mem_cons_of_mem _ ?_; first | with_reducible assumption | (refine List.mem_append_right _ ?_; first | with_reducible assumption | (refine List.mem_cons_of_mem _ ?_; first | with_reducible assumption | (refine List.mem_cons_of_mem _ ?_; first | with_reducible assumption | (refine List.mem_cons_of_mem _ ?_; with_reducible assumption)))) | (refine List.mem_cons_of_mem _ ?_; first | with_reducible assumption | (refine List.mem_append_right _ ?_; first | with_reducible assumption | (refine List.mem_cons_of_mem _ ?_; first | with_reducible assumption | (refine List.mem_cons_of_mem _ ?_; first | with_reducible assumption | (refine List.mem_cons_of_mem _ ?_; with_reducible assumption)))) | (refine List.mem_cons_of_mem _ ?_; first | with_reducible assumption | (refine List.mem_append_right _ ?_; first | with_reducible assumption | (refine List.mem_cons_of_mem _ ?_; first | with_reducible assumption | (refine List.mem_cons_of_mem _ ?_; first | with_reducible assumption | (refine List.mem_cons_of_mem _ ?_; with_reducible assumption)))) | (refine List.mem_cons_of_mem _ ?_; first | with_reducible assumption | (refine List.mem_append_right _ ?_; first | with_reducible assumption | (refine List.mem_cons_of_mem _ ?_; first | with_reducible assumption | (refine List.mem_cons_of_mem _ ?_; first | with_reducible assumption | (refine List.mem_cons_of_mem _ ?_; with_reducible assumption)))) | (refine List.mem_cons_of_mem _ ?_; first | with_reducible assumption | (refine List.mem_append_right _ ?_; first | with_reducible assumption | (refine List.mem_cons_of_mem _ ?_; first | with_reducible assumption | (refine List.mem_cons_of_mem _ ?_; first | with_reducible assumption | (refine List.mem_cons_of_mem _ ?_; with_reducible assumption)))) | (refine List.mem_cons_of_mem _ ?_; first | with_reducible assumption | (refine List.mem_append_right _ ?_; first | with_reducible assumption | (refine List.mem_cons_of_mem _ ?_; first | with_reducible assumption | (refine List.mem_cons_of_mem _ ?_; first | with_reducible assumption | (refine List.mem_cons_of_mem _ ?_; with_reducible assumption)))) | (refine List.mem_cons_of_mem _ ?_; first | with_reducible assumption | (refine List.mem_append_right _ ?_; first | with_reducible assumption | (refine List.mem_cons_of_mem _ ?_; first | with_reducible assumption | (refine List.mem_cons_of_mem _ ?_; first | with_reducible assumption | (refine List.mem_cons_of_mem _ ?_; with_reducible assumption)))) | (refine List.mem_cons_of_mem _ ?_; first | with_reducible assumption | (refine List.mem_append_right _ ?_; first | with_reducible assumption | (refine List.mem_cons_of_mem _ ?_; first | with_reducible assumption | (refine List.mem_cons_of_mem _ ?_; first | with_reducible assumption | (refine List.mem_cons_of_mem _ ?_; with_reducible assumption)))) | (refine List.mem_cons_of_mem _ ?_; first | with_reducible assumption | (refine List.mem_append_right _ ?_; first | with_reducible assumption | (refine List.mem_cons_of_mem _ ?_; first | with_reducible assumption | (refine List.mem_cons_of_mem _ ?_; first | with_reducible assumption | (refine List.mem_cons_of_mem _ ?_; with_reducible assumption)))) | (refine List.mem_cons_of_mem _ ?_; first | with_reducible assumption | (refine List.mem_append_right _ ?_; first | with_reducible assumption | (refine List.mem_cons_of_mem _ ?_; first | with_reducible assumption | (refine List.mem_cons_of_mem _ ?_; first | with_reducible assumption | (refine List.mem_cons_of_mem _ ?_; with_reducible assumption)))))))))))))))))))
  k_with "compareOp Gt ref ref" => (k_here; (with_reducible show wpAny _ _ (compareOp CmpOp.Gt (Value.ref _) (Value.ref _)) _ _ _); k_dflt (refine' gt_pair (x1 := _) ?kwu ?kwa ?kwb ?_; (case kwu => first | k_units | ktr_units); (case kwa => exact News.get (by k_asm) (by k_mem)); (case kwb => exact News.get (by k_asm) (by k_mem)); k_whole))
  k_with "call builtin:len" => (k_here; (with_reducible show wpAny _ _ (call (Value.builtin _) [Value.ref _]) _ _ _); k_dflt (refine' len_rows (vs := _) ?kwl ?kwr ?kwz ?_; (case kwl => exact News.isList (by k_asm) (by k_mem)); (case kwr => assumption); (case kwz => first | assumption | omega); k_whole))
  k_with "pyIter ref" => (k_here; (with_reducible show wpAny _ _ (pyIter (Value.ref _)) (fun it s₂ => LoopAtV _ _ _ _ _ _ _ _ _ it s₂) _ _); refine Hold.intro ?_)
  k_with "kw all" => with_reducible assumption
  k_with "call type:list" => (k_here; (with_reducible show wpAny _ _ (call (Value.type _) [Value.ref _]) _ _ _); k_dflt (refine' rows_copy ?kwF ?kwN ?kwm ?kwr ?kwz ?_; (case kwF => k_asm); (case kwN => k_asm); (case kwm => k_mem); (case kwr => (first | exact RowAll.mono (by assumption) (by k_sub) | exact RowAll.cons (by (first | exact RowAt.mono (by assumption) (by k_sub) | exact ⟨_, _, _, _, _, _, _, rfl, by k_mem⟩)) RowAll.nil)); (case kwz => (first | assumption | omega | (simp only [List.length_append, List.length_cons, List.length_nil, List.length_take, List.length_drop, List.length_set]; omega))); k_whole); intro D' c' h' F' N' l1 hA'; (try k_lt l1); (try k_sweep))
  k_with "binaryOp Add ref ref" => (k_here; (with_reducible show wpAny _ _ (binaryOp _ (Value.ref _) (Value.ref _)) _ _ _); k_dflt (refine' rows_add ?kwF ?kwN ?kwa ?kwb ?kwr ?kwq ?kwz ?kwy ?_; (case kwF => k_asm); (case kwN => k_asm); (case kwa => k_mem); (case kwb => k_mem); (case kwr => (first | exact RowAll.mono (by assumption) (by k_sub) | exact RowAll.cons (by (first | exact RowAt.mono (by assumption) (by k_sub) | exact ⟨_, _, _, _, _, _, _, rfl, by k_mem⟩)) RowAll.nil)); (case kwq => (first | exact RowAll.mono (by assumption) (by k_sub) | exact RowAll.cons (by (first | exact RowAt.mono (by assumption) (by k_sub) | exact ⟨_, _, _, _, _, _, _, rfl, by k_mem⟩)) RowAll.nil)); (case kwz => (first | assumption | omega | (simp only [List.length_append, List.length_cons, List.length_nil, List.length_take, List.length_drop, List.length_set]; omega))); (case kwy => (first | assumption | omega | (simp only [List.length_append, List.length_cons, List.length_nil, List.length_take, List.length_drop, List.length_set]; omega))); k_whole); intro D' h' F' N' l1 hA'; (try k_lt l1); (try k_sweep))
  k_with "subscriptTail Name Slice ref ref" => (k_here; (with_reducible show wpAny _ _ (subscriptTail _ (PySem.Expr.Slice _ _ none _) (Value.ref _) (Value.ref _)) _ _ _); k_dflt (refine' rows_upto ?kwF ?kwN ?kwm ?kwp ?kwq ?kwr ?kwz ?kwy ?_ ?kws ?kwt; (case kwF => k_asm); (case kwN => k_asm); (case kwm => k_mem); (case kwp => exact IsPart.none); (case kwq => exact IsPart.int _ _); (case kwr => (first | exact RowAll.mono (by assumption) (by k_sub) | exact RowAll.cons (by (first | exact RowAt.mono (by assumption) (by k_sub) | exact ⟨_, _, _, _, _, _, _, rfl, by k_mem⟩)) RowAll.nil)); (case kwz => (first | assumption | omega | (simp only [List.length_append, List.length_cons, List.length_nil, List.length_take, List.length_drop, List.length_set]; omega))); (case kwy => (first | assumption | omega | (simp only [List.length_append, List.length_cons, List.length_nil, List.length_take, List.length_drop, List.length_set]; omega))); (case kws => with_unfolding_all rfl); (case kwt => kmk_pure)); intro D' h' F' N' l1 hA'; (try k_lt l1); (try k_sweep))
  k_with "subscriptTail Name Slice ref ref" => (k_here; (with_reducible show wpAny _ _ (subscriptTail _ (PySem.Expr.Slice _ _ none _) (Value.ref _) (Value.ref _)) _ _ _); k_dflt (refine' rows_from ?kwF ?kwN ?kwm ?kwp ?kwq ?kwr ?kwz ?kwy ?_ ?kws ?kwt; (case kwF => k_asm); (case kwN => k_asm); (case kwm => k_mem); (case kwp => exact IsPart.int _ _); (case kwq => exact IsPart.none); (case kwr => (first | exact RowAll.mono (by assumption) (by k_sub) | exact RowAll.cons (by (first | exact RowAt.mono (by assumption) (by k_sub) | exact ⟨_, _, _, _, _, _, _, rfl, by k_mem⟩)) RowAll.nil)); (case kwz => (first | assumption | omega | (simp only [List.length_append, List.length_cons, List.length_nil, List.length_take, List.length_drop, List.length_set]; omega))); (case kwy => (first | assumption | omega | (simp only [List.length_append, List.length_cons, List.length_nil, List.length_take, List.length_drop, List.length_set]; omega))); (case kws => with_unfolding_all rfl); (case kwt => kmk_pure)); intro D' h' F' N' l1 hA'; (try k_lt l1); (try k_sweep))
  k_with "subscriptTail" => (k_here; (with_reducible show wpAny _ _ (subscriptTail _ _ (Value.ref _) (Value.int _ _)) _ _ _); k_dflt (refine' rows_item ?kwN ?kwm ?kwr ?kwx ?kwy ?kwz ?_ ?kws ?kwt; (case kwN => k_asm); (case kwm => k_mem); (case kwr => (first | exact RowAll.mono (by assumption) (by k_sub) | exact RowAll.cons (by (first | exact RowAt.mono (by assumption) (by k_sub) | exact ⟨_, _, _, _, _, _, _, rfl, by k_mem⟩)) RowAll.nil)); (case kwx => (first | assumption | omega | (simp only [List.length_append, List.length_cons, List.length_nil, List.length_take, List.length_drop, List.length_set]; omega))); (case kwy => (first | assumption | omega | (simp only [List.length_append, List.length_cons, List.length_nil, List.length_take, List.length_drop, List.length_set]; omega))); (case kwz => (first | assumption | omega | (simp only [List.length_append, List.length_cons, List.length_nil, List.length_take, List.length_drop, List.length_set]; omega))); (case kws => with_unfolding_all rfl); (case kwt => kmk_pure); k_whole); intro v' r' hv' hr' hA'; (have hA2' := hA'; obtain ⟨a9', t1', t2', t3', t4', t5', n9', e9', hm9'⟩ := hA2'; subst e9'))
  k_with "setItem ref int" => (k_here; (with_reducible show wpAny _ _ (setItem (Value.ref _) (Value.int _ _) _) _ _ _); k_dflt (refine' rows_set ?kwF ?kwN ?kwu ?kwr ?kwx ?kwy ?kwz ?_; (case kwF => k_asm); (case kwN => k_asm); (case kwu => k_upd); (case kwr => (first | exact RowAll.mono (by assumption) (by k_sub) | exact RowAll.cons (by (first | exact RowAt.mono (by assumption) (by k_sub) | exact ⟨_, _, _, _, _, _, _, rfl, by k_mem⟩)) RowAll.nil)); (case kwx => (first | assumption | omega | (simp only [List.length_append, List.length_cons, List.length_nil, List.length_take, List.length_drop, List.length_set]; omega))); (case kwy => (first | assumption | omega | (simp only [List.length_append, List.length_cons, List.length_nil, List.length_take, List.length_drop, List.length_set]; omega))); (case kwz => (first | assumption | omega | (simp only [List.length_append, List.length_cons, List.length_nil, List.length_take, List.length_drop, List.length_set]; omega))); k_whole); intro h' F' N'; (try k_sweep))
  k_with "compareOp Eq ref ref" => (k_here; (with_reducible show wpAny _ _ (compareOp CmpOp.Eq (Value.ref _) (Value.ref _)) _ _ _); k_dflt (refine' rows_eq ?kwN ?kwa ?kwb ?kwr ?kwq ?kwu ?_; (case kwN => k_asm); (case kwa => k_mem); (case kwb => k_mem); (case kwr => (first | exact RowAll.mono (by assumption) (by k_sub) | exact RowAll.cons (by (first | exact RowAt.mono (by assumption) (by k_sub) | exact ⟨_, _, _, _, _, _, _, rfl, by k_mem⟩)) RowAll.nil | exact RowAll.nil)); (case kwq => (first | exact RowAll.mono (by assumption) (by k_sub) | exact RowAll.cons (by (first | exact RowAt.mono (by assumption) (by k_sub) | exact ⟨_, _, _, _, _, _, _, rfl, by k_mem⟩)) RowAll.nil | exact RowAll.nil)); (case kwu => ktr_units); k_whole))
  k_with "compareOp NotEq ref ref" => (k_here; (with_reducible show wpAny _ _ (compareOp CmpOp.NotEq (Value.ref _) (Value.ref _)) _ _ _); k_dflt (refine' rows_ne ?kwN ?kwa ?kwb ?kwr ?kwq ?kwu ?_; (case kwN => k_asm); (case kwa => k_mem); (case kwb => k_mem); (case kwr => (first | exact RowAll.mono (by assumption) (by k_sub) | exact RowAll.cons (by (first | exact RowAt.mono (by assumption) (by k_sub) | exact ⟨_, _, _, _, _, _, _, rfl, by k_mem⟩)) RowAll.nil | exact RowAll.nil)); (case kwq => (first | exact RowAll.mono (by assumption) (by k_sub) | exact RowAll.cons (by (first | exact RowAt.mono (by assumption) (by k_sub) | exact ⟨_, _, _, _, _, _, _, rfl, by k_mem⟩)) RowAll.nil | exact RowAll.nil)); (case kwu => ktr_units); k_whole))
  k_with "call ref" => (k_here; (with_reducible show wpAny _ _ (call (Value.ref 109) [_]) _ _ _); k_dflt (refine' spec_use (told_round_spec _ _ _) ?kwk1 ?kwk2 ?kwk3 ?kwk4 ?kwk5 ?kwkK ?kwkR ?kwkd ?kwku ?_; (case kwk1 => k_asm); (case kwk2 => k_asm); (case kwk3 => k_asm); (case kwk4 => k_asm); (case kwk5 => k_asm); (case kwkK => first | exact rfl | assumption); (case kwkR => (refine And.intro ?_ ?_; (first | exact RowsAt.mono (by assumption) (by k_sub) | exact ⟨_, _, _, rfl, by k_mem, RowAll.mono (by assumption) (by k_sub)⟩); (first | assumption | omega | (simp only [List.length_append, List.length_cons, List.length_nil, List.length_take, List.length_drop, List.length_set]; omega)))); (case kwkd => ktr_room); (case kwku => ktr_units)); intro r9 tl9 h9 tk9 F9 N9 hl9 ho9; (obtain ⟨D9, vs9, n9, tl8, e9, e8, hr9⟩ := ho9; subst e9; subst e8; (try simp only [List.cons_append] at N9); have hk9 := fresh_one hl9; have hf9 := Kept.mk hl9; clear hl9); (try simp only [List.nil_append, List.cons_append] at N9); (try dsimp only); (try k_sweep); (try k_fold))
  trivial
def toldIter (rs : List Row) : Nat → List Row
  | 0 => rs
  | k + 1 => toldRound (toldIter rs k)
theorem toldRound_length (rs : List Row) : (toldRound rs).length = rs.length := told_length rs _ rs rfl
theorem toldIter_length (rs : List Row) : ∀ k, (toldIter rs k).length = rs.length
  | 0 => rfl
  | k + 1 => (toldRound_length _).trans (toldIter_length rs k)
def settle (rs : List Row) (most : Nat) : Option (List Row × Nat) := ((List.range (most + 1)).find? fun i => decide (toldIter rs (i + 1) = toldIter rs i)).map fun i => (toldIter rs i, i)
theorem settle_hit {rs : List Row} {most i : Nat} (h : i < most + 1) (h1 : ∀ j, j < i → toldIter rs (j + 1) ≠ toldIter rs j) (h2 : toldIter rs (i + 1) = toldIter rs i) : settle rs most = some (toldIter rs i, i) := by
  have e : (List.range (most + 1)).find? (fun i => decide (toldIter rs (i + 1) = toldIter rs i)) = some i := by
    rw [List.find?_range_eq_some]
    refine ⟨decide_eq_true h2, List.mem_range.mpr h, fun j hj => ?_⟩
    simpa using h1 j hj
  unfold settle
  rw [e]
  rfl
theorem settle_miss {rs : List Row} {most : Nat} (h1 : ∀ j, j < most + 1 → toldIter rs (j + 1) ≠ toldIter rs j) : settle rs most = none := by
  have e : (List.range (most + 1)).find? (fun i => decide (toldIter rs (i + 1) = toldIter rs i)) = none := by
    rw [List.find?_eq_none]
    intro j hj
    simpa using h1 j (List.mem_range.mp hj)
  unfold settle
  rw [e]
  rfl
abbrev endObj (v : Value) (k : Int) (t : Tok) (n : Nat) : Obj := { cls := .type "tuple", data := .seq #[v, .int k t] n }
def SettOut (o : Option (List Row × Nat)) (news tl : LedT) (r : Value) : Prop := match o with
  | none => tl = [] ∧ r = .none
  | some (qs, k) => ∃ D v t n tl', tl = (D, endObj v (k : Int) t n) :: tl' ∧ r = .ref D ∧ RowsAt (tl' ++ news) v qs
theorem sub_cons {q : Addr × Obj} {l l' : LedT} (h : ∀ p ∈ l, p ∈ l') : ∀ p ∈ q :: l, p ∈ q :: l' := fun p hp => by
  rcases List.mem_cons.mp hp with rfl | hp
  · exact .head _
  · exact .tail _ (h p hp)
theorem sett_out {rs : List Row} {most i : Nat} {junk news : LedT} {d0 : Addr × Obj} {D : Addr} {v : Value} {t : Tok} {n : Nat} (hi : i < most + 1) (h1 : ∀ j, j < i → toldIter rs (j + 1) ≠ toldIter rs j) (h2 : toldIter rs (i + 1) = toldIter rs i)
    (hP : RowsAt (junk ++ d0 :: news) v (toldIter rs i)) : SettOut (settle rs most) news ((D, endObj v (i : Int) t n) :: (junk ++ [d0])) (.ref D) := by
  rw [settle_hit hi h1 h2]
  exact ⟨D, v, t, n, junk ++ [d0], rfl, rfl, by simpa using hP⟩
theorem r1_close {h₀ h' : Heap} {L D9 : Addr} {x y : Str} {stored : List Str} {m₀ m' : Str → Option Value} {rs' : List Row} {i : Nat} {rs : List Row} {base all tl8 : LedT} {vs9 : List Value} {n9 tk : Nat} {s₁ : Shared}
    (F : Fr h₀ L h' m') (N : News h₀ L h' ((D9, listOf vs9.toArray n9) :: (tl8 ++ all))) (hf : Kept (∀ q ∈ all, ∀ p ∈ (D9, listOf vs9.toArray n9) :: tl8, @Ne Nat p.1 q.1)) (hr : RowAll tl8 vs9 rs') (e : rs' = toldIter rs (i + 1))
    (hno : ∀ j, j < i → toldIter rs (j + 1) ≠ toldIter rs j) (hn : ¬ toldIter rs (i + 1) = toldIter rs i) (hy : m' y = some (.ref D9)) (hm : ∀ z, z ≠ x → z ≠ y → stored.contains z = false → m' z = m₀ z) :
    R1End h₀ L x y stored m₀ (fun v l => RowsAt l v (toldIter rs (i + 1)) ∧ ∀ j, j < i + 1 → toldIter rs (j + 1) ≠ toldIter rs j) base all s₁ { s₁ with heap := h', toks := tk } := by
  subst e
  refine ⟨h', tk, .ref D9, (D9, listOf vs9.toArray n9) :: tl8, m', rfl, F, N, fun p hp q hq => hf.out q hq p hp, ⟨⟨D9, vs9, n9, rfl, .head _, hr.mono fun p hp => .tail _ (List.mem_append_left _ hp)⟩, fun j hj => ?_⟩, hy, hm⟩
  by_cases h : j < i
  · exact hno j h
  · have e : j = i := by omega
    rw [e]
    exact hn
set_option maxRecDepth 100000 in
set_option maxHeartbeats 8000000 in
theorem settled_spec (w : World) (v : Value) (rs : List Row) (most : Nat) (tm : Tok) : Spec w 116 40 [v, .int (most : Int) tm] (fun news => RowsAt news v rs ∧ rs.length ≤ 60 ∧ most ≤ 60) (SettOut (settle rs most)) := by
  unfold Spec
  k_fill
  intro p' loose mean mg mb dp un gd cn cs a ccd cl outer A₀ base h₀ L m news s Q E B F X N T hk hR hd hu hret
  obtain ⟨⟨a, vs, n, rfl, hm, hR⟩, hlen, hmost⟩ := hR
  refine wpAny_call ?_
  k_dflt ktr_enter
  k_steps
  refine Hold.out ?_
  rename IsRange _ _ _ _ _ _ _ _ => hr
  rename Fr _ _ _ _ => lF'
  rename News _ _ _ _ => lN'
  rename RowAll _ _ _ => hA
  rename ∀ q ∈ news, q.1 < _ => hlt
  have hr2 : IsRange _ _ 0 ((most + 1 : Nat) : Int) 1 _ _ _ := hr
  refine range_loop1 (y := Str.ofString "found") (fun i v l => RowsAt l v (toldIter rs i) ∧ ∀ j, j < i → toldIter rs (j + 1) ≠ toldIter rs j) [Str.ofString "later"] (by rfl) hr2 (by omega) lF' lN' (by rfl)
    ⟨⟨_, _, _, rfl, .head _, hA.mono fun _ h => .tail _ h⟩, fun j hj => absurd hj (Nat.not_lt_zero j)⟩ ?_ ?_
  · intro i v t u junk all h tk hi hP hjn hsub F₁ N₁
    obtain ⟨hP, hno⟩ := hP
    have hrows : RowsAt all v (toldIter rs i) := hP.mono hsub
    have hlc : (toldIter rs i).length ≤ 60 := by rw [toldIter_length]; exact hlen
    obtain ⟨a', vs', n', rfl, hm', hR'⟩ := hrows
    have hP2 : Kept (RowsAt _ _ _) := ⟨hP⟩
    clear hr hr2 lF' lN' hA hP
    k_steps
    · have hfix : toldIter rs (i + 1) = toldIter rs i := by assumption
      rename _ ∧ AllLt _ _ => hl
      have hl2 := ktn_ltOf hl.2
      unfold R1Post
      dsimp only
      k_steps
      refine hret _ _ _ _ (by k_asm) (cb_drop (by k_asm) (sub_cons (fun p hp => .tail _ (List.mem_append_right _ (hsub p (by simpa using hp)))))) ?_ (sett_out hi hno hfix hP2.out)
      intro q hq p hp
      have hqa := hsub q (List.mem_append_right _ (.tail _ hq))
      rcases List.mem_cons.mp hp with rfl | hp
      · exact Nat.ne_of_gt (hl2 q (List.mem_append_right _ hqa))
      · rcases List.mem_append.mp hp with hp | hp
        · exact hjn p hp q (.tail _ hq)
        · rw [List.mem_singleton.mp hp]
          exact Nat.ne_of_gt (hlt q hq)
    · unfold R1Post
      dsimp only
      refine r1_close (by k_asm) (by k_asm) (by assumption) (by assumption) rfl hno (by assumption) rfl ?_
      intro z h1 h2 h3
      have h4 : z ≠ Str.ofString "later" := by rintro rfl; exact absurd h3 (by decide)
      rw [if_neg h2, if_neg h4, if_neg h1, if_neg h2, if_neg (by rw [h3]; decide)]
  · intro v u junk h tk hP hjn F₁ N₁
    obtain ⟨hP, hno⟩ := hP
    k_steps
    refine hret _ [] _ _ (by k_asm) (cb_drop (by k_asm) (fun p hp => List.mem_append_right _ (.tail _ hp))) (fun _ _ _ h => nomatch h) ?_
    rw [settle_miss hno]
    exact ⟨rfl, rfl⟩
-- F8
theorem kw11 : True := by
  k_with_none
  k_with "eval ListComp" => (k_here; lct_look; lcg_calm; k_dflt (refine LCt.ListComp_T (F₀ := by k_asm) (by with_unfolding_all rfl) (by decide) (by rfl) (by decide) (by rfl) ?_))
  k_with "exec Assign cons ListComp" => (k_here; lct_look; lcg_calm; k_dflt (refine LCt.Assign_ListComp_T (F₀ := by k_asm) (by rfl) (by with_unfolding_all rfl) (by with_unfolding_all rfl) (by decide) (by rfl) (by decide) (by rfl) (by rfl) (by rfl) ?_))
  k_with "subscriptTail" => (k_here; (with_reducible show wpAny _ _ (subscriptTail _ _ (Value.ref _) (Value.int _ _)) _ _ _); k_dflt (refine' item_tupleT ?kwt ?kwa ?kwb ?kwc ?kwd ?_; (case kwt => exact News.isTup (by k_asm) (by k_mem)); (case kwa => decide); (case kwb => decide); (case kwc => rfl); (case kwd => rfl); k_whole))
  k_with "kw mem" => (first | with_reducible assumption | (refine List.mem_append_right _ ?_; first | with_reducible assumption | (refine List.mem_cons_of_mem _ ?_; first | with_reducible assumption | (refine List.mem_cons_of_mem _ ?_; first | with_reducible assumption | (refine List.mem_cons_of_mem _ ?_; with_reducible assumption)))) | (refine List.mem_cons_of_mem _ ?_; first | with_reducible assumption | (refine List.mem_append_right _ ?_; first | with_reducible assumption | (refine List.mem_cons_of_mem _ ?_; first | with_reducible assumption | (refine List.mem_cons_of_mem _ ?_; first | with_reducible assumption | (refine List.mem_cons_of_mem _ ?_; with_reducible assumption)))) | (refine List.mem_cons_of_mem _ ?_; first | with_reducible assumption | (refine List.mem_append_right _ ?_; first | with_reducible assumption | (refine List.mem_cons_of_mem _ ?_; first | with_reducible assumption | (refine List.mem_cons_of_mem _ ?_; first | with_reducible assumption | (refine List.mem_cons_of_mem _ ?_; with_reducible assumption)))) | (refine List.mem_cons_of_mem _ ?_; first | with_reducible assumption | (refine List.mem_append_right _ ?_; first | with_reducible assumption | (refine List.mem_cons_of_mem _ ?_; first | with_reducible assumption | (refine List.mem_cons_of_mem _ ?_; first | with_reducible assumption | (refine List.mem_cons_of_mem _ ?_; with_reducible assumption)))) | (refine List.mem_cons_of_mem _ ?_; first | with_reducible assumption | (refine List.mem_append_right _ ?_; first | with_reducible assumption | (refine List.mem_cons_of_mem _ ?_; first | with_reducible assumption | (refine List.mem_cons_of_mem _ ?_; first | with_reducible assumption | (refine List.mem_cons_of_mem _ ?_; with_reducible assumption)))) | (refine List.mem_cons_of_mem _ ?_; first | with_reducible assumption | (refine List.mem_append_right _ ?_; first | with_reducible assumption | (refine List.mem_cons_of_mem _ ?_; first | with_reducible assumption | (refine List.mem_cons_of_mem _ ?_; first | with_reducible assumption | (refine List.mem_cons_of_mem _ ?_; with_reducible assumption)))) | (refine List.mem_cons_of_mem _ ?_; first | with_reducible assumption | (refine List.mem_append_right _ ?_; first | with_reducible assumption | (refine List.mem_cons_of_mem _ ?_; first | with_reducible assumption | (refine List.mem_cons_of_mem _ ?_; first | with_reducible assumption | (refine List.mem_cons_of_mem _ ?_; with_reducible assumption)))) | (refine List.mem_cons_of_mem _ ?_; first | with_reducible assumption | (refine List.mem_append_right _ ?_; first | with_reducible assumption | (refine List.mem_cons_of_mem _ ?_; first | with_reducible assumption | (refine List.mem_cons_of_mem _ ?_; first | with_reducible assumption | (refine List.mem_cons_of_mem _ ?_; with_reducible assumption)))) | (refine List.mem_cons_of_mem _ ?_; first | with_reducible assumption | (refine List.mem_append_right _ ?_; first | with_reducible assumption | (refine List.mem_cons_of_mem _ ?_; first | with_reducible assumption | (refine List.mem_cons_of_mem _ ?_; first | with_reducible assumption | (refine List.mem_cons_of_mem _ ?_; with_reducible assumption)))) | (refine List.mem_cons_of_mem _ ?_; first | with_reducible assumption | (refine List.mem_append_right _ ?_; first | with_reducible assumption | (refine List.mem_cons_of_mem _ ?_; first | with_reducible assumption | (refine List.mem_cons_of_mem _ ?_; first | with_reducible assumption | (refine List.mem_cons_of_mem _ ?_; with_reducible assumption)))) | (refine List.mem_cons_of_mem _ ?_; first | with_reducible assumption | (refine List.mem_append_right _ ?_; first | with_reducible assumption | (refine List.mem_cons_of_mem _ ?_; first | with_reducible assumption | (refine List.mem_cons_of_mem _ ?_; first | with_reducible assumption | (refine List.mem_cons_of_mem _ ?_; with_reducible assumption)))) | (refine List.mem_cons_of_mem _ ?_; first | with_reducible assumption | (refine List.mem_append_right _ ?_; first | with_reducible assumption | (refine List.mem_cons_of_mem _ ?_; first | with_reducible assumption | (refine List.mem_cons_of_mem _ ?_; first | with_reducible assumption | (refine List.mem_cons_of_mem _ ?_; with_reducible assumption)))) | (refine List.mem_cons_of_mem _ ?_; first | with_reducible assumption | (refine List.mem_append_right _ ?_; first | with_reducible assumption | (refine List.mem_cons_of_mem _ ?_; first | with_reducible assumption | (refine List.mem_cons_of_mem _ ?_; first | with_reducible assumption | (refine List.mem_cons_of_mem _ ?_; with_reducible assumption)))) | (refine List.mem_cons_of_mem _ ?_; first | with_reducible assumption | (refine List.mem_append_right _ ?_; first | with_reducible assumption | (refine List.mem_cons_of_mem _ ?_; first | with_reducible assumption | (refine List.mem_cons_of_mem _ ?_; first | with_reducible assumption | (refine List.mem_cons_of_mem _ ?_; with_reducible assumption)))) | (refine List.mem_cons_of_mem _ ?_; first | with_reducible assumption | (refine List.mem_append_right _ ?_; first | with_reducible assumption | (refine List.mem_cons_of_mem _ ?_; first | with_reducible assumption | (refine List.mem_cons_of_mem _ ?_; first | with_reducible assumption | (refine List.mem_cons_of_mem _ ?_; with_reducible assumption)))))))))))))))))))
  k_with "compareOp Gt ref ref" => (k_here; (with_reducible show wpAny _ _ (compareOp CmpOp.Gt (Value.ref _) (Value.ref _)) _ _ _); k_dflt (refine' gt_pair (x1 := _) ?kwu ?kwa ?kwb ?_; (case kwu => first | k_units | ktr_units); (case kwa => exact News.get (by k_asm) (by k_mem)); (case kwb => exact News.get (by k_asm) (by k_mem)); k_whole))
  k_with "call builtin:len" => (k_here; (with_reducible show wpAny _ _ (call (Value.builtin _) [Value.ref _]) _ _ _); k_dflt (refine' len_rows (vs := _) ?kwl ?kwr ?kwz ?_; (case kwl => exact News.isList (by k_asm) (by k_mem)); (case kwr => assumption); (case kwz => first | assumption | omega); k_whole))
  k_with "eval Lambda" => (k_here; refine Hold.intro ?_)
  k_with "call builtin:sorted" => (k_here; refine Hold.intro ?_)
  k_with "call type:list" => (k_here; (with_reducible show wpAny _ _ (call (Value.type _) [Value.ref _]) _ _ _); k_dflt (refine' rows_copy ?kwF ?kwN ?kwm ?kwr ?kwz ?_; (case kwF => k_asm); (case kwN => k_asm); (case kwm => k_mem); (case kwr => (first | exact RowAll.mono (by assumption) (by k_sub) | exact RowAll.cons (by (first | exact RowAt.mono (by assumption) (by k_sub) | exact ⟨_, _, _, _, _, _, _, rfl, by k_mem⟩)) RowAll.nil)); (case kwz => (first | assumption | omega | (simp only [List.length_append, List.length_cons, List.length_nil, List.length_take, List.length_drop, List.length_set]; omega))); k_whole); intro D' c' h' F' N' l1 hA'; (try k_lt l1); (try k_sweep))
  k_with "binaryOp Add ref ref" => (k_here; (with_reducible show wpAny _ _ (binaryOp _ (Value.ref _) (Value.ref _)) _ _ _); k_dflt (refine' rows_add ?kwF ?kwN ?kwa ?kwb ?kwr ?kwq ?kwz ?kwy ?_; (case kwF => k_asm); (case kwN => k_asm); (case kwa => k_mem); (case kwb => k_mem); (case kwr => (first | exact RowAll.mono (by assumption) (by k_sub) | exact RowAll.cons (by (first | exact RowAt.mono (by assumption) (by k_sub) | exact ⟨_, _, _, _, _, _, _, rfl, by k_mem⟩)) RowAll.nil)); (case kwq => (first | exact RowAll.mono (by assumption) (by k_sub) | exact RowAll.cons (by (first | exact RowAt.mono (by assumption) (by k_sub) | exact ⟨_, _, _, _, _, _, _, rfl, by k_mem⟩)) RowAll.nil)); (case kwz => (first | assumption | omega | (simp only [List.length_append, List.length_cons, List.length_nil, List.length_take, List.length_drop, List.length_set]; omega))); (case kwy => (first | assumption | omega | (simp only [List.length_append, List.length_cons, List.length_nil, List.length_take, List.length_drop, List.length_set]; omega))); k_whole); intro D' h' F' N' l1 hA'; (try k_lt l1); (try k_sweep))
  k_with "subscriptTail Name Slice ref ref" => (k_here; (with_reducible show wpAny _ _ (subscriptTail _ (PySem.Expr.Slice _ _ none _) (Value.ref _) (Value.ref _)) _ _ _); k_dflt (refine' rows_upto ?kwF ?kwN ?kwm ?kwp ?kwq ?kwr ?kwz ?kwy ?_ ?kws ?kwt; (case kwF => k_asm); (case kwN => k_asm); (case kwm => k_mem); (case kwp => exact IsPart.none); (case kwq => exact IsPart.int _ _); (case kwr => (first | exact RowAll.mono (by assumption) (by k_sub) | exact RowAll.cons (by (first | exact RowAt.mono (by assumption) (by k_sub) | exact ⟨_, _, _, _, _, _, _, rfl, by k_mem⟩)) RowAll.nil)); (case kwz => (first | assumption | omega | (simp only [List.length_append, List.length_cons, List.length_nil, List.length_take, List.length_drop, List.length_set]; omega))); (case kwy => (first | assumption | omega | (simp only [List.length_append, List.length_cons, List.length_nil, List.length_take, List.length_drop, List.length_set]; omega))); (case kws => with_unfolding_all rfl); (case kwt => kmk_pure)); intro D' h' F' N' l1 hA'; (try k_lt l1); (try k_sweep))
  k_with "subscriptTail Name Slice ref ref" => (k_here; (with_reducible show wpAny _ _ (subscriptTail _ (PySem.Expr.Slice _ _ none _) (Value.ref _) (Value.ref _)) _ _ _); k_dflt (refine' rows_from ?kwF ?kwN ?kwm ?kwp ?kwq ?kwr ?kwz ?kwy ?_ ?kws ?kwt; (case kwF => k_asm); (case kwN => k_asm); (case kwm => k_mem); (case kwp => exact IsPart.int _ _); (case kwq => exact IsPart.none); (case kwr => (first | exact RowAll.mono (by assumption) (by k_sub) | exact RowAll.cons (by (first | exact RowAt.mono (by assumption) (by k_sub) | exact ⟨_, _, _, _, _, _, _, rfl, by k_mem⟩)) RowAll.nil)); (case kwz => (first | assumption | omega | (simp only [List.length_append, List.length_cons, List.length_nil, List.length_take, List.length_drop, List.length_set]; omega))); (case kwy => (first | assumption | omega | (simp only [List.length_append, List.length_cons, List.length_nil, List.length_take, List.length_drop, List.length_set]; omega))); (case kws => with_unfolding_all rfl); (case kwt => kmk_pure)); intro D' h' F' N' l1 hA'; (try k_lt l1); (try k_sweep))
  k_with "subscriptTail" => (k_here; (with_reducible show wpAny _ _ (subscriptTail _ _ (Value.ref _) (Value.int _ _)) _ _ _); k_dflt (refine' rows_item ?kwN ?kwm ?kwr ?kwx ?kwy ?kwz ?_ ?kws ?kwt; (case kwN => k_asm); (case kwm => k_mem); (case kwr => (first | exact RowAll.mono (by assumption) (by k_sub) | exact RowAll.cons (by (first | exact RowAt.mono (by assumption) (by k_sub) | exact ⟨_, _, _, _, _, _, _, rfl, by k_mem⟩)) RowAll.nil)); (case kwx => (first | assumption | omega | (simp only [List.length_append, List.length_cons, List.length_nil, List.length_take, List.length_drop, List.length_set]; omega))); (case kwy => (first | assumption | omega | (simp only [List.length_append, List.length_cons, List.length_nil, List.length_take, List.length_drop, List.length_set]; omega))); (case kwz => (first | assumption | omega | (simp only [List.length_append, List.length_cons, List.length_nil, List.length_take, List.length_drop, List.length_set]; omega))); (case kws => with_unfolding_all rfl); (case kwt => kmk_pure); k_whole); intro v' r' hv' hr' hA'; (have hA2' := hA'; obtain ⟨a9', t1', t2', t3', t4', t5', n9', e9', hm9'⟩ := hA2'; subst e9'))
  k_with "setItem ref int" => (k_here; (with_reducible show wpAny _ _ (setItem (Value.ref _) (Value.int _ _) _) _ _ _); k_dflt (refine' rows_set ?kwF ?kwN ?kwu ?kwr ?kwx ?kwy ?kwz ?_; (case kwF => k_asm); (case kwN => k_asm); (case kwu => k_upd); (case kwr => (first | exact RowAll.mono (by assumption) (by k_sub) | exact RowAll.cons (by (first | exact RowAt.mono (by assumption) (by k_sub) | exact ⟨_, _, _, _, _, _, _, rfl, by k_mem⟩)) RowAll.nil)); (case kwx => (first | assumption | omega | (simp only [List.length_append, List.length_cons, List.length_nil, List.length_take, List.length_drop, List.length_set]; omega))); (case kwy => (first | assumption | omega | (simp only [List.length_append, List.length_cons, List.length_nil, List.length_take, List.length_drop, List.length_set]; omega))); (case kwz => (first | assumption | omega | (simp only [List.length_append, List.length_cons, List.length_nil, List.length_take, List.length_drop, List.length_set]; omega))); k_whole); intro h' F' N'; (try k_sweep))
  k_with "compareOp Eq ref ref" => (k_here; (with_reducible show wpAny _ _ (compareOp CmpOp.Eq (Value.ref _) (Value.ref _)) _ _ _); k_dflt (refine' rows_eq ?kwN ?kwa ?kwb ?kwr ?kwq ?kwu ?_; (case kwN => k_asm); (case kwa => k_mem); (case kwb => k_mem); (case kwr => (first | exact RowAll.mono (by assumption) (by k_sub) | exact RowAll.cons (by (first | exact RowAt.mono (by assumption) (by k_sub) | exact ⟨_, _, _, _, _, _, _, rfl, by k_mem⟩)) RowAll.nil | exact RowAll.nil)); (case kwq => (first | exact RowAll.mono (by assumption) (by k_sub) | exact RowAll.cons (by (first | exact RowAt.mono (by assumption) (by k_sub) | exact ⟨_, _, _, _, _, _, _, rfl, by k_mem⟩)) RowAll.nil | exact RowAll.nil)); (case kwu => ktr_units); k_whole))
  k_with "compareOp NotEq ref ref" => (k_here; (with_reducible show wpAny _ _ (compareOp CmpOp.NotEq (Value.ref _) (Value.ref _)) _ _ _); k_dflt (refine' rows_ne ?kwN ?kwa ?kwb ?kwr ?kwq ?kwu ?_; (case kwN => k_asm); (case kwa => k_mem); (case kwb => k_mem); (case kwr => (first | exact RowAll.mono (by assumption) (by k_sub) | exact RowAll.cons (by (first | exact RowAt.mono (by assumption) (by k_sub) | exact ⟨_, _, _, _, _, _, _, rfl, by k_mem⟩)) RowAll.nil | exact RowAll.nil)); (case kwq => (first | exact RowAll.mono (by assumption) (by k_sub) | exact RowAll.cons (by (first | exact RowAt.mono (by assumption) (by k_sub) | exact ⟨_, _, _, _, _, _, _, rfl, by k_mem⟩)) RowAll.nil | exact RowAll.nil)); (case kwu => ktr_units); k_whole))
  trivial
set_option maxRecDepth 100000 in
set_option maxHeartbeats 8000000 in
theorem first_of_spec (w : World) (v : Value) (rs : List Row) : Spec w 160 2 [v] (fun news => RowsAt news v rs ∧ rs.length ≤ 60) (IntOut (firstOf rs)) := by
  unfold Spec
  k_fill
  intro p' loose mean mg mb dp un gd cn cs a ccd cl outer A₀ base h₀ L m news s Q E B F X N T hk hR hd hu hret
  obtain ⟨⟨a, vs, n, rfl, hm, hR⟩, hlen⟩ := hR
  refine wpAny_call ?_
  k_dflt ktr_enter
  k_steps
  · rename rs[Int.toNat 0]? = some _ => he
    have he' : rs[0]? = some _ := he
    refine hret _ [] _ _ (by k_asm) (by k_asm) (fun _ _ _ h => nomatch h) (intOut ?_)
    unfold firstOf
    rw [List.head?_eq_getElem?, he']
    rfl
  · rename ¬ _ => hc
    refine hret _ [] _ _ (by k_asm) (by k_asm) (fun _ _ _ h => nomatch h) (intOut ?_)
    cases rs with
    | nil => rfl
    | cons r rs => exact absurd (by simp only [List.length_cons]; omega) hc
theorem kw12 : True := by
  k_with "call ref" => (k_here; (with_reducible show wpAny _ _ (call (Value.ref 160) [_]) _ _ _); k_dflt (refine' spec_use (first_of_spec _ _ _) ?kwk1 ?kwk2 ?kwk3 ?kwk4 ?kwk5 ?kwkK ?kwkR ?kwkd ?kwku ?_; (case kwk1 => k_asm); (case kwk2 => k_asm); (case kwk3 => k_asm); (case kwk4 => k_asm); (case kwk5 => k_asm); (case kwkK => first | exact rfl | assumption); (case kwkR => (refine And.intro ?_ ?_; (first | exact RowsAt.mono (by assumption) (by k_sub) | exact ⟨_, _, _, rfl, by k_mem, RowAll.mono (by assumption) (by k_sub)⟩); (first | assumption | omega | (simp only [List.length_append, List.length_cons, List.length_nil, List.length_take, List.length_drop, List.length_set]; omega)))); (case kwkd => ktr_room); (case kwku => ktr_units)); intro r9 tl9 h9 tk9 F9 N9 hl9 ho9; (obtain ⟨e9, t8, e8⟩ := ho9; subst e9; subst e8; clear hl9); (try simp only [List.nil_append, List.cons_append] at N9); (try dsimp only); (try k_sweep); (try k_fold))
  trivial
theorem rowLt_better (a b : Row) : rowLt a b = better a b := by
  unfold rowLt better
  rw [Bool.eq_iff_iff]
  simp only [Bool.or_eq_true, Bool.and_eq_true, decide_eq_true_eq, beq_iff_eq]
  omega
set_option maxRecDepth 100000 in
set_option maxHeartbeats 8000000 in
theorem found_spec (w : World) (v : Value) (rs : List Row) : SpecT w 165 10 [v] (fun news => RowsAt news v rs ∧ rs.length ≤ 3 ∧ Ids rs) (PairAddOut (oneRound rs)) := by
  unfold SpecT
  k_fill
  intro p' loose mean mg mb dp un gd cn cs a ccd cl outer A₀ base h₀ L m news ps s Q E B F X N T hk hC hT hne hR hd hu hret
  obtain ⟨hR0, hlen, hids⟩ := hR
  obtain ⟨a, vs, n, rfl, hm, hR⟩ := hR0
  refine wpAny_call ?_
  k_dflt ktr_enter
  k_steps
  refine filter_src (fun r => decide (0 < r.pr)) (by rfl) (by k_asm) (by k_asm) (List.mem_cons_of_mem _ hm) (RowAll.mono hR fun _ h => List.mem_cons_of_mem _ h) (by omega) ?_ ?_
  · intro v r I oI C oC D m₂ h tk ys E' hv hC hx F' N' off ne
    obtain ⟨a, t1, t2, t3, t4, t5, n, rfl, hv⟩ := hv
    dsimp only
    k_steps
    all_goals first
      | (rename ¬ _ => hc; exact CompEnd.intro (by k_asm) (by k_asm) _ (fun _ h => h) off (.inr ⟨_, List.mem_cons_of_mem _ hm, rfl, _, rfl⟩) ⟨decide_eq_false hc, rfl⟩)
      | (rename (0 : Int) < _ => hc; exact CompEnd.intro (by k_asm) (by k_asm) _ (fun _ h => h) off (.inr ⟨_, List.mem_cons_of_mem _ hm, rfl, _, rfl⟩) ⟨⟨rfl, decide_eq_true hc⟩, rfl⟩)
  · intro g zs hz
    have hz2 : RowAll _ zs (canBe rs) := hz
    have hlen2 : (canBe rs).length ≤ 3 := Nat.le_trans (List.length_filter_le _ _) hlen
    clear hz
    have hz3 := hz2.strip strip_cons
    clear hz2
    k_steps
    refine Hold.out ?_
    rename News _ _ _ (_ :: _) => N1
    rename Fr _ _ _ _ => F1
    k_dflt refine lam_T rfl F1 N1 (by k_asm) (by kn_code) rfl ?_ hT hne rfl rfl rfl rfl ?_
    · rename 162 ≠ _ ∧ Off1 _ _ => ho
      exact ho.1
    intro f c' oc cvs ct ctv ps' add rest h2 tk2 F2 N2 hoc hcd hcq hD2 hP2 hsub hT2 hn1 hn2 hlt
    clear N1 F1
    have hz4 := RowAll.mono hz3 fun p hp => hsub p (List.mem_append_right _ hp)
    k_steps
    refine Hold.out ?_
    rename News _ _ _ (_ :: _) => N1
    rename Fr _ _ _ _ => F1
    ksk_show
    with_unfolding_all refine rows_sorted F1 N1 (List.mem_cons_of_mem _ hD2) (RowAll.mono hz4 fun p hp => List.mem_cons_of_mem _ hp) hlen2 (by ksk_a1) (fun x' => by ksk_a2) (fun x' => by ksk_a3) ?_ ?_
    · intro v r extra h2 tk2 C2 hv2 F2 N2 kf
      clear N1 F1
      generalize hall : extra ++ _ = all at N2 kf
      have hs := fun (p : Addr × Obj) (hp : p ∈ _) => hall.subst (motive := fun l => p ∈ l) (List.mem_append_right extra hp)
      clear hall
      have m1 := hs _ (List.Mem.head _)
      have m2 := hs _ (List.Mem.tail _ hoc)
      obtain ⟨a3, t1, t2, t3, t4, t5, n3, rfl, hm3⟩ := RowAt.mono hv2 hs
      clear hs hv2
      refine wpAny_call ?_
      k_dflt (refine' kla_code ?qk1 ?qk2 ?qk3 ?qk4 ?qk5 ?qkA ?qkF ?qkK ?qk6 ?qk7 ?qk8 ?qk9 ?qkB ?_ ?qc2 ?qc3 ?qc4 ?qc5; (case qkA => exact rfl); (case qkF => exact rfl); (case qkK => exact rfl); (case qk1 => k_asm); (case qk2 => k_asm); (case qk3 => k_asm); (case qk4 => k_asm); (case qk5 => k_asm); (case qk6 => k_mem); (case qk7 => exact codeRec_news (by k_asm) (by k_mem) (by assumption) (by assumption)); (case qk8 => ktr_room); (case qk9 => exact rfl); (case qc5 => decide); (case qkB => exact locs rfl); (case qc2 => exact rfl); (case qc3 => exact rfl); (case qc4 => exact rfl); k_whole; intro g' L' h' FG' F' N' B' X' T'; (try dsimp only); (try k_lift B'); (try k_fold))
      k_steps
      rename ∀ p ∈ all, _ => hl9
      exact kf _ _ _ _ _ _ (by k_asm) (by k_asm) (fun q hq => Nat.ne_of_gt (hl9 q hq))
    · intro D2 bs brs c2 h2 tk2 F2 N2 hD9 hb2 hp2 hs2
      clear N1 F1
      have hlen3 : brs.length ≤ 3 := by rw [hp2.length_eq]; exact hlen2
      refine (fun (rest2 : LedT) (hs : ∀ p ∈ rest, p ∈ rest2) (N3 : News _ _ _ ((D2, listOf bs.toArray c2) :: rest2)) (hb3 : RowAll rest2 bs brs) (hlt2 : ∀ q ∈ rest2, q.1 < D2) => ?_) _ (fun p hp => List.mem_cons_of_mem _ hp) N2 hb2 hD9
      clear N2 hb2 hD9
      k_steps
      refine filter_src (fun r => !saysD r) (by rfl) (by k_asm) (by k_asm) (List.Mem.head _) (RowAll.mono hb3 fun p hp => List.mem_cons_of_mem _ hp) (by omega) ?_ ?_
      · intro v r I oI C oC D m₂ h tk ys E' hv hC hx F' N' off ne
        obtain ⟨a, t1, t2, t3, t4, t5, n, rfl, hv⟩ := hv
        dsimp only
        k_steps
        all_goals first
          | (rename _ ≠ _ => hc; exact CompEnd.intro (by k_asm) (by k_asm) _ (fun _ h => h) off (.inr ⟨_, List.Mem.head _, rfl, _, rfl⟩) ⟨⟨rfl, by simp [saysD, hc]⟩, rfl⟩)
          | (rename Row.dr _ = _ => hc; exact CompEnd.intro (by k_asm) (by k_asm) _ (fun _ h => h) off (.inr ⟨_, List.Mem.head _, rfl, _, rfl⟩) ⟨by simp [saysD, hc], rfl⟩)
      · intro g2 zs2 hz2
        k_steps
        have hl4 : (brs.filter fun r => !saysD r).length ≤ 3 := Nat.le_trans (List.length_filter_le _ _) hlen3
        refine filter_src saysB (by rfl) (by k_asm) (by k_asm) (List.Mem.head _) (RowAll.mono hz2 fun p hp => List.mem_cons_of_mem _ hp) (by omega) ?_ ?_
        · intro v r I oI C oC D m₂ h tk ys E' hv hC hx F' N' off ne
          obtain ⟨a, t1, t2, t3, t4, t5, n, rfl, hv⟩ := hv
          dsimp only
          k_steps
          all_goals first
            | (rename _ ≠ _ => hc; exact CompEnd.intro (by k_asm) (by k_asm) _ (fun _ h => h) off (.inr ⟨_, List.Mem.head _, rfl, _, rfl⟩) ⟨by simp [saysB, hc], rfl⟩)
            | (rename Row.bk _ = _ => hc; exact CompEnd.intro (by k_asm) (by k_asm) _ (fun _ h => h) off (.inr ⟨_, List.Mem.head _, rfl, _, rfl⟩) ⟨⟨rfl, by simp [saysB, hc]⟩, rfl⟩)
        · intro g3 zs3 hz3
          have hl5 : ((brs.filter fun r => !saysD r).filter saysB).length ≤ 3 := Nat.le_trans (List.length_filter_le _ _) hl4
          k_steps
          clear hz2 hz3 hz4
          rename RowAll _ (zs3 ++ zs2) _ => hA9
          clear hA9
          refine filter_src (news := (D2, listOf bs.toArray c2) :: rest2) saysD (by rfl) (by k_asm) (cb_drop (by k_asm) (by k_sub)) (List.Mem.head _) (RowAll.mono hb3 fun p hp => List.mem_cons_of_mem _ hp) (by omega) ?_ ?_
          · intro v r I oI C oC D m₂ h tk ys E' hv hC hx F' N' off ne
            obtain ⟨a, t1, t2, t3, t4, t5, n, rfl, hv⟩ := hv
            dsimp only
            k_steps
            all_goals first
              | (rename _ ≠ _ => hc; exact CompEnd.intro (by k_asm) (by k_asm) _ (fun _ h => h) off (.inr ⟨_, List.Mem.head _, rfl, _, rfl⟩) ⟨by simp [saysD, hc], rfl⟩)
              | (rename Row.dr _ = _ => hc; exact CompEnd.intro (by k_asm) (by k_asm) _ (fun _ h => h) off (.inr ⟨_, List.Mem.head _, rfl, _, rfl⟩) ⟨⟨rfl, by simp [saysD, hc]⟩, rfl⟩)
          · intro g4 zs4 hz4
            have hl6 : (brs.filter saysD).length ≤ 3 := Nat.le_trans (List.length_filter_le _ _) hlen3
            have hs3 : brs.Pairwise fun a b => better b a = false := hs2.imp fun h => by rw [← rowLt_better]; exact h
            have hi3 : Ids (canBe rs) := ids_filter hids _
            have e1 := found_backup hp2 hs3 hi3
            have e2 := found_designated hp2 hs3 hi3 (chosenB (canBe rs))
            have hsub2 : ∀ p ∈ add ++ news, p ∈ rest2 := fun p hp => hs p (hsub p hp)
            have hP3 := hs _ hP2
            clear hs3 hi3 hs2 hids hR hm hsub hs hz3
            cases hq : brs.filter saysD with
            | nil =>
              rw [hq] at hz4 hl6 e2
              have e3 : chosenB (canBe rs) = chosenD (canBe rs) (chosenB (canBe rs)) := by simpa using e2
              k_steps
              rename _ ∧ _ ∧ _ ∧ AllLt _ _ => hx
              have hy := found_news (by k_asm) hx.2.2.2 (by k_sub) hP3 hsub2 hn1 hn2
              exact hret _ (_ :: add) ps' _ _ (by k_asm) hy.1 (hT2.imp id fun h => TabSt.mono h fun p hp => List.mem_cons_of_mem _ hp) hy.2.1 hy.2.2 (pairAddOut (e1.trans e3) e1)
            | cons q qs =>
              rw [hq] at hz4 hl6 e2
              have e3 : firstOf (q :: qs) = chosenD (canBe rs) (chosenB (canBe rs)) := by simpa using e2
              k_steps
              · rename decide (_ = []) = true => hc
                exact absurd hc (by simp)
              · rename (q :: qs)[Int.toNat 0]? = some _ => hr
                have hr' := Option.some.inj hr
                subst hr'
                rename _ ∧ _ ∧ _ ∧ AllLt _ _ => hx
                have hy := found_news (by k_asm) hx.2.2.2 (by k_sub) hP3 hsub2 hn1 hn2
                exact hret _ (_ :: add) ps' _ _ (by k_asm) hy.1 (hT2.imp id fun h => TabSt.mono h fun p hp => List.mem_cons_of_mem _ hp) hy.2.1 hy.2.2 (pairAddOut e3 e1)
-- F9
theorem kw13 : True := by
  k_with_none
  k_with "eval ListComp" => (k_here; lct_look; lcg_calm; k_dflt (refine LCt.ListComp_T (F₀ := by k_asm) (by with_unfolding_all rfl) (by decide) (by rfl) (by decide) (by rfl) ?_))
  k_with "exec Assign cons ListComp" => (k_here; lct_look; lcg_calm; k_dflt (refine LCt.Assign_ListComp_T (F₀ := by k_asm) (by rfl) (by with_unfolding_all rfl) (by with_unfolding_all rfl) (by decide) (by rfl) (by decide) (by rfl) (by rfl) (by rfl) ?_))
  k_with "subscriptTail" => (k_here; (with_reducible show wpAny _ _ (subscriptTail _ _ (Value.ref _) (Value.int _ _)) _ _ _); k_dflt (refine' item_tupleT ?kwt ?kwa ?kwb ?kwc ?kwd ?_; (case kwt => exact News.isTup (by k_asm) (by k_mem)); (case kwa => decide); (case kwb => decide); (case kwc => rfl); (case kwd => rfl); k_whole))
  k_with "kw mem" => (first | with_reducible assumption | (refine List.mem_append_right _ ?_; first | with_reducible assumption | (refine List.mem_cons_of_mem _ ?_; first | with_reducible assumption | (refine List.mem_cons_of_mem _ ?_; first | with_reducible assumption | (refine List.mem_cons_of_mem _ ?_; with_reducible assumption)))) | (refine List.mem_cons_of_mem _ ?_; first | with_reducible assumption | (refine List.mem_append_right _ ?_; first | with_reducible assumption | (refine List.mem_cons_of_mem _ ?_; first | with_reducible assumption | (refine List.mem_cons_of_mem _ ?_; first | with_reducible assumption | (refine List.mem_cons_of_mem _ ?_; with_reducible assumption)))) | (refine List.mem_cons_of_mem _ ?_; first | with_reducible assumption | (refine List.mem_append_right _ ?_; first | with_reducible assumption | (refine List.mem_cons_of_mem _ ?_; first | with_reducible assumption | (refine List.mem_cons_of_mem _ ?_; first | with_reducible assumption | (refine List.mem_cons_of_mem _ ?_; with_reducible assumption)))) | (refine List.mem_cons_of_mem _ ?_; first | with_reducible assumption | (refine List.mem_append_right _ ?_; first | with_reducible assumption | (refine List.mem_cons_of_mem _ ?_; first | with_reducible assumption | (refine List.mem_cons_of_mem _ ?_; first | with_reducible assumption | (refine List.mem_cons_of_mem _ ?_; with_reducible assumption)))) | (refine List.mem_cons_of_mem _ ?_; first | with_reducible assumption | (refine List.mem_append_right _ ?_; first | with_reducible assumption | (refine List.mem_cons_of_mem _ ?_; first | with_reducible assumption | (refine List.mem_cons_of_mem _ ?_; first | with_reducible assumption | (refine List.mem_cons_of_mem _ ?_; with_reducible assumption)))) | (refine List.mem_cons_of_mem _ ?_; first | with_reducible assumption | (refine List.mem_append_right _ ?_; first | with_reducible assumption | (refine List.mem_cons_of_mem _ ?_; first | with_reducible assumption | (refine List.mem_cons_of_mem _ ?_; first | with_reducible assumption | (refine List.mem_cons_of_mem _ ?_; with_reducible assumption)))) | (refine List.mem_cons_of_mem _ ?_; first | with_reducible assumption | (refine List.mem_append_right _ ?_; first | with_reducible assumption | (refine List.mem_cons_of_mem _ ?_; first | with_reducible assumption | (refine List.mem_cons_of_mem _ ?_; first | with_reducible assumption | (refine List.mem_cons_of_mem _ ?_; with_reducible assumption)))) | (refine List.mem_cons_of_mem _ ?_; first | with_reducible assumption | (refine List.mem_append_right _ ?_; first | with_reducible assumption | (refine List.mem_cons_of_mem _ ?_; first | with_reducible assumption | (refine List.mem_cons_of_mem _ ?_; first | with_reducible assumption | (refine List.mem_cons_of_mem _ ?_; with_reducible assumption)))) | (refine List.mem_cons_of_mem _ ?_; first | with_reducible assumption | (refine List.mem_append_right _ ?_; first | with_reducible assumption | (refine List.mem_cons_of_mem _ ?_; first | with_reducible assumption | (refine List.mem_cons_of_mem _ ?_; first | with_reducible assumption | (refine List.mem_cons_of_mem _ ?_; with_reducible assumption)))) | (refine List.mem_cons_of_mem _ ?_; first | with_reducible assumption | (refine List.mem_append_right _ ?_; first | with_reducible assumption | (refine List.mem_cons_of_mem _ ?_; first | with_reducible assumption | (refine List.mem_cons_of_mem _ ?_; first | with_reducible assumption | (refine List.mem_cons_of_mem _ ?_; with_reducible assumption)))) | (refine List.mem_cons_of_mem _ ?_; first | with_reducible assumption | (refine List.mem_append_right _ ?_; first | with_reducible assumption | (refine List.mem_cons_of_mem _ ?_; first | with_reducible assumption | (refine List.mem_cons_of_mem _ ?_; first | with_reducible assumption | (refine List.mem_cons_of_mem _ ?_; with_reducible assumption)))) | (refine List.mem_cons_of_mem _ ?_; first | with_reducible assumption | (refine List.mem_append_right _ ?_; first | with_reducible assumption | (refine List.mem_cons_of_mem _ ?_; first | with_reducible assumption | (refine List.mem_cons_of_mem _ ?_; first | with_reducible assumption | (refine List.mem_cons_of_mem _ ?_; with_reducible assumption)))) | (refine List.mem_cons_of_mem _ ?_; first | with_reducible assumption | (refine List.mem_append_right _ ?_; first | with_reducible assumption | (refine List.mem_cons_of_mem _ ?_; first | with_reducible assumption | (refine List.mem_cons_of_mem _ ?_; first | with_reducible assumption | (refine List.mem_cons_of_mem _ ?_; with_reducible assumption)))) | (refine List.mem_cons_of_mem _ ?_; first | with_reducible assumption | (refine List.mem_append_right _ ?_; first | with_reducible assumption | (refine List.mem_cons_of_mem _ ?_; first | with_reducible assumption | (refine List.mem_cons_of_mem _ ?_; first | with_reducible assumption | (refine List.mem_cons_of_mem _ ?_; with_reducible assumption)))) | (refine List.mem_cons_of_mem _ ?_; first | with_reducible assumption | (refine List.mem_append_right _ ?_; first | with_reducible assumption | (refine List.mem_cons_of_mem _ ?_; first | with_reducible assumption | (refine List.mem_cons_of_mem _ ?_; first | with_reducible assumption | (refine List.mem_cons_of_mem _ ?_; with_reducible assumption)))))))))))))))))))
  k_with "compareOp Gt ref ref" => (k_here; (with_reducible show wpAny _ _ (compareOp CmpOp.Gt (Value.ref _) (Value.ref _)) _ _ _); k_dflt (refine' gt_pair (x1 := _) ?kwu ?kwa ?kwb ?_; (case kwu => first | k_units | ktr_units); (case kwa => exact News.get (by k_asm) (by k_mem)); (case kwb => exact News.get (by k_asm) (by k_mem)); k_whole))
  k_with "call builtin:len" => (k_here; (with_reducible show wpAny _ _ (call (Value.builtin _) [Value.ref _]) _ _ _); k_dflt (refine' len_rows (vs := _) ?kwl ?kwr ?kwz ?_; (case kwl => exact News.isList (by k_asm) (by k_mem)); (case kwr => assumption); (case kwz => first | assumption | omega); k_whole))
  k_with "kw all" => with_reducible assumption
  k_with "call type:list" => (k_here; (with_reducible show wpAny _ _ (call (Value.type _) [Value.ref _]) _ _ _); k_dflt (refine' rows_copy ?kwF ?kwN ?kwm ?kwr ?kwz ?_; (case kwF => k_asm); (case kwN => k_asm); (case kwm => k_mem); (case kwr => (first | exact RowAll.mono (by assumption) (by k_sub) | exact RowAll.cons (by (first | exact RowAt.mono (by assumption) (by k_sub) | exact ⟨_, _, _, _, _, _, _, rfl, by k_mem⟩)) RowAll.nil)); (case kwz => (first | assumption | omega | (simp only [List.length_append, List.length_cons, List.length_nil, List.length_take, List.length_drop, List.length_set]; omega))); k_whole); intro D' c' h' F' N' l1 hA'; (try k_lt l1); (try k_sweep))
  k_with "binaryOp Add ref ref" => (k_here; (with_reducible show wpAny _ _ (binaryOp _ (Value.ref _) (Value.ref _)) _ _ _); k_dflt (refine' rows_add ?kwF ?kwN ?kwa ?kwb ?kwr ?kwq ?kwz ?kwy ?_; (case kwF => k_asm); (case kwN => k_asm); (case kwa => k_mem); (case kwb => k_mem); (case kwr => (first | exact RowAll.mono (by assumption) (by k_sub) | exact RowAll.cons (by (first | exact RowAt.mono (by assumption) (by k_sub) | exact ⟨_, _, _, _, _, _, _, rfl, by k_mem⟩)) RowAll.nil)); (case kwq => (first | exact RowAll.mono (by assumption) (by k_sub) | exact RowAll.cons (by (first | exact RowAt.mono (by assumption) (by k_sub) | exact ⟨_, _, _, _, _, _, _, rfl, by k_mem⟩)) RowAll.nil)); (case kwz => (first | assumption | omega | (simp only [List.length_append, List.length_cons, List.length_nil, List.length_take, List.length_drop, List.length_set]; omega))); (case kwy => (first | assumption | omega | (simp only [List.length_append, List.length_cons, List.length_nil, List.length_take, List.length_drop, List.length_set]; omega))); k_whole); intro D' h' F' N' l1 hA'; (try k_lt l1); (try k_sweep))
  k_with "subscriptTail Name Slice ref ref" => (k_here; (with_reducible show wpAny _ _ (subscriptTail _ (PySem.Expr.Slice _ _ none _) (Value.ref _) (Value.ref _)) _ _ _); k_dflt (refine' rows_upto ?kwF ?kwN ?kwm ?kwp ?kwq ?kwr ?kwz ?kwy ?_ ?kws ?kwt; (case kwF => k_asm); (case kwN => k_asm); (case kwm => k_mem); (case kwp => exact IsPart.none); (case kwq => exact IsPart.int _ _); (case kwr => (first | exact RowAll.mono (by assumption) (by k_sub) | exact RowAll.cons (by (first | exact RowAt.mono (by assumption) (by k_sub) | exact ⟨_, _, _, _, _, _, _, rfl, by k_mem⟩)) RowAll.nil)); (case kwz => (first | assumption | omega | (simp only [List.length_append, List.length_cons, List.length_nil, List.length_take, List.length_drop, List.length_set]; omega))); (case kwy => (first | assumption | omega | (simp only [List.length_append, List.length_cons, List.length_nil, List.length_take, List.length_drop, List.length_set]; omega))); (case kws => with_unfolding_all rfl); (case kwt => kmk_pure)); intro D' h' F' N' l1 hA'; (try k_lt l1); (try k_sweep))
  k_with "subscriptTail Name Slice ref ref" => (k_here; (with_reducible show wpAny _ _ (subscriptTail _ (PySem.Expr.Slice _ _ none _) (Value.ref _) (Value.ref _)) _ _ _); k_dflt (refine' rows_from ?kwF ?kwN ?kwm ?kwp ?kwq ?kwr ?kwz ?kwy ?_ ?kws ?kwt; (case kwF => k_asm); (case kwN => k_asm); (case kwm => k_mem); (case kwp => exact IsPart.int _ _); (case kwq => exact IsPart.none); (case kwr => (first | exact RowAll.mono (by assumption) (by k_sub) | exact RowAll.cons (by (first | exact RowAt.mono (by assumption) (by k_sub) | exact ⟨_, _, _, _, _, _, _, rfl, by k_mem⟩)) RowAll.nil)); (case kwz => (first | assumption | omega | (simp only [List.length_append, List.length_cons, List.length_nil, List.length_take, List.length_drop, List.length_set]; omega))); (case kwy => (first | assumption | omega | (simp only [List.length_append, List.length_cons, List.length_nil, List.length_take, List.length_drop, List.length_set]; omega))); (case kws => with_unfolding_all rfl); (case kwt => kmk_pure)); intro D' h' F' N' l1 hA'; (try k_lt l1); (try k_sweep))
  k_with "subscriptTail" => (k_here; (with_reducible show wpAny _ _ (subscriptTail _ _ (Value.ref _) (Value.int _ _)) _ _ _); k_dflt (refine' rows_item ?kwN ?kwm ?kwr ?kwx ?kwy ?kwz ?_ ?kws ?kwt; (case kwN => k_asm); (case kwm => k_mem); (case kwr => (first | exact RowAll.mono (by assumption) (by k_sub) | exact RowAll.cons (by (first | exact RowAt.mono (by assumption) (by k_sub) | exact ⟨_, _, _, _, _, _, _, rfl, by k_mem⟩)) RowAll.nil)); (case kwx => (first | assumption | omega | (simp only [List.length_append, List.length_cons, List.length_nil, List.length_take, List.length_drop, List.length_set]; omega))); (case kwy => (first | assumption | omega | (simp only [List.length_append, List.length_cons, List.length_nil, List.length_take, List.length_drop, List.length_set]; omega))); (case kwz => (first | assumption | omega | (simp only [List.length_append, List.length_cons, List.length_nil, List.length_take, List.length_drop, List.length_set]; omega))); (case kws => with_unfolding_all rfl); (case kwt => kmk_pure); k_whole); intro v' r' hv' hr' hA'; (have hA2' := hA'; obtain ⟨a9', t1', t2', t3', t4', t5', n9', e9', hm9'⟩ := hA2'; subst e9'))
  k_with "setItem ref int" => (k_here; (with_reducible show wpAny _ _ (setItem (Value.ref _) (Value.int _ _) _) _ _ _); k_dflt (refine' rows_set ?kwF ?kwN ?kwu ?kwr ?kwx ?kwy ?kwz ?_; (case kwF => k_asm); (case kwN => k_asm); (case kwu => k_upd); (case kwr => (first | exact RowAll.mono (by assumption) (by k_sub) | exact RowAll.cons (by (first | exact RowAt.mono (by assumption) (by k_sub) | exact ⟨_, _, _, _, _, _, _, rfl, by k_mem⟩)) RowAll.nil)); (case kwx => (first | assumption | omega | (simp only [List.length_append, List.length_cons, List.length_nil, List.length_take, List.length_drop, List.length_set]; omega))); (case kwy => (first | assumption | omega | (simp only [List.length_append, List.length_cons, List.length_nil, List.length_take, List.length_drop, List.length_set]; omega))); (case kwz => (first | assumption | omega | (simp only [List.length_append, List.length_cons, List.length_nil, List.length_take, List.length_drop, List.length_set]; omega))); k_whole); intro h' F' N'; (try k_sweep))
  k_with "subscriptTail Name Slice ref ref" => (k_here; (with_reducible show wpAny _ _ (subscriptTail _ (PySem.Expr.Slice _ _ none _) (Value.ref _) (Value.ref _)) _ _ _); k_dflt (refine' row_upto ?kwF ?kwN ?kwm ?_ ?kws ?kwt; (case kwF => k_asm); (case kwN => k_asm); (case kwm => k_mem); (case kws => with_unfolding_all rfl); (case kwt => kmk_pure)); intro D' h' F' N' l1; (try k_lt l1); (try k_sweep))
  k_with "subscriptTail Name Slice ref ref" => (k_here; (with_reducible show wpAny _ _ (subscriptTail _ (PySem.Expr.Slice _ _ none _) (Value.ref _) (Value.ref _)) _ _ _); k_dflt (refine' row_from ?kwF ?kwN ?kwm ?_ ?kws ?kwt; (case kwF => k_asm); (case kwN => k_asm); (case kwm => k_mem); (case kws => with_unfolding_all rfl); (case kwt => kmk_pure)); intro D' h' F' N' l1; (try k_lt l1); (try k_sweep))
  k_with "binaryOp Add ref ref" => (k_here; (with_reducible show wpAny _ _ (binaryOp _ (Value.ref _) (Value.ref _)) _ _ _); k_dflt (refine' trip_add ?kwF ?kwN ?kwa ?kwb ?_; (case kwF => k_asm); (case kwN => k_asm); (case kwa => k_mem); (case kwb => k_mem)); intro D' h' F' N' l1; (try k_lt l1); (try k_sweep))
  k_with "compareOp Eq ref ref" => (k_here; (with_reducible show wpAny _ _ (compareOp CmpOp.Eq (Value.ref _) (Value.ref _)) _ _ _); k_dflt (refine' rows_eq ?kwN ?kwa ?kwb ?kwr ?kwq ?kwu ?_; (case kwN => k_asm); (case kwa => k_mem); (case kwb => k_mem); (case kwr => (first | exact RowAll.mono (by assumption) (by k_sub) | exact RowAll.cons (by (first | exact RowAt.mono (by assumption) (by k_sub) | exact ⟨_, _, _, _, _, _, _, rfl, by k_mem⟩)) RowAll.nil | exact RowAll.nil)); (case kwq => (first | exact RowAll.mono (by assumption) (by k_sub) | exact RowAll.cons (by (first | exact RowAt.mono (by assumption) (by k_sub) | exact ⟨_, _, _, _, _, _, _, rfl, by k_mem⟩)) RowAll.nil | exact RowAll.nil)); (case kwu => ktr_units); k_whole))
  k_with "compareOp NotEq ref ref" => (k_here; (with_reducible show wpAny _ _ (compareOp CmpOp.NotEq (Value.ref _) (Value.ref _)) _ _ _); k_dflt (refine' rows_ne ?kwN ?kwa ?kwb ?kwr ?kwq ?kwu ?_; (case kwN => k_asm); (case kwa => k_mem); (case kwb => k_mem); (case kwr => (first | exact RowAll.mono (by assumption) (by k_sub) | exact RowAll.cons (by (first | exact RowAt.mono (by assumption) (by k_sub) | exact ⟨_, _, _, _, _, _, _, rfl, by k_mem⟩)) RowAll.nil | exact RowAll.nil)); (case kwq => (first | exact RowAll.mono (by assumption) (by k_sub) | exact RowAll.cons (by (first | exact RowAt.mono (by assumption) (by k_sub) | exact ⟨_, _, _, _, _, _, _, rfl, by k_mem⟩)) RowAll.nil | exact RowAll.nil)); (case kwu => ktr_units); k_whole))
  k_with "call ref" => (k_here; (with_reducible show wpAny _ _ (call (Value.ref 165) _) _ _ _); refine Hold.intro ?_)
  trivial
theorem ids_said {rs : List Row} {own : Row} {p : Int × Int} (h : Ids (rs ++ [own])) : Ids (rs ++ [withSaid own p]) := by
  unfold Ids at h ⊢
  rw [List.pairwise_append] at h ⊢
  refine ⟨h.1, List.pairwise_singleton _ _, fun a ha b hb => ?_⟩
  rw [List.mem_singleton.mp hb]
  exact h.2.2 a ha own (List.mem_singleton_self _)
set_option maxRecDepth 100000 in
set_option maxHeartbeats 8000000 in
theorem due_spec (w : World) (v u : Value) (rs : List Row) (own : Row) : SpecT w 172 14 [v, u] (fun news => RowsAt news v rs ∧ RowAt news u own ∧ rs.length ≤ 2 ∧ Ids (rs ++ [own])) (PairAddOut (elect rs own)) := by
  unfold SpecT
  k_fill
  intro p' loose mean mg mb dp un gd cn cs a ccd cl outer A₀ base h₀ L m news ps s Q E B F X N T hk hC hT hne hR hd hu hret
  obtain ⟨hR0, hown, hlen, hids⟩ := hR
  have hown2 := hown
  obtain ⟨a, vs, n, rfl, hm, hR⟩ := hR0
  obtain ⟨ao, o1, o2, o3, o4, o5, no, rfl, hmo⟩ := hown
  have hne2 : ∀ p ∈ news, p.1 ≠ 162 := fun p hp e => hne p hp e.symm
  refine wpAny_call ?_
  k_dflt ktr_enter
  k_steps
  refine Hold.out ?_
  rename RowAll _ (vs ++ _) _ => hA
  k_dflt (refine' spect_go (found_spec _ _ (rs ++ [own])) ?zk1u1 ?zk2u1 ?zk3u1 ?zk4u1 ?zk5u1 ?zkKu1 ?zkCu1 ?zkUu1 ?zkTu1 ?zkRu1 ?zkdu1 ?zkuu1 ?_)
  case zk1u1 => k_asm
  case zk2u1 => k_asm
  case zk3u1 => k_asm
  case zk4u1 => k_asm
  case zk5u1 => k_asm
  case zkKu1 => first | exact rfl | assumption
  case zkCu1 => assumption
  case zkUu1 => k_updF
  case zkTu1 => exact TabSt.mono (by assumption) (by k_sub)
  case zkdu1 => ktr_room
  case zkuu1 => ktr_units
  · intro rest hs
    exact ⟨RowsAt.strip ⟨_, _, _, rfl, by k_mem, RowAll.mono hA (by k_sub)⟩ hs, by simp; omega, hids⟩
  intro r tl ps' rest h' tk' F' N' hT' hp h162 hstrip hin hfr ho
  obtain ⟨D9, t8, t7, n9, add, rfl, rfl⟩ := ho
  have hin2 : ∀ p ∈ news, p ∈ rest := hstrip.sub (by k_sub) hne
  have hfr2 : ∀ q ∈ news, ∀ p ∈ (D9, pairObj (oneRound (rs ++ [own])) t8 t7 n9) :: add, @Ne Nat p.1 q.1 := fun q hq => hfr q (by k_mem)
  have h162' := Kept.mk fun p hp => h162 p (List.mem_append_left _ hp)
  have hfr2' := Kept.mk hfr2
  have hsx := Kept.mk (fun p hp => hp : ∀ p ∈ ((D9, pairObj (oneRound (rs ++ [own])) t8 t7 n9) :: add) ++ rest, p ∈ ((D9, pairObj (oneRound (rs ++ [own])) t8 t7 n9) :: add) ++ rest)
  have hin3 := Kept.mk hin2
  refine (fun (all2 : LedT) (N2 : News _ _ _ ((162, tabObj ps') :: all2)) (hT2 : TabSt all2 ps') (hn162 : ∀ p ∈ all2, p.1 ≠ 162) (hpm : (D9, pairObj (oneRound (rs ++ [own])) t8 t7 n9) ∈ all2) (hm2 : (a, listOf vs.toArray n) ∈ all2) (hmo2 : (ao, rowObj own o1 o2 o3 o4 o5 no) ∈ all2) (hR2 : RowAll all2 vs rs) (hsy : Kept (∀ p ∈ ((D9, pairObj (oneRound (rs ++ [own])) t8 t7 n9) :: add) ++ rest, p ∈ all2)) => ?_)
    _ N' hT' (fun p hp e => h162 p hp e.symm) (List.Mem.head _) (List.mem_append_right _ (hin2 _ hm)) (List.mem_append_right _ (hin2 _ hmo)) (hR.mono fun p hp => List.mem_append_right _ (hin2 p hp)) hsx
  clear hA h162 hfr hfr2 hstrip hin hin2 hT' N' hsx hT
  k_steps
  · rename (_ && _) = true => hc
    have he : elect rs own = oneRound (rs ++ [own]) := by unfold elect; rw [turned_of hc]; rfl
    refine hret _ ((D9, pairObj (oneRound (rs ++ [own])) t8 t7 n9) :: add) ps' _ _ (by k_asm) (sub_news (by k_asm) (by k_mem) ?_) hp h162'.out hfr2'.out ⟨D9, t8, t7, n9, add, by rw [he], rfl⟩
    exact forall_app (fun p hp => List.mem_cons_of_mem _ (List.mem_cons_of_mem _ (List.mem_cons_of_mem _ (hsy.out p (List.mem_append_left _ hp))))) (fun p hp => List.mem_cons_of_mem _ (List.mem_cons_of_mem _ (List.mem_cons_of_mem _ (hsy.out p (List.mem_append_right _ (hin3.out p hp))))))
  · refine Hold.out ?_
    rename (_ && _) = false => hc
    have he : elect rs own = oneRound (rs ++ [withSaid own (oneRound (rs ++ [own]))]) := by unfold elect; rw [turned_of hc]; rfl
    rename RowAll _ (vs ++ _) _ => hA
    k_dflt (refine' spect_go (found_spec _ _ (rs ++ [withSaid own (oneRound (rs ++ [own]))])) ?zk1u2 ?zk2u2 ?zk3u2 ?zk4u2 ?zk5u2 ?zkKu2 ?zkCu2 ?zkUu2 ?zkTu2 ?zkRu2 ?zkdu2 ?zkuu2 ?_)
    case zk1u2 => k_asm
    case zk2u2 => k_asm
    case zk3u2 => k_asm
    case zk4u2 => k_asm
    case zk5u2 => k_asm
    case zkKu2 => first | exact rfl | assumption
    case zkCu2 => assumption
    case zkUu2 => k_updF
    case zkTu2 => exact TabSt.mono (by assumption) (by k_sub)
    case zkdu2 => ktr_room
    case zkuu2 => ktr_units
    · intro rest hs
      exact ⟨RowsAt.strip ⟨_, _, _, rfl, by k_mem, RowAll.mono hA (by k_sub)⟩ hs, by simp; omega, ids_said hids⟩
    intro r tl ps2 rest2 h2 tk2 F2 N2 hT3 hp2 h1622 hstrip2 hin22 hfr3 ho
    obtain ⟨D8, t6, t5, n8, add2, rfl, rfl⟩ := ho
    have hall : ∀ p ∈ all2, p ∈ rest2 := hstrip2.sub (by k_sub) (fun q hq e => hn162 q hq e.symm)
    have hnall : ∀ p ∈ news, p ∈ all2 := fun p hp => hsy.out p (List.mem_append_right _ (hin3.out p hp))
    have hfr4 : ∀ q ∈ news, ∀ p ∈ (D8, pairObj (oneRound (rs ++ [withSaid own (oneRound (rs ++ [own]))])) t6 t5 n8) :: add2, @Ne Nat p.1 q.1 := fun q hq => hfr3 q (by have h9 := hnall q hq; k_mem)
    clear hA hfr3 hT2
    k_steps
    refine hret _ (((D8, pairObj (oneRound (rs ++ [withSaid own (oneRound (rs ++ [own]))])) t6 t5 n8) :: add2) ++ ((D9, pairObj (oneRound (rs ++ [own])) t8 t7 n9) :: add)) ps2 _ _ (by k_asm) (sub_news (by k_asm) (List.Mem.head _) ?_)
      (tabSt_then hp hp2) (forall_app (fun p hp => h1622 p (List.mem_append_left _ hp)) h162'.out) (fun q hq => forall_app (hfr4 q hq) (hfr2'.out q hq)) ⟨D8, t6, t5, n8, _, by rw [he]; rfl, rfl⟩
    exact forall_app (forall_app (fun p hp => List.mem_cons_of_mem _ (List.mem_append_left _ hp)) (fun p hp => List.mem_cons_of_mem _ (List.mem_append_right _ (hall p (hsy.out p (List.mem_append_left _ hp)))))) (fun p hp => List.mem_cons_of_mem _ (List.mem_append_right _ (hall p (hnall p hp))))
-- F10
theorem kw14 : True := by
  k_with_none
  k_with "eval ListComp" => (k_here; lct_look; lcg_calm; k_dflt (refine LCt.ListComp_T (F₀ := by k_asm) (by with_unfolding_all rfl) (by decide) (by rfl) (by decide) (by rfl) ?_))
  k_with "exec Assign cons ListComp" => (k_here; lct_look; lcg_calm; k_dflt (refine LCt.Assign_ListComp_T (F₀ := by k_asm) (by rfl) (by with_unfolding_all rfl) (by with_unfolding_all rfl) (by decide) (by rfl) (by decide) (by rfl) (by rfl) (by rfl) ?_))
  k_with "subscriptTail" => (k_here; (with_reducible show wpAny _ _ (subscriptTail _ _ (Value.ref _) (Value.int _ _)) _ _ _); k_dflt (refine' item_tupleT ?kwt ?kwa ?kwb ?kwc ?kwd ?_; (case kwt => exact News.isTup (by k_asm) (by k_mem)); (case kwa => decide); (case kwb => decide); (case kwc => rfl); (case kwd => rfl); k_whole))
  k_with "kw mem" => (first | with_reducible assumption | (refine List.mem_append_right _ ?_; first | with_reducible assumption | (refine List.mem_cons_of_mem _ ?_; first | with_reducible assumption | (refine List.mem_cons_of_mem _ ?_; first | with_reducible assumption | (refine List.mem_cons_of_mem _ ?_; with_reducible assumption)))) | (refine List.mem_cons_of_mem _ ?_; first | with_reducible assumption | (refine List.mem_append_right _ ?_; first | with_reducible assumption | (refine List.mem_cons_of_mem _ ?_; first | with_reducible assumption | (refine List.mem_cons_of_mem _ ?_; first | with_reducible assumption | (refine List.mem_cons_of_mem _ ?_; with_reducible assumption)))) | (refine List.mem_cons_of_mem _ ?_; first | with_reducible assumption | (refine List.mem_append_right _ ?_; first | with_reducible assumption | (refine List.mem_cons_of_mem _ ?_; first | with_reducible assumption | (refine List.mem_cons_of_mem _ ?_; first | with_reducible assumption | (refine List.mem_cons_of_mem _ ?_; with_reducible assumption)))) | (refine List.mem_cons_of_mem _ ?_; first | with_reducible assumption | (refine List.mem_append_right _ ?_; first | with_reducible assumption | (refine List.mem_cons_of_mem _ ?_; first | with_reducible assumption | (refine List.mem_cons_of_mem _ ?_; first | with_reducible assumption | (refine List.mem_cons_of_mem _ ?_; with_reducible assumption)))) | (refine List.mem_cons_of_mem _ ?_; first | with_reducible assumption | (refine List.mem_append_right _ ?_; first | with_reducible assumption | (refine List.mem_cons_of_mem _ ?_; first | with_reducible assumption | (refine List.mem_cons_of_mem _ ?_; first | with_reducible assumption | (refine List.mem_cons_of_mem _ ?_; with_reducible assumption)))) | (refine List.mem_cons_of_mem _ ?_; first | with_reducible assumption | (refine List.mem_append_right _ ?_; first | with_reducible assumption | (refine List.mem_cons_of_mem _ ?_; first | with_reducible assumption | (refine List.mem_cons_of_mem _ ?_; first | with_reducible assumption | (refine List.mem_cons_of_mem _ ?_; with_reducible assumption)))) | (refine List.mem_cons_of_mem _ ?_; first | with_reducible assumption | (refine List.mem_append_right _ ?_; first | with_reducible assumption | (refine List.mem_cons_of_mem _ ?_; first | with_reducible assumption | (refine List.mem_cons_of_mem _ ?_; first | with_reducible assumption | (refine List.mem_cons_of_mem _ ?_; with_reducible assumption)))) | (refine List.mem_cons_of_mem _ ?_; first | with_reducible assumption | (refine List.mem_append_right _ ?_; first | with_reducible assumption | (refine List.mem_cons_of_mem _ ?_; first | with_reducible assumption | (refine List.mem_cons_of_mem _ ?_; first | with_reducible assumption | (refine List.mem_cons_of_mem _ ?_; with_reducible assumption)))) | (refine List.mem_cons_of_mem _ ?_; first | with_reducible assumption | (refine List.mem_append_right _ ?_; first | with_reducible assumption | (refine List.mem_cons_of_mem _ ?_; first | with_reducible assumption | (refine List.mem_cons_of_mem _ ?_; first | with_reducible assumption | (refine List.mem_cons_of_mem _ ?_; with_reducible assumption)))) | (refine List.mem_cons_of_mem _ ?_; first | with_reducible assumption | (refine List.mem_append_right _ ?_; first | with_reducible assumption | (refine List.mem_cons_of_mem _ ?_; first | with_reducible assumption | (refine List.mem_cons_of_mem _ ?_; first | with_reducible assumption | (refine List.mem_cons_of_mem _ ?_; with_reducible assumption)))) | (refine List.mem_cons_of_mem _ ?_; first | with_reducible assumption | (refine List.mem_append_right _ ?_; first | with_reducible assumption | (refine List.mem_cons_of_mem _ ?_; first | with_reducible assumption | (refine List.mem_cons_of_mem _ ?_; first | with_reducible assumption | (refine List.mem_cons_of_mem _ ?_; with_reducible assumption)))) | (refine List.mem_cons_of_mem _ ?_; first | with_reducible assumption | (refine List.mem_append_right _ ?_; first | with_reducible assumption | (refine List.mem_cons_of_mem _ ?_; first | with_reducible assumption | (refine List.mem_cons_of_mem _ ?_; first | with_reducible assumption | (refine List.mem_cons_of_mem _ ?_; with_reducible assumption)))) | (refine List.mem_cons_of_mem _ ?_; first | with_reducible assumption | (refine List.mem_append_right _ ?_; first | with_reducible assumption | (refine List.mem_cons_of_mem _ ?_; first | with_reducible assumption | (refine List.mem_cons_of_mem _ ?_; first | with_reducible assumption | (refine List.mem_cons_of_mem _ ?_; with_reducible assumption)))) | (refine List.mem_cons_of_mem _ ?_; first | with_reducible assumption | (refine List.mem_append_right _ ?_; first | with_reducible assumption | (refine List.mem_cons_of_mem _ ?_; first | with_reducible assumption | (refine List.mem_cons_of_mem _ ?_; first | with_reducible assumption | (refine List.mem_cons_of_mem _ ?_; with_reducible assumption)))) | (refine List.mem_cons_of_mem _ ?_; first | with_reducible assumption | (refine List.mem_append_right _ ?_; first | with_reducible assumption | (refine List.mem_cons_of_mem _ ?_; first | with_reducible assumption | (refine List.mem_cons_of_mem _ ?_; first | with_reducible assumption | (refine List.mem_cons_of_mem _ ?_; with_reducible assumption)))))))))))))))))))
  k_with "compareOp Gt ref ref" => (k_here; (with_reducible show wpAny _ _ (compareOp CmpOp.Gt (Value.ref _) (Value.ref _)) _ _ _); k_dflt (refine' gt_pair (x1 := _) ?kwu ?kwa ?kwb ?_; (case kwu => first | k_units | ktr_units); (case kwa => exact News.get (by k_asm) (by k_mem)); (case kwb => exact News.get (by k_asm) (by k_mem)); k_whole))
  k_with "call builtin:len" => (k_here; (with_reducible show wpAny _ _ (call (Value.builtin _) [Value.ref _]) _ _ _); k_dflt (refine' len_rows (vs := _) ?kwl ?kwr ?kwz ?_; (case kwl => exact News.isList (by k_asm) (by k_mem)); (case kwr => assumption); (case kwz => first | assumption | omega); k_whole))
  k_with "pyIter ref" => (k_here; (with_reducible show wpAny _ _ (pyIter (Value.ref _)) (fun it s₂ => LoopAtV _ _ _ _ _ _ _ _ _ it s₂) _ _); refine Hold.intro ?_)
  k_with "kw all" => with_reducible assumption
  k_with "call type:list" => (k_here; (with_reducible show wpAny _ _ (call (Value.type _) [Value.ref _]) _ _ _); k_dflt (refine' rows_copy ?kwF ?kwN ?kwm ?kwr ?kwz ?_; (case kwF => k_asm); (case kwN => k_asm); (case kwm => k_mem); (case kwr => (first | exact RowAll.mono (by assumption) (by k_sub) | exact RowAll.cons (by (first | exact RowAt.mono (by assumption) (by k_sub) | exact ⟨_, _, _, _, _, _, _, rfl, by k_mem⟩)) RowAll.nil)); (case kwz => (first | assumption | omega | (simp only [List.length_append, List.length_cons, List.length_nil, List.length_take, List.length_drop, List.length_set]; omega))); k_whole); intro D' c' h' F' N' l1 hA'; (try k_lt l1); (try k_sweep))
  k_with "binaryOp Add ref ref" => (k_here; (with_reducible show wpAny _ _ (binaryOp _ (Value.ref _) (Value.ref _)) _ _ _); k_dflt (refine' rows_add ?kwF ?kwN ?kwa ?kwb ?kwr ?kwq ?kwz ?kwy ?_; (case kwF => k_asm); (case kwN => k_asm); (case kwa => k_mem); (case kwb => k_mem); (case kwr => (first | exact RowAll.mono (by assumption) (by k_sub) | exact RowAll.cons (by (first | exact RowAt.mono (by assumption) (by k_sub) | exact ⟨_, _, _, _, _, _, _, rfl, by k_mem⟩)) RowAll.nil)); (case kwq => (first | exact RowAll.mono (by assumption) (by k_sub) | exact RowAll.cons (by (first | exact RowAt.mono (by assumption) (by k_sub) | exact ⟨_, _, _, _, _, _, _, rfl, by k_mem⟩)) RowAll.nil)); (case kwz => (first | assumption | omega | (simp only [List.length_append, List.length_cons, List.length_nil, List.length_take, List.length_drop, List.length_set]; omega))); (case kwy => (first | assumption | omega | (simp only [List.length_append, List.length_cons, List.length_nil, List.length_take, List.length_drop, List.length_set]; omega))); k_whole); intro D' h' F' N' l1 hA'; (try k_lt l1); (try k_sweep))
  k_with "subscriptTail Name Slice ref ref" => (k_here; (with_reducible show wpAny _ _ (subscriptTail _ (PySem.Expr.Slice _ _ none _) (Value.ref _) (Value.ref _)) _ _ _); k_dflt (refine' rows_upto ?kwF ?kwN ?kwm ?kwp ?kwq ?kwr ?kwz ?kwy ?_ ?kws ?kwt; (case kwF => k_asm); (case kwN => k_asm); (case kwm => k_mem); (case kwp => exact IsPart.none); (case kwq => exact IsPart.int _ _); (case kwr => (first | exact RowAll.mono (by assumption) (by k_sub) | exact RowAll.cons (by (first | exact RowAt.mono (by assumption) (by k_sub) | exact ⟨_, _, _, _, _, _, _, rfl, by k_mem⟩)) RowAll.nil)); (case kwz => (first | assumption | omega | (simp only [List.length_append, List.length_cons, List.length_nil, List.length_take, List.length_drop, List.length_set]; omega))); (case kwy => (first | assumption | omega | (simp only [List.length_append, List.length_cons, List.length_nil, List.length_take, List.length_drop, List.length_set]; omega))); (case kws => with_unfolding_all rfl); (case kwt => kmk_pure)); intro D' h' F' N' l1 hA'; (try k_lt l1); (try k_sweep))
  k_with "subscriptTail Name Slice ref ref" => (k_here; (with_reducible show wpAny _ _ (subscriptTail _ (PySem.Expr.Slice _ _ none _) (Value.ref _) (Value.ref _)) _ _ _); k_dflt (refine' rows_from ?kwF ?kwN ?kwm ?kwp ?kwq ?kwr ?kwz ?kwy ?_ ?kws ?kwt; (case kwF => k_asm); (case kwN => k_asm); (case kwm => k_mem); (case kwp => exact IsPart.int _ _); (case kwq => exact IsPart.none); (case kwr => (first | exact RowAll.mono (by assumption) (by k_sub) | exact RowAll.cons (by (first | exact RowAt.mono (by assumption) (by k_sub) | exact ⟨_, _, _, _, _, _, _, rfl, by k_mem⟩)) RowAll.nil)); (case kwz => (first | assumption | omega | (simp only [List.length_append, List.length_cons, List.length_nil, List.length_take, List.length_drop, List.length_set]; omega))); (case kwy => (first | assumption | omega | (simp only [List.length_append, List.length_cons, List.length_nil, List.length_take, List.length_drop, List.length_set]; omega))); (case kws => with_unfolding_all rfl); (case kwt => kmk_pure)); intro D' h' F' N' l1 hA'; (try k_lt l1); (try k_sweep))
  k_with "subscriptTail" => (k_here; (with_reducible show wpAny _ _ (subscriptTail _ _ (Value.ref _) (Value.int _ _)) _ _ _); k_dflt (refine' rows_item ?kwN ?kwm ?kwr ?kwx ?kwy ?kwz ?_ ?kws ?kwt; (case kwN => k_asm); (case kwm => k_mem); (case kwr => (first | exact RowAll.mono (by assumption) (by k_sub) | exact RowAll.cons (by (first | exact RowAt.mono (by assumption) (by k_sub) | exact ⟨_, _, _, _, _, _, _, rfl, by k_mem⟩)) RowAll.nil)); (case kwx => (first | assumption | omega | (simp only [List.length_append, List.length_cons, List.length_nil, List.length_take, List.length_drop, List.length_set]; omega))); (case kwy => (first | assumption | omega | (simp only [List.length_append, List.length_cons, List.length_nil, List.length_take, List.length_drop, List.length_set]; omega))); (case kwz => (first | assumption | omega | (simp only [List.length_append, List.length_cons, List.length_nil, List.length_take, List.length_drop, List.length_set]; omega))); (case kws => with_unfolding_all rfl); (case kwt => kmk_pure); k_whole); intro v' r' hv' hr' hA'; (have hA2' := hA'; obtain ⟨a9', t1', t2', t3', t4', t5', n9', e9', hm9'⟩ := hA2'; subst e9'))
  k_with "setItem ref int" => (k_here; (with_reducible show wpAny _ _ (setItem (Value.ref _) (Value.int _ _) _) _ _ _); k_dflt (refine' rows_set ?kwF ?kwN ?kwu ?kwr ?kwx ?kwy ?kwz ?_; (case kwF => k_asm); (case kwN => k_asm); (case kwu => k_upd); (case kwr => (first | exact RowAll.mono (by assumption) (by k_sub) | exact RowAll.cons (by (first | exact RowAt.mono (by assumption) (by k_sub) | exact ⟨_, _, _, _, _, _, _, rfl, by k_mem⟩)) RowAll.nil)); (case kwx => (first | assumption | omega | (simp only [List.length_append, List.length_cons, List.length_nil, List.length_take, List.length_drop, List.length_set]; omega))); (case kwy => (first | assumption | omega | (simp only [List.length_append, List.length_cons, List.length_nil, List.length_take, List.length_drop, List.length_set]; omega))); (case kwz => (first | assumption | omega | (simp only [List.length_append, List.length_cons, List.length_nil, List.length_take, List.length_drop, List.length_set]; omega))); k_whole); intro h' F' N'; (try k_sweep))
  k_with "subscriptTail Name Slice ref ref" => (k_here; (with_reducible show wpAny _ _ (subscriptTail _ (PySem.Expr.Slice _ _ none _) (Value.ref _) (Value.ref _)) _ _ _); k_dflt (refine' row_upto ?kwF ?kwN ?kwm ?_ ?kws ?kwt; (case kwF => k_asm); (case kwN => k_asm); (case kwm => k_mem); (case kws => with_unfolding_all rfl); (case kwt => kmk_pure)); intro D' h' F' N' l1; (try k_lt l1); (try k_sweep))
  k_with "subscriptTail Name Slice ref ref" => (k_here; (with_reducible show wpAny _ _ (subscriptTail _ (PySem.Expr.Slice _ _ none _) (Value.ref _) (Value.ref _)) _ _ _); k_dflt (refine' row_from ?kwF ?kwN ?kwm ?_ ?kws ?kwt; (case kwF => k_asm); (case kwN => k_asm); (case kwm => k_mem); (case kws => with_unfolding_all rfl); (case kwt => kmk_pure)); intro D' h' F' N' l1; (try k_lt l1); (try k_sweep))
  k_with "binaryOp Add ref ref" => (k_here; (with_reducible show wpAny _ _ (binaryOp _ (Value.ref _) (Value.ref _)) _ _ _); k_dflt (refine' trip_add ?kwF ?kwN ?kwa ?kwb ?_; (case kwF => k_asm); (case kwN => k_asm); (case kwa => k_mem); (case kwb => k_mem)); intro D' h' F' N' l1; (try k_lt l1); (try k_sweep))
  k_with "compareOp Eq ref ref" => (k_here; (with_reducible show wpAny _ _ (compareOp CmpOp.Eq (Value.ref _) (Value.ref _)) _ _ _); k_dflt (refine' rows_eq ?kwN ?kwa ?kwb ?kwr ?kwq ?kwu ?_; (case kwN => k_asm); (case kwa => k_mem); (case kwb => k_mem); (case kwr => (first | exact RowAll.mono (by assumption) (by k_sub) | exact RowAll.cons (by (first | exact RowAt.mono (by assumption) (by k_sub) | exact ⟨_, _, _, _, _, _, _, rfl, by k_mem⟩)) RowAll.nil | exact RowAll.nil)); (case kwq => (first | exact RowAll.mono (by assumption) (by k_sub) | exact RowAll.cons (by (first | exact RowAt.mono (by assumption) (by k_sub) | exact ⟨_, _, _, _, _, _, _, rfl, by k_mem⟩)) RowAll.nil | exact RowAll.nil)); (case kwu => ktr_units); k_whole))
  k_with "compareOp NotEq ref ref" => (k_here; (with_reducible show wpAny _ _ (compareOp CmpOp.NotEq (Value.ref _) (Value.ref _)) _ _ _); k_dflt (refine' rows_ne ?kwN ?kwa ?kwb ?kwr ?kwq ?kwu ?_; (case kwN => k_asm); (case kwa => k_mem); (case kwb => k_mem); (case kwr => (first | exact RowAll.mono (by assumption) (by k_sub) | exact RowAll.cons (by (first | exact RowAt.mono (by assumption) (by k_sub) | exact ⟨_, _, _, _, _, _, _, rfl, by k_mem⟩)) RowAll.nil | exact RowAll.nil)); (case kwq => (first | exact RowAll.mono (by assumption) (by k_sub) | exact RowAll.cons (by (first | exact RowAt.mono (by assumption) (by k_sub) | exact ⟨_, _, _, _, _, _, _, rfl, by k_mem⟩)) RowAll.nil | exact RowAll.nil)); (case kwu => ktr_units); k_whole))
  k_with "call ref" => (k_here; (with_reducible show wpAny _ _ (call (Value.ref 172) _) _ _ _); refine Hold.intro ?_)
  trivial
theorem due_at (w : World) (v u : Value) (rs : List Row) {o : Option Row} {own : Row} (_ : o = some own) : SpecT w 172 14 [v, u] (fun news => RowsAt news v rs ∧ RowAt news u own ∧ rs.length ≤ 2 ∧ Ids (rs ++ [own])) (PairAddOut (elect rs own)) := due_spec w v u rs own
set_option maxRecDepth 100000 in
set_option maxHeartbeats 8000000 in
theorem round_spec (w : World) (v : Value) (rs : List Row) : SpecT w 179 22 [v] (fun news => RowsAt news v rs ∧ rs.length ≤ 3 ∧ Ids rs) (fun tl r => RowsFresh (toldRound rs) [] tl r) := by
  unfold SpecT
  k_fill
  intro p' loose mean mg mb dp un gd cn cs a ccd cl outer A₀ base h₀ L m news ps s Q E B F X N T hk hC hT hne hR hd hu hret
  obtain ⟨hR0, hlen, hids⟩ := hR
  obtain ⟨a, vs, n, rfl, hm, hR⟩ := hR0
  have hne2 : ∀ p ∈ news, p.1 ≠ 162 := fun p hp e => hne p hp e.symm
  refine wpAny_call ?_
  k_dflt ktr_enter
  k_steps
  refine Hold.out ?_
  rename IsRange _ _ _ _ _ _ _ _ => hr
  rename Fr _ _ _ _ => lF'
  rename News _ _ _ _ => lN'
  rename RowAll _ _ _ => hA
  rename 162 < _ ∧ AllLt _ news => hlt
  have hlt2 := allLt_get hlt.2
  have hD1 := Nat.ne_of_lt hlt.1
  clear hA
  refine rows_loopT tellAt (by rfl) hr (by omega) lF' (news_swap lN') hR hlt2 hT hne hD1 ?_ ?_
  · intro i ws c' cur t ps1 all h tk hi hcur hA2 hnD hn162 hT1 F₁ N₁
    have hlc : cur.length = rs.length := hcur ▸ told_length rs _ rs rfl
    have hic : Ids cur := hcur ▸ ids_map (told_ids _ rs) hids
    clear hr hlt lF' lN' hlt2 hR hm hT hne
    k_steps
    refine Hold.out ?_
    rename RowAll _ (_ ++ _) _ => hA
    rename cur[Int.toNat ↑i]? = some _ => hr2
    k_dflt (refine' spect_go (due_at _ _ _ (cur.take (i : Int).toNat ++ cur.drop ((i : Int) + 1).toNat) hr2) ?zk1u3 ?zk2u3 ?zk3u3 ?zk4u3 ?zk5u3 ?zkKu3 ?zkCu3 ?zkUu3 ?zkTu3 ?zkRu3 ?zkdu3 ?zkuu3 ?_)
    case zk1u3 => k_asm
    case zk2u3 => k_asm
    case zk3u3 => k_asm
    case zk4u3 => k_asm
    case zk5u3 => k_asm
    case zkKu3 => first | exact rfl | assumption
    case zkCu3 => assumption
    case zkUu3 => k_updF
    case zkTu3 => exact TabSt.mono (by assumption) (by k_sub)
    case zkdu3 => ktr_room
    case zkuu3 => ktr_units
    · intro rest hs
      exact ⟨RowsAt.strip ⟨_, _, _, rfl, by k_mem, RowAll.mono hA (by k_sub)⟩ hs, RowAt.strip (RowAt.mono (by assumption) (by k_sub)) hs, len_splitI hlc hi hlen, ids_splitI hic hr2⟩
    intro r tl ps2 rest h2 tk2 F2 N2 hT3 hp2 h1622 hstrip hin hfr ho
    obtain ⟨D9, t8, t7, n9, add, rfl, rfl⟩ := ho
    have hall : ∀ p ∈ all, p ∈ rest := hstrip.sub (by k_sub) (fun q hq e => hn162 q hq e.symm)
    have m1 := hstrip.mem (o := listOf ws.toArray c') (by k_mem) (by simp)
    have m2 := hstrip.mem (o := tripObj _ _ _ _) (by k_mem) (by simp)
    have N3 := turn_news N2 m1 m2 hall
    have hfrD := hfr (_, listOf ws.toArray c') (by k_mem)
    have hfrA : ∀ p ∈ (D9, pairObj (elect (cur.take (Int.toNat ↑i) ++ cur.drop (Int.toNat (↑i + 1))) _) t8 t7 n9) :: add, ∀ q ∈ all, @Ne Nat p.1 q.1 := fun p hp q hq => hfr q (by k_mem) p hp
    have hDn := hfrD _ (List.Mem.head _)
    have hDa := forall_app' hnD fun p hp => hfrD p (List.Mem.tail _ hp)
    have hA3 : RowAll (add ++ all) ws cur := hA2.mono fun p hp => List.mem_append_right _ hp
    have hx1 := Kept.mk hfrD
    have hx2 := Kept.mk hfrA
    have hx3 := Kept.mk fun p hp => h1622 p (List.mem_append_left _ hp)
    simp only [List.cons_append] at N3
    dsimp only at hDn
    clear hA hfr hstrip hin hT3 N2 hall m1 m2 hfrD hfrA h1622 hA2 hT1
    k_steps
    show RtEnd _ _ _ _ _ _ _ _ _ _ _ _ _
    rename _ ∧ _ ∧ _ ∧ _ ∧ AllLt _ (add ++ all) => hW
    have hWall := allLt_get hW.2.2.2.2
    refine rt_close (tl := (D9, pairObj _ _ _ _) :: add) (by k_asm) (by k_asm) (by k_mem) (by k_mem) (by k_mem) (fun p hp => List.mem_cons_of_mem _ (List.mem_cons_of_mem _ (List.mem_cons_of_mem _ (List.mem_cons_of_mem _ hp)))) (Nat.ne_of_gt hW.2.1) (Nat.ne_of_lt hW.1) (fun q hq => Nat.ne_of_gt (hWall q (List.mem_append_right _ hq))) hx1.out hx3.out hx2.out hp2 (tell_eq (by assumption) hr2) ?_
    intro z h1
    exact if_neg h1
  · intro ws c' u ps1 junk h tk hA1 hlw hjn hnD hn162 hps F₁ N₁
    rw [told_length rs _ rs rfl] at hlw
    rw [List.take_of_length_le (by omega), List.take_of_length_le (by rw [told_length rs _ rs rfl]; omega)] at hA1
    clear hr hlt lF' lN' hlt2 hR hm hT hne
    k_steps
    refine hret _ (_ :: junk) _ _ _ (by k_asm) (by k_asm) (hps.imp id fun k => k.mono fun p hp => List.mem_cons_of_mem _ hp) ?_ ?_ ⟨_, _, _, junk, rfl, rfl, hA1⟩
    · intro p hp
      rcases List.mem_cons.mp hp with rfl | hp
      · exact hD1
      · exact hn162 p (List.mem_append_left _ hp)
    · intro q hq p hp
      rcases List.mem_cons.mp hp with rfl | hp
      · exact fun e => hnD q (List.mem_append_right _ hq) e.symm
      · exact hjn p hp q hq
-- F11
theorem kw15 : True := by
  k_with_none
  k_with "eval ListComp" => (k_here; lct_look; lcg_calm; k_dflt (refine LCt.ListComp_T (F₀ := by k_asm) (by with_unfolding_all rfl) (by decide) (by rfl) (by decide) (by rfl) ?_))
  k_with "exec Assign cons ListComp" => (k_here; lct_look; lcg_calm; k_dflt (refine LCt.Assign_ListComp_T (F₀ := by k_asm) (by rfl) (by with_unfolding_all rfl) (by with_unfolding_all rfl) (by decide) (by rfl) (by decide) (by rfl) (by rfl) (by rfl) ?_))
  k_with "subscriptTail" => (k_here; (with_reducible show wpAny _ _ (subscriptTail _ _ (Value.ref _) (Value.int _ _)) _ _ _); k_dflt (refine' item_tupleT ?kwt ?kwa ?kwb ?kwc ?kwd ?_; (case kwt => exact News.isTup (by k_asm) (by k_mem)); (case kwa => decide); (case kwb => decide); (case kwc => rfl); (case kwd => rfl); k_whole))
  k_with "kw mem" => (first | with_reducible assumption | (refine List.mem_append_right _ ?_; first | with_reducible assumption | (refine List.mem_cons_of_mem _ ?_; first | with_reducible assumption | (refine List.mem_cons_of_mem _ ?_; first | with_reducible assumption | (refine List.mem_cons_of_mem _ ?_; with_reducible assumption)))) | (refine List.mem_cons_of_mem _ ?_; first | with_reducible assumption | (refine List.mem_append_right _ ?_; first | with_reducible assumption | (refine List.mem_cons_of_mem _ ?_; first | with_reducible assumption | (refine List.mem_cons_of_mem _ ?_; first | with_reducible assumption | (refine List.mem_cons_of_mem _ ?_; with_reducible assumption)))) | (refine List.mem_cons_of_mem _ ?_; first | with_reducible assumption | (refine List.mem_append_right _ ?_; first | with_reducible assumption | (refine List.mem_cons_of_mem _ ?_; first | with_reducible assumption | (refine List.mem_cons_of_mem _ ?_; first | with_reducible assumption | (refine List.mem_cons_of_mem _ ?_; with_reducible assumption)))) | (refine List.mem_cons_of_mem _ ?_; first | with_reducible assumption | (refine List.mem_append_right _ ?_; first | with_reducible assumption | (refine List.mem_cons_of_mem _ ?_; first | with_reducible assumption | (refine List.mem_cons_of_mem _ ?_; first | with_reducible assumption | (refine List.mem_cons_of_mem _ ?_; with_reducible assumption)))) | (refine List.mem_cons_of_mem _ ?_; first | with_reducible assumption | (refine List.mem_append_right _ ?_; first | with_reducible assumption | (refine List.mem_cons_of_mem _ ?_; first | with_reducible assumption | (refine List.mem_cons_of_mem _ ?_; first | with_reducible assumption | (refine List.mem_cons_of_mem _ ?_; with_reducible assumption)))) | (refine List.mem_cons_of_mem _ ?_; first | with_reducible assumption | (refine List.mem_append_right _ ?_; first | with_reducible assumption | (refine List.mem_cons_of_mem _ ?_; first | with_reducible assumption | (refine List.mem_cons_of_mem _ ?_; first | with_reducible assumption | (refine List.mem_cons_of_mem _ ?_; with_reducible assumption)))) | (refine List.mem_cons_of_mem _ ?_; first | with_reducible assumption | (refine List.mem_append_right _ ?_; first | with_reducible assumption | (refine List.mem_cons_of_mem _ ?_; first | with_reducible assumption | (refine List.mem_cons_of_mem _ ?_; first | with_reducible assumption | (refine List.mem_cons_of_mem _ ?_; with_reducible assumption)))) | (refine List.mem_cons_of_mem _ ?_; first | with_reducible assumption | (refine List.mem_append_right _ ?_; first | with_reducible assumption | (refine List.mem_cons_of_mem _ ?_; first | with_reducible assumption | (refine List.mem_cons_of_mem _ ?_; first | with_reducible assumption | (refine List.mem_cons_of_mem _ ?_; with_reducible assumption)))) | (refine List.mem_cons_of_mem _ ?_; first | with_reducible assumption | (refine List.mem_append_right _ ?_; first | with_reducible assumption | (refine List.mem_cons_of_mem _ ?_; first | with_reducible assumption | (refine List.mem_cons_of_mem _ ?_; first | with_reducible assumption | (refine List.mem_cons_of_mem _ ?_; with_reducible assumption)))) | (refine List.mem_cons_of_mem _ ?_; first | with_reducible assumption | (refine List.mem_append_right _ ?_; first | with_reducible assumption | (refine List.mem_cons_of_mem _ ?_; first | with_reducible assumption | (refine List.mem_cons_of_mem _ ?_; first | with_reducible assumption | (refine List.mem_cons_of_mem _ ?_; with_reducible assumption)))) | (refine List.mem_cons_of_mem _ ?_; first | with_reducible assumption | (refine List.mem_append_right _ ?_; first | with_reducible assumption | (refine List.mem_cons_of_mem _ ?_; first | with_reducible assumption | (refine List.mem_cons_of_mem _ ?_; first | with_reducible assumption | (refine List.mem_cons_of_mem _ ?_; with_reducible assumption)))) | (refine List.mem_cons_of_mem _ ?_; first | with_reducible assumption | (refine List.mem_append_right _ ?_; first | with_reducible assumption | (refine List.mem_cons_of_mem _ ?_; first | with_reducible assumption | (refine List.mem_cons_of_mem _ ?_; first | with_reducible assumption | (refine List.mem_cons_of_mem _ ?_; with_reducible assumption)))) | (refine List.mem_cons_of_mem _ ?_; first | with_reducible assumption | (refine List.mem_append_right _ ?_; first | with_reducible assumption | (refine List.mem_cons_of_mem _ ?_; first | with_reducible assumption | (refine List.mem_cons_of_mem _ ?_; first | with_reducible assumption | (refine List.mem_cons_of_mem _ ?_; with_reducible assumption)))) | (refine List.mem_cons_of_mem _ ?_; first | with_reducible assumption | (refine List.mem_append_right _ ?_; first | with_reducible assumption | (refine List.mem_cons_of_mem _ ?_; first | with_reducible assumption | (refine List.mem_cons_of_mem _ ?_; first | with_reducible assumption | (refine List.mem_cons_of_mem _ ?_; with_reducible assumption)))) | (refine List.mem_cons_of_mem _ ?_; first | with_reducible assumption | (refine List.mem_append_right _ ?_; first | with_reducible assumption | (refine List.mem_cons_of_mem _ ?_; first | with_reducible assumption | (refine List.mem_cons_of_mem _ ?_; first | with_reducible assumption | (refine List.mem_cons_of_mem _ ?_; with_reducible assumption)))))))))))))))))))
  k_with "compareOp Gt ref ref" => (k_here; (with_reducible show wpAny _ _ (compareOp CmpOp.Gt (Value.ref _) (Value.ref _)) _ _ _); k_dflt (refine' gt_pair (x1 := _) ?kwu ?kwa ?kwb ?_; (case kwu => first | k_units | ktr_units); (case kwa => exact News.get (by k_asm) (by k_mem)); (case kwb => exact News.get (by k_asm) (by k_mem)); k_whole))
  k_with "call builtin:len" => (k_here; (with_reducible show wpAny _ _ (call (Value.builtin _) [Value.ref _]) _ _ _); k_dflt (refine' len_rows (vs := _) ?kwl ?kwr ?kwz ?_; (case kwl => exact News.isList (by k_asm) (by k_mem)); (case kwr => assumption); (case kwz => first | assumption | omega); k_whole))
  k_with "kw all" => with_reducible assumption
  trivial
theorem kw16 : True := by
  k_with "call builtin:len" => (k_here; (with_reducible show wpAny _ _ (call (Value.builtin _) [Value.ref _]) _ _ _); k_dflt (refine' len_ints_fit (ns := _) ?kwk1 ?kwk2 ?kwk3 ?_; (case kwk1 => exact News.isList (by k_asm) (by k_mem)); (case kwk2 => assumption); (case kwk3 => omega); k_whole))
  trivial
abbrev penObj (l0 : Addr) (k S : Int) (t1 t2 : Tok) (n : Nat) : Obj := listOf #[.ref l0, .int k t1, .int S t2] n
/-- one draw of the pen -/
def PickSpec (w : World) : Prop :=
  ∀ (p : Program) (loose : List Str) (mean : ExcName → Option Value) (mg mb : Str → Option Value)
    (dp un : Nat) (gd : Option (List Code)) (cn : Str) (cs : Scope) (a : Addr) (ccd : Value) (cl : List (Str × Addr)) (outer : List Env) (A₀ : Around) (base h₀ : Heap) (L : Addr) (m : Str → Option Value) (news : LedT) (P l0 : Addr) (k S many : Int) (t1 t2 tm : Tok) (n c : Nat) (vs : List Value) (ns : List Int) (s : Shared)
    (Q E : Value → Shared → Prop),
    Below A₀ base outer h₀ → Fr h₀ L s.heap m → Frag.In (Mine.hd.heap_39 w.params) h₀ → News h₀ L s.heap ((P, penObj l0 k S t1 t2 n) :: news) → Top p loose mean mg mb h₀ → cs.kind = .function → (∀ p ∈ news, p.1 ≠ P) →
    (l0, listOf vs.toArray c) ∈ news → IntsAre vs ns → ns.length ≤ 64 → 0 ≤ k → k ≤ 1000 → 0 < many → dp + 2 < recursionLimit → un + 16 < cLine →
    (∀ v t u1 n' h' tk', 0 ≤ v → v < many → Fr h₀ L h' m → News h₀ L h' ((P, penObj l0 (k + 1) S u1 t2 n') :: news) → Q (.int v t) { s with heap := h', toks := tk' }) →
    wpAny (model (RowW.prog (OpenRow.toRowW (OpenLaw.row PySem.Challenge.rw_rh0201_01))) w) (ktrTop dp un gd cn cs L a ccd cl outer) (call (.ref 153) [.ref P, .int many tm]) Q E s
set_option maxRecDepth 100000 in
set_option maxHeartbeats 8000000 in
theorem pick_spec (w : World) : PickSpec w := by
  unfold PickSpec
  k_fill
  intro p' loose mean mg mb dp un gd cn cs a ccd cl outer A₀ base h₀ L m news P l0 k S many t1 t2 tm n c vs ns s Q E B F X N T hk hne hl hi hln hk0 hk1 hm0 hd hu hret
  refine wpAny_call ?_
  k_dflt ktr_enter
  k_steps
  all_goals exact hret _ _ _ _ _ _ (Int.fmod_nonneg_of_pos _ hm0) (Int.fmod_lt_of_pos _ hm0) (by k_asm) (by k_asm)
theorem pick_go {w : World} {p : Program} {loose : List Str} {mean : ExcName → Option Value} {mg mb : Str → Option Value}
    {dp un : Nat} {gd : Option (List Code)} {cn : Str} {cs : Scope} {a : Addr} {ccd : Value} {cl : List (Str × Addr)} {outer : List Env} {A₀ : Around} {base h₀ : Heap} {L : Addr} {m : Str → Option Value} {all : LedT} {g : Obj → LedT} {P l0 : Addr} {k S many : Int} {t1 t2 tm : Tok} {n c : Nat} {vs : List Value} {ns : List Int} {s : Shared}
    {Q E : Value → Shared → Prop}
    (B : Below A₀ base outer h₀) (F : Fr h₀ L s.heap m) (X : Frag.In (Mine.hd.heap_39 w.params) h₀) (N : News h₀ L s.heap all) (T : Top p loose mean mg mb h₀) (hk : cs.kind = .function) (U : UpdF P (penObj l0 k S t1 t2 n) all g)
    (hl : (l0, listOf vs.toArray c) ∈ all) (hne : @Ne Nat l0 P) (hi : IntsAre vs ns) (hln : ns.length ≤ 64) (hk0 : 0 ≤ k) (hk1 : k ≤ 1000) (hm0 : 0 < many) (hd : dp + 2 < recursionLimit) (hu : un + 16 < cLine)
    (ret : ∀ v t u1 n' h' tk', 0 ≤ v → v < many → Fr h₀ L h' m → News h₀ L h' (g (penObj l0 (k + 1) S u1 t2 n')) → Q (.int v t) { s with heap := h', toks := tk' }) :
    wpAny (model (RowW.prog (OpenRow.toRowW (OpenLaw.row PySem.Challenge.rw_rh0201_01))) w) (ktrTop dp un gd cn cs L a ccd cl outer) (call (.ref 153) [.ref P, .int many tm]) Q E s := by
  obtain ⟨pre, post, e, hg, h1, h2⟩ := U.split
  have hmem : (P, penObj l0 k S t1 t2 n) ∈ all := by rw [e]; exact List.mem_append_right _ (.head _)
  have hin : ∀ p ∈ pre ++ post, p ∈ all := fun p hp => by
    rw [e]
    rcases List.mem_append.mp hp with hp | hp
    · exact List.mem_append_left _ hp
    · exact List.mem_append_right _ (.tail _ hp)
  have hl' : (l0, listOf vs.toArray c) ∈ pre ++ post := by
    rw [e] at hl
    rcases List.mem_append.mp hl with q | q
    · exact List.mem_append_left _ q
    · rcases List.mem_cons.mp q with q | q
      · exact absurd (congrArg (·.1) q) hne
      · exact List.mem_append_right _ q
  refine pick_spec w p loose mean mg mb dp un gd cn cs a ccd cl outer A₀ base h₀ L m (pre ++ post) P l0 k S many t1 t2 tm n c vs ns s Q E B F X (fun q hq => ?_) T hk (forall_app h1 h2) hl' hi hln hk0 hk1 hm0 hd hu fun v t u1 n' h' tk' v0 v1 F' N' => ret v t u1 n' h' tk' v0 v1 F' ?_
  · rcases List.mem_cons.mp hq with rfl | hq
    · exact N _ hmem
    · exact N _ (hin _ hq)
  · rw [hg]
    intro q hq
    rcases List.mem_append.mp hq with hq | hq
    · exact N' _ (.tail _ (List.mem_append_left _ hq))
    · rcases List.mem_cons.mp hq with rfl | hq
      · exact N' _ (.head _)
      · exact N' _ (.tail _ (List.mem_append_right _ hq))
-- Law1
section
set_option maxRecDepth 100000
def BuiltFrom (first : Int) : Nat → List Row → Prop
  | _, [] => True
  | j, r :: rs => (r.id = 1 + (first + 3 * (j : Int)).fmod 7 ∧ r.ad = 11 + (j : Int) ∧ 0 ≤ r.pr ∧ r.pr < 3) ∧ BuiltFrom first (j + 1) rs
theorem BuiltFrom.snoc {first : Int} {r : Row} : ∀ {rs : List Row} {j : Nat}, BuiltFrom first j rs → r.id = 1 + (first + 3 * ((j + rs.length : Nat) : Int)).fmod 7 → r.ad = 11 + ((j + rs.length : Nat) : Int) → 0 ≤ r.pr → r.pr < 3 → BuiltFrom first j (rs ++ [r])
  | [], j, _, h1, h2, h3, h4 => ⟨⟨by simpa using h1, by simpa using h2, h3, h4⟩, trivial⟩
  | q :: rs, j, h, h1, h2, h3, h4 => by
    refine ⟨h.1, BuiltFrom.snoc h.2 ?_ ?_ h3 h4⟩
    · have e : j + 1 + rs.length = j + (q :: rs).length := by simp only [List.length_cons]; omega
      rw [e]; exact h1
    · have e : j + 1 + rs.length = j + (q :: rs).length := by simp only [List.length_cons]; omega
      rw [e]; exact h2

theorem sh1 {α : Type} {a b c : α} {j o s : List α} : ∀ p ∈ a :: b :: c :: ((j ++ o) ++ s), p ∈ (a :: b :: c :: (j ++ s)) ++ o := by
  intro p hp
  simp only [List.mem_append, List.mem_cons] at hp ⊢
  rcases hp with hp | hp | hp | (hp | hp) | hp <;> simp [hp]
theorem sh2 {α : Type} {a b c w : α} {j o s : List α} : ∀ p ∈ a :: b :: c :: ((w :: j) ++ s), p ∈ a :: b :: c :: w :: ((j ++ o) ++ s) := by
  intro p hp
  simp only [List.mem_append, List.mem_cons] at hp ⊢
  rcases hp with hp | hp | hp | (hp | hp) | hp <;> simp [hp]
theorem sh3 {α : Type} {a b c w : α} {j o s : List α} : ∀ p ∈ o, p ∈ a :: b :: c :: w :: ((j ++ o) ++ s) := by
  intro p hp
  simp [hp]
theorem sh4 {α : Type} {t r p x l y a m q z : α} : ∀ e ∈ a :: p :: r :: [l, m, q, z], e ∈ [t, r, p, x, l, y, a, m, q, z] := by
  intro e he
  simp only [List.mem_cons, List.not_mem_nil, or_false] at he ⊢
  rcases he with he | he | he | he | he | he | he <;> simp [he]
theorem sh5 {α : Type} {l m q z : α} : ∀ e ∈ [l, m, q], e ∈ [l, m, q, z] := by
  intro e he
  simp only [List.mem_cons, List.not_mem_nil, or_false] at he ⊢
  rcases he with he | he | he <;> simp [he]
theorem sh6 {α : Type} {p r z a l m q : α} {j : List α} : ∀ e ∈ p :: r :: z :: (j ++ [l, m, q]), e ∈ a :: p :: r :: (j ++ [l, m, q, z]) := by
  intro e he
  simp only [List.mem_append, List.mem_cons, List.not_mem_nil, or_false] at he ⊢
  rcases he with he | he | he | he | he | he | he <;> simp [he]
section
variable {prog : Program} {w : World} {A : Around} {E : Value → Shared → Prop} {s : Shared} {env : Env} {h₀ : Heap} {x : Str} {px : Pos} {body : List Stmt} {Q : Flow → Shared → Prop}
abbrev Led1 (aA P R l0 : Addr) (oA : Obj) (k S : Int) (u t2 : Tok) (n : Nat) (vs : List Value) (c : Nat) (rest : LedT) : LedT := (aA, oA) :: (P, penObj l0 k S u t2 n) :: (R, listOf vs.toArray c) :: rest
def Off (l : LedT) (aA P R : Addr) (base : LedT) : Prop := ∀ p ∈ l, @Ne Nat p.1 aA ∧ @Ne Nat p.1 P ∧ @Ne Nat p.1 R ∧ ∀ q ∈ base, @Ne Nat p.1 q.1

def L1End (h₀ : Heap) (L aA P R l0 : Addr) (S : Int) (t2 : Tok) (y : Str) (m₀ : Str → Option Value) (rest : LedT) (first : Int) (i : Nat) (vs : List Value) (s₁ s₂ : Shared) : Prop :=
  ∃ (h' : Heap) (tk : Nat) (oA : Obj) (v : Option Value) (k : Int) (u : Tok) (n : Nat) (W : Addr) (r : Row) (t1 t2' t3 t4 t5 : Tok) (nr c : Nat) (m' : Str → Option Value), s₂ = { s₁ with heap := h', toks := tk } ∧ Fr h₀ L h' m' ∧
    News h₀ L h' (Led1 aA P R l0 oA k S u t2 n (vs ++ [.ref W]) c ((W, rowObj r t1 t2' t3 t4 t5 nr) :: rest)) ∧ oA.data = .cell v ∧ 0 ≤ k ∧ k ≤ 10 * ((i : Int) + 1) + 2 ∧
    @Ne Nat W aA ∧ @Ne Nat W P ∧ @Ne Nat W R ∧ (∀ p ∈ rest, @Ne Nat W p.1) ∧ r.id = 1 + (first + 3 * (i : Int)).fmod 7 ∧ r.ad = 11 + (i : Int) ∧ 0 ≤ r.pr ∧ r.pr < 3 ∧ ∀ z, z ≠ y → m' z = m₀ z
def L1Post (h₀ : Heap) (L aA P R l0 : Addr) (S : Int) (t2 : Tok) (y : Str) (m₀ : Str → Option Value) (rest : LedT) (first : Int) (i : Nat) (vs : List Value) (s₁ : Shared) (Q : Flow → Shared → Prop) (f : Flow) (s₂ : Shared) : Prop :=
  match f with
  | .ret v => Q (.ret v) s₂
  | .brk => Q .next s₂
  | _ => L1End h₀ L aA P R l0 S t2 y m₀ rest first i vs s₁ s₂

def L1J (aA P R l0 : Addr) (S : Int) (t2 : Tok) (y : Str) (m₀ : Str → Option Value) (base : LedT) (first : Int) (i : Nat) (m : Str → Option Value) (nx : LedT) : Prop :=
  ∃ (oA : Obj) (v : Option Value) (k : Int) (u : Tok) (n : Nat) (vs : List Value) (c : Nat) (rs : List Row) (junk : LedT), nx = Led1 aA P R l0 oA k S u t2 n vs c (junk ++ base) ∧ oA.data = .cell v ∧ 0 ≤ k ∧ k ≤ 10 * (i : Int) + 2 ∧
    RowAll junk vs rs ∧ rs.length = i ∧ BuiltFrom first 0 rs ∧ Off junk aA P R base ∧ ∀ z, z ≠ y → m z = m₀ z

/-- the loop that builds the rows -/
theorem build_loop {r aA P R l0 : Addr} {S first k₀ : Int} {u₀ t₂ : Tok} {n₀ c₀ : Nat} {oA₀ : Obj} {vA₀ : Option Value} {y : Str} {many : Nat} {base all₀ : LedT} {m₀ : Str → Option Value} {t₀ u₁ w₀ : Tok} {b : Int}
    (hh : A.handled = none) (hb : b = (many : Int)) (hr : IsRange s.heap r 0 b 1 t₀ u₁ w₀) (hz : many ≤ 64) (F : Fr h₀ env.locals s.heap m₀) (N : News h₀ env.locals s.heap all₀)
    (hin : ∀ p ∈ Led1 aA P R l0 oA₀ k₀ S u₀ t₂ n₀ [] c₀ base, p ∈ all₀) (hbase : Off base aA P R []) (hA : oA₀.data = .cell vA₀) (hk0 : 0 ≤ k₀) (hk1 : k₀ ≤ 2)
    (turn : ∀ (i : Nat) (t : Tok) (oA : Obj) (v : Option Value) (k : Int) (u : Tok) (n : Nat) (vs : List Value) (c : Nat) (rs : List Row) (rest : LedT) (uu : Option Value) (h : Heap) (tk : Nat), i < many → oA.data = .cell v → 0 ≤ k → k ≤ 10 * (i : Int) + 2 → RowAll rest vs rs → rs.length = i → Off rest aA P R [] → (∀ p ∈ base, p ∈ rest) →
      Fr h₀ env.locals h (fun z => if z = y then uu else m₀ z) → News h₀ env.locals h (Led1 aA P R l0 oA k S u t₂ n vs c rest) →
      wpAny (model prog w) A (assign (.Name x px) env (.int (i : Int) t)) (fun _ s₃ => wpAny (model prog w) A (execs body env) (L1Post h₀ env.locals aA P R l0 S t₂ y m₀ rest first i vs { s with heap := h, toks := tk } Q) E s₃) E { s with heap := h, toks := tk })
    (done : ∀ (oA : Obj) (v : Option Value) (k : Int) (u : Tok) (n : Nat) (vs : List Value) (c : Nat) (rs : List Row) (junk : LedT) (uu : Option Value) (h : Heap) (tk : Nat), oA.data = .cell v → 0 ≤ k → k ≤ 10 * (many : Int) + 2 → RowAll junk vs rs → rs.length = many → BuiltFrom first 0 rs → Off junk aA P R base →
      Fr h₀ env.locals h (fun z => if z = y then uu else m₀ z) → News h₀ env.locals h (Led1 aA P R l0 oA k S u t₂ n vs c (junk ++ base)) → Q .next { s with heap := h, toks := tk }) :
    wpAny (model prog w) A (pyIter (.ref r)) (fun it s₂ => TurnsAt prog w A h₀ env (.Name x px) body Q E it s₂) E s := by
  subst hb
  have keep : ∀ (m : Str → Option Value), (∀ z, z ≠ y → m z = m₀ z) → m = fun z => if z = y then m y else m₀ z := by
    intro m hm
    funext z
    by_cases h1 : z = y
    · simp [h1]
    · simp only [if_neg h1]; exact hm z h1
  refine cell_range (fun i m nx => L1J aA P R l0 S t₂ y m₀ base first i m nx) (n := many) hh hr (range_small hz) ?_ F (fun p hp => N p (hin p hp))
    ⟨oA₀, vA₀, k₀, u₀, n₀, [], c₀, [], [], rfl, hA, hk0, by omega, .nil, rfl, trivial, (fun p hp => absurd hp List.not_mem_nil), fun _ _ => rfl⟩ ?_ ?_
  · rw [rangeSize_nat]; simp
  · rintro i k' t m₁ nx h tk own hk hoff ⟨oA, v, k, u, n, vs, c, rs, junk, rfl, hA1, hk1, hk2, hR, hl, hB, hO, hm⟩ F₁ N₁
    have hi : i < many := by
      have := (List.getElem?_eq_some_iff.mp hk).1
      rwa [rangeKs_length] at this
    have hk' : k' = (i : Int) := by
      unfold rangeKs at hk
      rw [List.getElem?_map, List.getElem?_range hi] at hk
      have := Option.some.inj hk
      rw [← this]; exact Int.zero_add _
    subst hk'
    rw [keep m₁ hm] at F₁
    have hO2 : Off (junk ++ own) aA P R base := fun p hp => by
      rcases List.mem_append.mp hp with hp | hp
      · exact hO p hp
      · exact ⟨hoff p hp (aA, oA) (.head _), hoff p hp (P, penObj l0 k S u t₂ n) (.tail _ (.head _)), hoff p hp (R, listOf vs.toArray c) (.tail _ (.tail _ (.head _))), fun q hq => hoff p hp q (.tail _ (.tail _ (.tail _ (List.mem_append_right _ hq))))⟩
    have N₂ : News h₀ env.locals h (Led1 aA P R l0 oA k S u t₂ n vs c ((junk ++ own) ++ base)) := fun p hp => N₁ p (sh1 p hp)
    have hO3 : Off ((junk ++ own) ++ base) aA P R [] := fun p hp => by
      rcases List.mem_append.mp hp with hp | hp
      · have h := hO2 p hp
        exact ⟨h.1, h.2.1, h.2.2.1, fun q hq => absurd hq List.not_mem_nil⟩
      · exact hbase p hp
    refine wpAny_mono (turn i t oA v k u n vs c rs ((junk ++ own) ++ base) (m₁ y) h tk hi hA1 hk1 hk2 (hR.mono fun p hp => by simp [hp]) hl hO3 (fun p hp => List.mem_append_right _ hp) F₁ N₂) (fun _ s₃ h₃ => wpAny_mono h₃ (fun f s₂ p => ?_) fun _ _ e => e) fun _ _ e => e
    have fin : L1End h₀ env.locals aA P R l0 S t₂ y m₀ ((junk ++ own) ++ base) first i vs { s with heap := h, toks := tk } s₂ →
        TbEnd h₀ env.locals (L1J aA P R l0 S t₂ y m₀ base first (i + 1)) own { s with heap := h, toks := tk } s₂ := by
      rintro ⟨h', tk', oA', v', k', u', n', W, r, t1, t2', t3, t4, t5, nr, c', m', e, F', N', hA', hk1', hk2', w1, w2, w3, hWall, e1, e2, e3, e4, hm'⟩
      refine ⟨h', tk', m', _, Led1 aA P R l0 oA' k' S u' t₂ n' (vs ++ [.ref W]) c' (((W, rowObj r t1 t2' t3 t4 t5 nr) :: junk) ++ base), e, F', N', ?_, ?_, ?_, oA', v', k', u', n', vs ++ [.ref W], c', rs ++ [r], (W, rowObj r t1 t2' t3 t4 t5 nr) :: junk, rfl, hA', hk1', ?_, ?_, ?_, ?_, ?_, hm'⟩
      · exact sh2
      · exact sh3
      · intro p hp q hq
        have ho := hO2 p (List.mem_append_right _ hp)
        rcases List.mem_cons.mp hq with rfl | hq
        · exact ho.1
        rcases List.mem_cons.mp hq with rfl | hq
        · exact ho.2.1
        rcases List.mem_cons.mp hq with rfl | hq
        · exact ho.2.2.1
        rcases List.mem_append.mp hq with hq | hq
        · rcases List.mem_cons.mp hq with rfl | hq
          · exact fun e => hWall p (List.mem_append_left _ (List.mem_append_right _ hp)) e.symm
          · exact hoff p hp q (.tail _ (.tail _ (.tail _ (List.mem_append_left _ hq))))
        · exact ho.2.2.2 q hq
      · push_cast; omega
      · exact (hR.mono fun p hp => .tail _ hp).append (.cons ⟨W, t1, t2', t3, t4, t5, nr, rfl, .head _⟩ .nil)
      · simp [hl]
      · exact hB.snoc (by rw [hl, Nat.zero_add]; exact e1) (by rw [hl, Nat.zero_add]; exact e2) e3 e4
      · intro p hp
        rcases List.mem_cons.mp hp with rfl | hp
        · exact ⟨w1, w2, w3, fun q hq => hWall q (List.mem_append_right _ hq)⟩
        · exact hO p hp
    cases f with
    | ret v => exact p
    | brk => exact p
    | next => exact fin p
    | cont => exact fin p
  · rintro m₁ nx h tk ⟨oA, v, k, u, n, vs, c, rs, junk, rfl, hA1, hk1, hk2, hR, hl, hB, hO, hm⟩ F₁ N₁
    rw [keep m₁ hm] at F₁
    exact done oA v k u n vs c rs junk (m₁ y) h tk hA1 hk1 hk2 hR hl hB hO F₁ N₁

theorem build_law {fs : Str} {tf : Tok} {r aA aM aP P R l0 T x1 x3 : Addr} {S first k₀ : Int} {u₀ t₂ : Tok} {n₀ c₀ : Nat} {oA₀ oM oP oL oT o1 o3 : Obj} {vA₀ : Option Value} {y : Str} {many : Nat} {m₀ : Str → Option Value} {t₀ u₁ w₀ : Tok} {b : Int}
    (hh : A.handled = none) (hb : b = (many : Int)) (hr : IsRange s.heap r 0 b 1 t₀ u₁ w₀) (hz : many ≤ 64) (F : Fr h₀ env.locals s.heap m₀)
    (N : News h₀ env.locals s.heap [(T, oT), (R, listOf #[] c₀), (P, penObj l0 k₀ S u₀ t₂ n₀), (x1, o1), (l0, oL), (x3, o3), (aA, oA₀), (aM, oM), (aP, oP), (162, tabObj #[])])
    (_hf : m₀ fs = some (.int first tf)) (hA : oA₀.data = .cell vA₀) (hk0 : 0 ≤ k₀) (hk1 : k₀ ≤ 2) (hd : @LT.lt Nat _ 162 aP ∧ @LT.lt Nat _ aP aM ∧ @LT.lt Nat _ aM aA ∧ @LT.lt Nat _ aA l0 ∧ @LT.lt Nat _ l0 P ∧ @LT.lt Nat _ P R)
    (turn : ∀ (i : Nat) (t : Tok) (oA : Obj) (v : Option Value) (k : Int) (u : Tok) (n : Nat) (vs : List Value) (c : Nat) (rs : List Row) (rest : LedT) (uu : Option Value) (h : Heap) (tk : Nat), i < many → oA.data = .cell v → 0 ≤ k → k ≤ 10 * (i : Int) + 2 → RowAll rest vs rs → rs.length = i →
      (∀ p ∈ rest, p.1 ≠ aA) → (∀ p ∈ rest, p.1 ≠ P) → (∀ p ∈ rest, p.1 ≠ R) → (l0, oL) ∈ rest → (aM, oM) ∈ rest → (aP, oP) ∈ rest →
      Fr h₀ env.locals h (fun z => if z = y then uu else m₀ z) → News h₀ env.locals h (Led1 aA P R l0 oA k S u t₂ n vs c rest) →
      wpAny (model prog w) A (assign (.Name x px) env (.int (i : Int) t)) (fun _ s₃ => wpAny (model prog w) A (execs body env) (L1Post h₀ env.locals aA P R l0 S t₂ y m₀ rest first i vs { s with heap := h, toks := tk } Q) E s₃) E { s with heap := h, toks := tk })
    (done : ∀ (oA : Obj) (v : Option Value) (k : Int) (u : Tok) (n : Nat) (vs : List Value) (c : Nat) (rs : List Row) (rest : LedT) (uu : Option Value) (h : Heap) (tk : Nat), oA.data = .cell v → 0 ≤ k → k ≤ 10 * (many : Int) + 2 → RowAll rest vs rs → rs.length = many → BuiltFrom first 0 rs →
      (∀ p ∈ rest, p.1 ≠ P) → (∀ p ∈ rest, p.1 ≠ R) → (∀ p ∈ rest, p.1 ≠ 162) → (l0, oL) ∈ rest → (aM, oM) ∈ rest → (aP, oP) ∈ rest →
      Fr h₀ env.locals h (fun z => if z = y then uu else m₀ z) → News h₀ env.locals h ((P, penObj l0 k S u t₂ n) :: (R, listOf vs.toArray c) :: (162, tabObj #[]) :: rest) → Q .next { s with heap := h, toks := tk }) :
    wpAny (model prog w) A (pyIter (.ref r)) (fun it s₂ => TurnsAt prog w A h₀ env (.Name x px) body Q E it s₂) E s := by
  obtain ⟨d1, d2, d3, d4, d5, d6⟩ := hd
  have hbase : Off [(l0, oL), (aM, oM), (aP, oP), (162, tabObj #[])] aA P R [] := fun p hp => by
    simp only [List.mem_cons, List.not_mem_nil, or_false] at hp
    have x1 := Nat.lt_trans d4 d5
    have x2 := Nat.lt_trans x1 d6
    have y1 := Nat.lt_trans d3 x1
    have y2 := Nat.lt_trans d3 x2
    have z1 := Nat.lt_trans d2 d3
    have z2 := Nat.lt_trans d2 y1
    have z3 := Nat.lt_trans d2 y2
    rcases hp with rfl | rfl | rfl | rfl
    · exact ⟨Nat.ne_of_gt d4, Nat.ne_of_lt d5, Nat.ne_of_lt (Nat.lt_trans d5 d6), fun q hq => absurd hq List.not_mem_nil⟩
    · exact ⟨Nat.ne_of_lt d3, Nat.ne_of_lt y1, Nat.ne_of_lt y2, fun q hq => absurd hq List.not_mem_nil⟩
    · exact ⟨Nat.ne_of_lt z1, Nat.ne_of_lt z2, Nat.ne_of_lt z3, fun q hq => absurd hq List.not_mem_nil⟩
    · exact ⟨Nat.ne_of_lt (Nat.lt_trans d1 z1), Nat.ne_of_lt (Nat.lt_trans d1 z2), Nat.ne_of_lt (Nat.lt_trans d1 z3), fun q hq => absurd hq List.not_mem_nil⟩
  refine build_loop (base := [(l0, oL), (aM, oM), (aP, oP), (162, tabObj #[])]) (aA := aA) (P := P) (R := R) (l0 := l0) (first := first) (S := S) (t₂ := t₂) (y := y) hh hb hr hz F N (oA₀ := oA₀) (k₀ := k₀) (u₀ := u₀) (n₀ := n₀) (c₀ := c₀) (fun p hp => ?_) hbase hA hk0 hk1
    (fun i t oA v k u n vs c rs rest uu h tk a1 a2 a3 a4 a5 a6 hO hb F' N' => turn i t oA v k u n vs c rs rest uu h tk a1 a2 a3 a4 a5 a6 (fun p hp => (hO p hp).1) (fun p hp => (hO p hp).2.1) (fun p hp => (hO p hp).2.2.1) (hb _ (.head _)) (hb _ (.tail _ (.head _))) (hb _ (.tail _ (.tail _ (.head _)))) F' N')
    (fun oA v k u n vs c rs junk uu h tk a2 a3 a4 a5 a6 hB hO F' N' => done oA v k u n vs c rs (junk ++ [(l0, oL), (aM, oM), (aP, oP)]) uu h tk a2 a3 a4 (a5.mono fun p hp => List.mem_append_left _ hp) a6 hB ?_ ?_ ?_ (List.mem_append_right _ (.head _)) (List.mem_append_right _ (.tail _ (.head _))) (List.mem_append_right _ (.tail _ (.tail _ (.head _)))) F' fun p hp => N' p ?_)
  · exact sh4 p hp
  · intro p hp
    rcases List.mem_append.mp hp with hp | hp
    · exact (hO p hp).2.1
    · exact (hbase p (sh5 p hp)).2.1
  · intro p hp
    rcases List.mem_append.mp hp with hp | hp
    · exact (hO p hp).2.2.1
    · exact (hbase p (sh5 p hp)).2.2.1
  · intro p hp
    rcases List.mem_append.mp hp with hp | hp
    · exact (hO p hp).2.2.2 (162, tabObj #[]) (by simp)
    · simp only [List.mem_cons, List.not_mem_nil, or_false] at hp
      rcases hp with rfl | rfl | rfl <;> (refine neN ?_; dsimp only; omega)
  · exact sh6 p hp
end
section
variable {prog : Program} {w : World} {A : Around} {E : Value → Shared → Prop} {s : Shared} {h₀ : Heap} {L D : Addr} {m : Str → Option Value} {news news' nn : LedT} {vs : List Value} {rs : List Row} {n : Nat} {x : Value}
theorem rows_app {Q : Value → Shared → Prop} (F : Fr h₀ L s.heap m) (N : News h₀ L s.heap news) (U : Upd D (listOf vs.toArray n) (listOf (vs ++ [x]).toArray (n + 1)) news news') (hr : RowAll nn vs rs) (hz : rs.length ≤ 60)
    (h : ∀ h', Fr h₀ L h' m → News h₀ L h' news' → Q .none { s with heap := h' }) : wpAny (model prog w) A (call (.builtin "list.append") [.ref D, x]) Q E s := by
  have e : (vs ++ [x]).toArray = vs.toArray.push x := by simp
  rw [e] at U
  refine append_K F N U h ?_
  have h1 : vs.toArray.size = rs.length := by rw [List.size_toArray, hr.length]
  rw [sizeLine_eq]
  omega
theorem compEnd1 {I C D0 : Addr} {s₁ : Shared} {oI oC oD : Obj} {q : Addr × Obj} {S : LedT → Prop} {rest : Value → LedT → Prop} {y : Value} {h' : Heap} {tk : Nat} (F : Fr h₀ L h' m) (N : News h₀ L h' (q :: (I, oI) :: (C, oC) :: (D0, oD) :: news))
    (off : LCg.Off3 I C D0 news) (hS : S news) (r : rest y news) : LCg.CompEnd h₀ L m s₁ I oI C oC D0 oD S rest y { s₁ with heap := h', toks := tk } :=
  LCg.CompEnd.intro F N news (fun p hp => .tail _ hp) off hS r
end
/-- two places apart, out of omega's sight -/
structure NeF (a b : Nat) : Prop where
  out : a ≠ b
theorem off_pen {I C D0 aA P R : Addr} {oA oP oR : Obj} {rest : LedT} (h : LCg.Off3 I C D0 ((aA, oA) :: (P, oP) :: (R, oR) :: rest)) : NeF P I ∧ NeF P C ∧ NeF P D0 :=
  ⟨⟨h.2.1.1⟩, ⟨h.2.1.2.1⟩, ⟨h.2.1.2.2⟩⟩
theorem l1_close {h₀ h' : Heap} {L aA P R l0 W Y : Addr} {S k first a1 a2 a3 a4 a5 : Int} {u t2 x1 x2 x3 x4 x5 : Tok} {n nr c : Nat} {oA oY : Obj} {v : Option Value} {vs : List Value} {rest : LedT} {m' m₀ : Str → Option Value} {y : Str} {i tk : Nat} {s₁ : Shared}
    (F : Fr h₀ L h' m') (N : News h₀ L h' ((W, ({ cls := .type "tuple", data := .seq #[.int a1 x1, .int a2 x2, .int a3 x3, .int a4 x4, .int a5 x5] nr } : Obj)) :: (Y, oY) :: (aA, oA) :: (P, penObj l0 k S u t2 n) :: (R, listOf (vs ++ [Value.ref W]).toArray c) :: rest))
    (hw : @LT.lt Nat _ Y W ∧ @LT.lt Nat _ aA W ∧ @LT.lt Nat _ P W ∧ @LT.lt Nat _ R W ∧ AllLt W rest) (hA : oA.data = .cell v) (k0 : 0 ≤ k) (k1 : k ≤ 10 * ((i : Int) + 1) + 2) (e1 : a1 = 1 + (first + 3 * (i : Int)).fmod 7) (e2 : a2 = 11 + (i : Int)) (e3 : 0 ≤ a3) (e4 : a3 < 3)
    (hm : ∀ z, z ≠ y → m' z = m₀ z) : L1End h₀ L aA P R l0 S t2 y m₀ rest first i vs s₁ { s₁ with heap := h', toks := tk } := by
  refine ⟨h', tk, oA, v, k, u, n, W, ⟨a1, a2, a3, a4, a5⟩, x1, x2, x3, x4, x5, nr, c, m', rfl, F, fun p hp => N p ?_, hA, k0, k1, Nat.ne_of_gt hw.2.1, Nat.ne_of_gt hw.2.2.1, Nat.ne_of_gt hw.2.2.2.1, fun p hp => Nat.ne_of_gt (allLt_get hw.2.2.2.2 p hp), e1, e2, e3, e4, hm⟩
  rcases List.mem_cons.mp hp with rfl | hp
  · exact .tail _ (.tail _ (.head _))
  · rcases List.mem_cons.mp hp with rfl | hp
    · exact .tail _ (.tail _ (.tail _ (.head _)))
    · rcases List.mem_cons.mp hp with rfl | hp
      · exact .tail _ (.tail _ (.tail _ (.tail _ (.head _))))
      · rcases List.mem_cons.mp hp with rfl | hp
        · exact .head _
        · exact .tail _ (.tail _ (.tail _ (.tail _ (.tail _ hp))))
end
-- P3
section
theorem ids3 {f : Int} (h0 : 0 ≤ f) (h1 : f < 7) : (f % 7 < (f + 3) % 7 ∧ (f + 3) % 7 < (f + 6) % 7) ∨ ((f + 6) % 7 < f % 7 ∧ f % 7 < (f + 3) % 7) ∨ ((f + 3) % 7 < (f + 6) % 7 ∧ (f + 6) % 7 < f % 7) := by omega
theorem lt_up {x y a b : Int} (ha : a = 1 + x) (hb : b = 1 + y) (h : x < y) : a < b := by omega
theorem mod_of {x y : Int} (h : x = y) : x.fmod 7 = y % 7 := by rw [h]; exact Int.fmod_eq_emod_of_nonneg y (by omega)
theorem built_at {first : Int} {a b c : Row} (h0 : 0 ≤ first) (h1 : first < 7) (a0 : a.id = 1 + first % 7) (b0 : b.id = 1 + (first + 3) % 7) (c0 : c.id = 1 + (first + 6) % 7) : a.id ≠ b.id ∧ a.id ≠ c.id ∧ b.id ≠ c.id := by
  rcases ids3 h0 h1 with ⟨k, l⟩ | ⟨k, l⟩ | ⟨k, l⟩
  · exact ⟨Int.ne_of_lt (lt_up a0 b0 k), Int.ne_of_lt (lt_up a0 c0 (Int.lt_trans k l)), Int.ne_of_lt (lt_up b0 c0 l)⟩
  · exact ⟨Int.ne_of_lt (lt_up a0 b0 l), Int.ne_of_gt (lt_up c0 a0 k), Int.ne_of_gt (lt_up c0 b0 (Int.lt_trans k l))⟩
  · exact ⟨Int.ne_of_gt (lt_up b0 a0 (Int.lt_trans k l)), Int.ne_of_gt (lt_up c0 a0 l), Int.ne_of_lt (lt_up b0 c0 k)⟩
theorem built_ids {first : Int} (h0 : 0 ≤ first) (h1 : first < 7) : ∀ {rs : List Row}, BuiltFrom first 0 rs → rs.length ≤ 3 → Ids rs := by
  intro rs hB hl
  match rs, hB, hl with
  | [], _, _ => exact .nil
  | [a], _, _ => exact List.pairwise_singleton _ _
  | [a, b], hB, _ =>
    obtain ⟨⟨a0, _⟩, ⟨b0, _⟩, _⟩ := hB
    have k := built_at (c := ⟨1 + (first + 6) % 7, 0, 0, 0, 0⟩) h0 h1 (a0.trans (congrArg (fun t => 1 + t) (mod_of (Int.add_zero first)))) (b0.trans (congrArg (fun t => 1 + t) (mod_of rfl))) rfl
    refine .cons (fun x hx => ?_) (List.pairwise_singleton _ _)
    rw [List.mem_singleton.mp hx]
    exact k.1
  | [a, b, c], hB, _ =>
    obtain ⟨⟨a0, _⟩, ⟨b0, _⟩, ⟨c0, _⟩, _⟩ := hB
    have k := built_at h0 h1 (a0.trans (congrArg (fun t => 1 + t) (mod_of (Int.add_zero first)))) (b0.trans (congrArg (fun t => 1 + t) (mod_of rfl))) (c0.trans (congrArg (fun t => 1 + t) (mod_of rfl)))
    refine .cons (fun x hx => ?_) (.cons (fun x hx => ?_) (List.pairwise_singleton _ _))
    · rcases List.mem_cons.mp hx with rfl | hx
      · exact k.1
      · rw [List.mem_singleton.mp hx]
        exact k.2.1
    · rw [List.mem_singleton.mp hx]
      exact k.2.2
  | a :: b :: c :: d :: r, _, hl => exact absurd hl (by simp only [List.length_cons]; omega)
end
-- P4
section
/-- a row by its sayings alone, its id turned by a map -/
def can (ρ : Int → Int) (r : Row) : Row := ⟨ρ r.id, r.ad, r.pr, if saysD r then r.ad else 0, if saysB r then r.ad else 0⟩
theorem can_saysD {ρ : Int → Int} {r : Row} (h : r.ad ≠ 0) : saysD (can ρ r) = saysD r := by
  unfold can
  cases hd : saysD r with
  | true => simp [saysD]
  | false => simp [saysD]; exact fun e => h e.symm
theorem can_saysB {ρ : Int → Int} {r : Row} (h : r.ad ≠ 0) : saysB (can ρ r) = saysB r := by
  unfold can
  cases hd : saysB r with
  | true => simp [saysB]
  | false => simp [saysB]; exact fun e => h e.symm
/-- the ids of the rows keep their order, and no address is nought -/
def Fit (ρ : Int → Int) (l : List Row) : Prop := (∀ a ∈ l, a.ad ≠ 0) ∧ ∀ a ∈ l, ∀ b ∈ l, (ρ a.id < ρ b.id ↔ a.id < b.id)
theorem Fit.sub {ρ : Int → Int} {l k : List Row} (h : Fit ρ l) (hs : ∀ a ∈ k, a ∈ l) : Fit ρ k := ⟨fun a ha => h.1 a (hs a ha), fun a ha b hb => h.2 a (hs a ha) b (hs b hb)⟩
theorem filter_can {ρ : Int → Int} {p : Row → Bool} : ∀ {l : List Row}, (∀ a ∈ l, p (can ρ a) = p a) → (l.map (can ρ)).filter p = (l.filter p).map (can ρ)
  | [], _ => rfl
  | a :: l, h => by
    have ih := filter_can (l := l) fun b hb => h b (.tail _ hb)
    simp only [List.map_cons, List.filter_cons, h a (.head _), ih]
    split <;> simp
theorem better_can {ρ : Int → Int} {a b : Row} (h : ρ b.id < ρ a.id ↔ b.id < a.id) : better (can ρ a) (can ρ b) = better a b := by
  unfold better can
  simp only [h]
theorem fold_can {ρ : Int → Int} : ∀ {l : List Row} {o : Option Row}, (∀ a ∈ l, a.ad ≠ 0) → (∀ a ∈ l, ∀ b, (b ∈ l ∨ o = some b) → (ρ b.id < ρ a.id ↔ b.id < a.id)) → (l.map (can ρ)).foldl bestStep (o.map (can ρ)) = (l.foldl bestStep o).map (can ρ)
  | [], _, _, _ => rfl
  | a :: l, o, h1, h2 => by
    have e : bestStep (o.map (can ρ)) (can ρ a) = (bestStep o a).map (can ρ) := by
      cases o with
      | none => rfl
      | some q =>
        simp only [Option.map_some, bestStep, better_can (h2 a (.head _) q (.inr rfl))]
        split <;> rfl
    simp only [List.map_cons, List.foldl_cons]
    rw [e]
    refine fold_can (fun b hb => h1 b (.tail _ hb)) fun b hb c hc => ?_
    rcases hc with hc | hc
    · exact h2 b (.tail _ hb) c (.inl (.tail _ hc))
    · cases o with
      | none => cases hc; exact h2 b (.tail _ hb) a (.inl (.head _))
      | some q =>
        simp only [bestStep] at hc
        split at hc
        · cases hc; exact h2 b (.tail _ hb) a (.inl (.head _))
        · have e := Option.some.inj hc
          subst e
          exact h2 b (.tail _ hb) _ (.inr rfl)
theorem best_can {ρ : Int → Int} {l : List Row} (h : Fit ρ l) : best (l.map (can ρ)) = (best l).map (can ρ) :=
  fold_can (o := none) h.1 fun a ha b hb => h.2 b (hb.resolve_right (fun e => nomatch e)) a ha
theorem addr_can {ρ : Int → Int} (o : Option Row) : addrOf (o.map (can ρ)) = addrOf o := by cases o <;> rfl
theorem chosenB_can {ρ : Int → Int} {l : List Row} (h : Fit ρ l) : chosenB (l.map (can ρ)) = chosenB l := by
  have h1 : leftOf (l.map (can ρ)) = (leftOf l).map (can ρ) := filter_can fun a ha => by rw [can_saysD (h.1 a ha)]
  have hl : ∀ a ∈ leftOf l, a ∈ l := fun a ha => (List.mem_filter.mp ha).1
  have h2 : ((leftOf l).map (can ρ)).filter saysB = ((leftOf l).filter saysB).map (can ρ) := filter_can fun a ha => can_saysB (h.1 a (hl a ha))
  unfold chosenB
  rw [h1, h2, List.length_map]
  split
  · rw [best_can (h.sub fun a ha => hl a (List.mem_filter.mp ha).1), addr_can]
  · rw [best_can (h.sub hl), addr_can]
theorem chosenD_can {ρ : Int → Int} {l : List Row} (h : Fit ρ l) (b : Int) : chosenD (l.map (can ρ)) b = chosenD l b := by
  have h1 : (l.map (can ρ)).filter saysD = (l.filter saysD).map (can ρ) := filter_can fun a ha => can_saysD (h.1 a ha)
  unfold chosenD
  rw [h1, best_can (h.sub fun a ha => (List.mem_filter.mp ha).1)]
  cases best (l.filter saysD) <;> rfl
theorem oneRound_can {ρ : Int → Int} {l : List Row} (h : Fit ρ l) : oneRound (l.map (can ρ)) = oneRound l := by
  have h1 : canBe (l.map (can ρ)) = (canBe l).map (can ρ) := filter_can fun a ha => rfl
  have h2 : Fit ρ (canBe l) := h.sub fun a ha => (List.mem_filter.mp ha).1
  unfold oneRound
  rw [h1, chosenB_can h2, chosenD_can h2]
end
-- P5
section
def ren (ρ : Int → Int) (r : Row) : Row := { r with id := ρ r.id }
def SimL (ρ : Int → Int) (l k : List Row) : Prop := k.map (can id) = l.map (can ρ)
theorem can_can {ρ : Int → Int} {r : Row} (h : r.ad ≠ 0) : can id (can ρ r) = can ρ r := by
  have h1 := can_saysD (ρ := ρ) h
  have h2 := can_saysB (ρ := ρ) h
  show (⟨ρ r.id, r.ad, r.pr, if saysD (can ρ r) then r.ad else 0, if saysB (can ρ r) then r.ad else 0⟩ : Row) = can ρ r
  rw [h1, h2]
  rfl
theorem simL_can {ρ : Int → Int} {l : List Row} (h : Fit ρ l) : SimL ρ l (l.map (can ρ)) := by
  unfold SimL
  rw [List.map_map]
  exact List.map_congr_left fun a ha => can_can (h.1 a ha)
theorem simL_ren {ρ : Int → Int} (l : List Row) : SimL ρ l (l.map (ren ρ)) := by
  unfold SimL
  rw [List.map_map]
  rfl
theorem fit_id {ρ : Int → Int} {l k : List Row} (h : Fit ρ l) (s : SimL ρ l k) : Fit id k := by
  refine ⟨fun b hb => ?_, fun a _ b _ => Iff.rfl⟩
  have hm : can id b ∈ l.map (can ρ) := by rw [← s]; exact List.mem_map_of_mem hb
  obtain ⟨a, ha, e⟩ := List.mem_map.mp hm
  have e2 : a.ad = b.ad := by have := congrArg Row.ad e; exact this
  rw [← e2]
  exact h.1 a ha
theorem oneRound_sim {ρ : Int → Int} {l k : List Row} (h : Fit ρ l) (s : SimL ρ l k) : oneRound k = oneRound l := by
  rw [← oneRound_can (fit_id h s), s, oneRound_can h]
theorem turned_sim {ρ : Int → Int} {a b : Row} {p : Int × Int} (ha : a.ad ≠ 0) (s : can id b = can ρ a) : isTurned b p = isTurned a p := by
  have e : b.ad = a.ad := by have := congrArg Row.ad s; exact this
  have hb : b.ad ≠ 0 := by rw [e]; exact ha
  have e1 : saysD b = saysD a := by rw [← can_saysD (ρ := id) hb, s, can_saysD ha]
  have e2 : saysB b = saysB a := by rw [← can_saysB (ρ := id) hb, s, can_saysB ha]
  unfold isTurned
  rw [e, e1, e2]
theorem said_sim {ρ : Int → Int} {a b : Row} {p : Int × Int} (s : can id b = can ρ a) : withSaid b p = ren ρ (withSaid a p) ∧ can id (withSaid b p) = can ρ (withSaid a p) := by
  have e1 : b.id = ρ a.id := by have := congrArg Row.id s; exact this
  have e2 : b.ad = a.ad := by have := congrArg Row.ad s; exact this
  have e3 : b.pr = a.pr := by have := congrArg Row.pr s; exact this
  have e : withSaid b p = ren ρ (withSaid a p) := by
    unfold withSaid ren
    simp only [e1, e2, e3]
  exact ⟨e, by rw [e]; rfl⟩
theorem elect_sim {ρ : Int → Int} {l k : List Row} {a b : Row} (h : Fit ρ (l ++ [a])) (s : SimL ρ l k) (sa : can id b = can ρ a) : elect k b = elect l a := by
  have h1 : SimL ρ (l ++ [a]) (k ++ [b]) := by unfold SimL; simp only [List.map_append, List.map_cons, List.map_nil, sa]; rw [s]
  have e1 := oneRound_sim h h1
  have ha : a.ad ≠ 0 := h.1 a (by simp)
  unfold elect
  rw [e1, turned_sim ha sa]
  have h2 : SimL ρ (l ++ [withSaid a (oneRound (l ++ [a]))]) (k ++ [withSaid b (oneRound (l ++ [a]))]) := by
    unfold SimL; simp only [List.map_append, List.map_cons, List.map_nil, (said_sim sa).2]; rw [s]
  have hf : Fit ρ (l ++ [withSaid a (oneRound (l ++ [a]))]) := by
    refine ⟨fun x hx => ?_, fun x hx y hy => ?_⟩
    · rcases List.mem_append.mp hx with hx | hx
      · exact h.1 x (by simp [hx])
      · rw [List.mem_singleton.mp hx]; exact ha
    · have f : ∀ z ∈ l ++ [withSaid a (oneRound (l ++ [a]))], ∃ z' ∈ l ++ [a], z'.id = z.id := fun z hz => by
        rcases List.mem_append.mp hz with hz | hz
        · exact ⟨z, by simp [hz], rfl⟩
        · rw [List.mem_singleton.mp hz]; exact ⟨a, by simp, rfl⟩
      obtain ⟨x', hx', ex⟩ := f x hx
      obtain ⟨y', hy', ey⟩ := f y hy
      rw [← ex, ← ey]
      exact h.2 x' hx' y' hy'
  rw [oneRound_sim hf h2]
end
-- P6
section
theorem sim_get {ρ : Int → Int} {f g : List Row} (s : SimL ρ f g) {i : Nat} {a : Row} (h : f[i]? = some a) : ∃ b, g[i]? = some b ∧ can id b = can ρ a := by
  have e : (g.map (can id))[i]? = (f.map (can ρ))[i]? := by rw [s]
  rw [List.getElem?_map, List.getElem?_map, h] at e
  cases hb : g[i]? with
  | none => rw [hb] at e; cases e
  | some b => rw [hb] at e; exact ⟨b, rfl, Option.some.inj e⟩
theorem fit_tell {ρ : Int → Int} {f : List Row} (h : Fit ρ f) (i : Nat) : Fit ρ (tellAt f i) := by
  have k : ∀ z ∈ tellAt f i, ∃ z' ∈ f, z'.id = z.id ∧ z'.ad = z.ad := fun z hz => by
    unfold tellAt at hz
    split at hz
    · exact ⟨z, hz, rfl, rfl⟩
    · rename_i r hr
      rcases List.mem_or_eq_of_mem_set hz with hz | rfl
      · exact ⟨z, hz, rfl, rfl⟩
      · exact ⟨r, List.mem_of_getElem? hr, rfl, rfl⟩
  refine ⟨fun x hx => ?_, fun x hx y hy => ?_⟩
  · obtain ⟨x', hx', _, e⟩ := k x hx
    rw [← e]; exact h.1 x' hx'
  · obtain ⟨x', hx', ex, _⟩ := k x hx
    obtain ⟨y', hy', ey, _⟩ := k y hy
    rw [← ex, ← ey]; exact h.2 x' hx' y' hy'
theorem tell_sim {ρ : Int → Int} {f g : List Row} (h : Fit ρ f) (s : SimL ρ f g) {i : Nat} (hi : i < f.length) :
    SimL ρ (tellAt f i) (tellAt g i) ∧ (∃ a, (tellAt f i)[i]? = some a ∧ (tellAt g i)[i]? = some (ren ρ a)) ∧ (∀ j, j ≠ i → (tellAt f i)[j]? = f[j]? ∧ (tellAt g i)[j]? = g[j]?) := by
  have ha : f[i]? = some f[i] := List.getElem?_eq_getElem hi
  obtain ⟨b, hb, e⟩ := sim_get s ha
  have hl : g.length = f.length := by have := congrArg List.length s; simpa using this
  have ef : tellAt f i = f.set i (withSaid f[i] (elect (f.take i ++ f.drop (i + 1)) f[i])) := by unfold tellAt; rw [ha]
  have eg : tellAt g i = g.set i (withSaid b (elect (g.take i ++ g.drop (i + 1)) b)) := by unfold tellAt; rw [hb]
  have hs2 : SimL ρ (f.take i ++ f.drop (i + 1)) (g.take i ++ g.drop (i + 1)) := by
    unfold SimL at s ⊢
    rw [List.map_append, List.map_append, List.map_take, List.map_take, List.map_drop, List.map_drop, s]
  have hf2 : Fit ρ ((f.take i ++ f.drop (i + 1)) ++ [f[i]]) := h.sub fun x hx => by
    rcases List.mem_append.mp hx with hx | hx
    · rcases List.mem_append.mp hx with hx | hx
      · exact List.mem_of_mem_take hx
      · exact List.mem_of_mem_drop hx
    · rw [List.mem_singleton.mp hx]; exact List.getElem_mem hi
  have ee : elect (g.take i ++ g.drop (i + 1)) b = elect (f.take i ++ f.drop (i + 1)) f[i] := elect_sim hf2 hs2 e
  rw [ee] at eg
  refine ⟨?_, ⟨withSaid f[i] (elect (f.take i ++ f.drop (i + 1)) f[i]), by rw [ef]; simp [hi], by rw [eg, (said_sim e).1]; simp [hl, hi]⟩, fun j hj => ⟨by rw [ef]; simp [Ne.symm hj], by rw [eg]; simp [Ne.symm hj]⟩⟩
  unfold SimL at s ⊢
  rw [ef, eg, List.map_set, List.map_set, s, (said_sim e).2]
theorem told_sim {ρ : Int → Int} {f g : List Row} (h : Fit ρ f) (s : SimL ρ f g) : toldRound g = (toldRound f).map (ren ρ) := by
  have hl : g.length = f.length := by have := congrArg List.length s; simpa using this
  have key : ∀ i, i ≤ f.length → Fit ρ ((List.range i).foldl tellAt f) ∧ SimL ρ ((List.range i).foldl tellAt f) ((List.range i).foldl tellAt g) ∧ ∀ j, j < i → ((List.range i).foldl tellAt g)[j]? = ((List.range i).foldl tellAt f)[j]?.map (ren ρ) := by
    intro i
    induction i with
    | zero => intro _; exact ⟨h, s, fun j hj => absurd hj (Nat.not_lt_zero j)⟩
    | succ i ih =>
      intro hi
      obtain ⟨h1, h2, h3⟩ := ih (by omega)
      rw [List.range_succ, List.foldl_append, List.foldl_append]
      have hlen : ((List.range i).foldl tellAt f).length = f.length := told_length f _ f rfl
      obtain ⟨t1, ⟨a, t2, t2'⟩, t3⟩ := tell_sim h1 h2 (i := i) (by omega)
      refine ⟨fit_tell h1 i, t1, fun j hj => ?_⟩
      show (tellAt _ i)[j]? = (tellAt _ i)[j]?.map _
      by_cases e : j = i
      · subst e
        rw [t2, t2']; rfl
      · rw [(t3 j e).1, (t3 j e).2]
        exact h3 j (by omega)
  obtain ⟨_, _, k⟩ := key f.length (Nat.le_refl _)
  apply List.ext_getElem?
  intro j
  unfold toldRound
  rw [hl, List.getElem?_map]
  by_cases hj : j < f.length
  · exact k j hj
  · have l1 : ((List.range f.length).foldl tellAt g).length = g.length := told_length g _ g rfl
    have l2 : ((List.range f.length).foldl tellAt f).length = f.length := told_length f _ f rfl
    rw [List.getElem?_eq_none (by omega), List.getElem?_eq_none (by omega)]
    rfl
end
-- P7
section
def says4 (ad : Int) (k : Nat) : Int × Int := match k with
  | 0 => (0, 0) | 1 => (ad, 0) | 2 => (0, ad) | _ => (ad, ad)
def mk (id ad : Int) (pr k : Nat) : Row := ⟨id, ad, (pr : Int), (says4 ad k).1, (says4 ad k).2⟩
def fNat (n : Nat) (k : Nat → Bool) : Bool := Nat.rec (k 0) (fun m _ => k (m + 1)) n
theorem fNat_eq (n : Nat) (k : Nat → Bool) : fNat n k = k n := by cases n <;> rfl
def fInt (i : Int) (k : Int → Bool) : Bool := match i with
  | .ofNat n => fNat n fun n => k (.ofNat n)
  | .negSucc n => k (.negSucc n)
theorem fInt_eq (i : Int) (k : Int → Bool) : fInt i k = k i := by cases i <;> simp [fInt, fNat_eq]
def fRow (r : Row) (k : Row → Bool) : Bool := fInt r.id fun a => fInt r.ad fun b => fInt r.pr fun c => fInt r.dr fun d => fInt r.bk fun e => k ⟨a, b, c, d, e⟩
theorem fRow_eq (r : Row) (k : Row → Bool) : fRow r k = k r := by simp [fRow, fInt_eq]
def fRows : List Row → (List Row → Bool) → Bool
  | [], k => k []
  | r :: l, k => fRow r fun r => fRows l fun l => k (r :: l)
theorem fRows_eq (l : List Row) : ∀ (k : List Row → Bool), fRows l k = k l := by
  induction l with
  | nil => intro k; rfl
  | cons r l ih => intro k; simp [fRows, fRow_eq, ih]
def fTold : List Nat → List Row → (List Row → Bool) → Bool
  | [], l, k => k l
  | i :: r, l, k => fRows (tellAt l i) fun l => fTold r l k
theorem fTold_eq (is : List Nat) : ∀ (l : List Row) (k : List Row → Bool), fTold is l k = k (is.foldl tellAt l) := by
  induction is with
  | nil => intro l k; rfl
  | cons i r ih => intro l k; simp [fTold, fRows_eq, ih]
def okNet (is : List Nat) (l : List Row) : Bool := fTold is l fun l => fTold is l fun a => fTold is a fun b => decide (b = a)
theorem okNet_of {l : List Row} (h : okNet (List.range l.length) l = true) : toldIter l 3 = toldIter l 2 := by
  unfold okNet at h
  rw [fTold_eq, fTold_eq, fTold_eq] at h
  have e := of_decide_eq_true h
  have l1 := toldRound_length l
  have l2 := toldRound_length (toldRound l)
  show toldRound (toldRound (toldRound l)) = toldRound (toldRound l)
  unfold toldRound at l1 l2 ⊢
  rw [l1, l2] at *
  exact e
def allRow (f : Nat → Nat → Bool) : Bool := (List.range 3).all fun p => (List.range 4).all fun k => f p k
theorem allRow_get {f : Nat → Nat → Bool} (h : allRow f = true) {p k : Nat} (hp : p < 3) (hk : k < 4) : f p k = true := by
  unfold allRow at h
  rw [List.all_eq_true] at h
  have h1 := h p (List.mem_range.mpr hp)
  rw [List.all_eq_true] at h1
  exact h1 k (List.mem_range.mpr hk)
def net1 : Bool := allRow fun p k => okNet [0] [mk 0 11 p k]
def net2 (i j : Int) : Bool := allRow fun p k => allRow fun p' k' => okNet [0, 1] [mk i 11 p k, mk j 12 p' k']
def net3 (i j l : Int) (p k : Nat) : Bool := allRow fun p' k' => allRow fun p'' k'' => okNet [0, 1, 2] [mk i 11 p k, mk j 12 p' k', mk l 13 p'' k'']
set_option maxRecDepth 1000000 in
theorem n1 : net1 = true := by decide +kernel
set_option maxRecDepth 1000000 in
theorem n2_01 : net2 0 1 = true := by decide +kernel
set_option maxRecDepth 1000000 in
theorem n2_10 : net2 1 0 = true := by decide +kernel
set_option maxRecDepth 1000000 in
theorem n3_012_0 : ((List.range 4).all fun k => net3 0 1 2 0 k) = true := by decide +kernel
set_option maxRecDepth 1000000 in
theorem n3_012_1 : ((List.range 4).all fun k => net3 0 1 2 1 k) = true := by decide +kernel
set_option maxRecDepth 1000000 in
theorem n3_012_2 : ((List.range 4).all fun k => net3 0 1 2 2 k) = true := by decide +kernel
theorem n3_012 : ∀ {p k : Nat}, p < 3 → k < 4 → net3 0 1 2 p k = true
  | 0, k, _, hk => List.all_eq_true.mp n3_012_0 k (List.mem_range.mpr hk)
  | 1, k, _, hk => List.all_eq_true.mp n3_012_1 k (List.mem_range.mpr hk)
  | 2, k, _, hk => List.all_eq_true.mp n3_012_2 k (List.mem_range.mpr hk)
  | p + 3, _, h, _ => absurd h (Nat.not_lt.mpr (Nat.le_add_left 3 p))
set_option maxRecDepth 1000000 in
theorem n3_120_0 : ((List.range 4).all fun k => net3 1 2 0 0 k) = true := by decide +kernel
set_option maxRecDepth 1000000 in
theorem n3_120_1 : ((List.range 4).all fun k => net3 1 2 0 1 k) = true := by decide +kernel
set_option maxRecDepth 1000000 in
theorem n3_120_2 : ((List.range 4).all fun k => net3 1 2 0 2 k) = true := by decide +kernel
theorem n3_120 : ∀ {p k : Nat}, p < 3 → k < 4 → net3 1 2 0 p k = true
  | 0, k, _, hk => List.all_eq_true.mp n3_120_0 k (List.mem_range.mpr hk)
  | 1, k, _, hk => List.all_eq_true.mp n3_120_1 k (List.mem_range.mpr hk)
  | 2, k, _, hk => List.all_eq_true.mp n3_120_2 k (List.mem_range.mpr hk)
  | p + 3, _, h, _ => absurd h (Nat.not_lt.mpr (Nat.le_add_left 3 p))
set_option maxRecDepth 1000000 in
theorem n3_201_0 : ((List.range 4).all fun k => net3 2 0 1 0 k) = true := by decide +kernel
set_option maxRecDepth 1000000 in
theorem n3_201_1 : ((List.range 4).all fun k => net3 2 0 1 1 k) = true := by decide +kernel
set_option maxRecDepth 1000000 in
theorem n3_201_2 : ((List.range 4).all fun k => net3 2 0 1 2 k) = true := by decide +kernel
theorem n3_201 : ∀ {p k : Nat}, p < 3 → k < 4 → net3 2 0 1 p k = true
  | 0, k, _, hk => List.all_eq_true.mp n3_201_0 k (List.mem_range.mpr hk)
  | 1, k, _, hk => List.all_eq_true.mp n3_201_1 k (List.mem_range.mpr hk)
  | 2, k, _, hk => List.all_eq_true.mp n3_201_2 k (List.mem_range.mpr hk)
  | p + 3, _, h, _ => absurd h (Nat.not_lt.mpr (Nat.le_add_left 3 p))

theorem ok1 {p k : Nat} (hp : p < 3) (hk : k < 4) : okNet [0] [mk 0 11 p k] = true := allRow_get n1 hp hk
theorem ok2 {i j : Int} (h : net2 i j = true) {p k p' k' : Nat} (hp : p < 3) (hk : k < 4) (hp' : p' < 3) (hk' : k' < 4) : okNet [0, 1] [mk i 11 p k, mk j 12 p' k'] = true :=
  allRow_get (f := fun p' k' => okNet [0, 1] [mk i 11 p k, mk j 12 p' k']) (allRow_get (f := fun p k => allRow fun p' k' => okNet [0, 1] [mk i 11 p k, mk j 12 p' k']) h hp hk) hp' hk'
theorem ok3 {i j l : Int} (p k : Nat) (h : net3 i j l p k = true) {p' k' p'' k'' : Nat} (hp' : p' < 3) (hk' : k' < 4) (hp'' : p'' < 3) (hk'' : k'' < 4) : okNet [0, 1, 2] [mk i 11 p k, mk j 12 p' k', mk l 13 p'' k''] = true :=
  allRow_get (f := fun p'' k'' => okNet [0, 1, 2] [mk i 11 p k, mk j 12 p' k', mk l 13 p'' k'']) (allRow_get (f := fun p' k' => allRow fun p'' k'' => okNet [0, 1, 2] [mk i 11 p k, mk j 12 p' k', mk l 13 p'' k'']) h hp' hk') hp'' hk''
theorem can_mk {ρ : Int → Int} {r : Row} {i a : Int} (hi : ρ r.id = i) (ha : r.ad = a) (h0 : 0 ≤ r.pr) (h1 : r.pr < 3) : ∃ p k : Nat, p < 3 ∧ k < 4 ∧ can ρ r = mk i a p k := by
  refine ⟨r.pr.toNat, if saysD r then (if saysB r then 3 else 1) else (if saysB r then 2 else 0), by omega, by split <;> split <;> omega, ?_⟩
  unfold can mk
  rw [Int.toNat_of_nonneg h0, hi, ha]
  cases saysD r <;> cases saysB r <;> rfl
theorem fit_told {ρ : Int → Int} {f : List Row} (h : Fit ρ f) : Fit ρ (toldRound f) := by
  unfold toldRound
  have k : ∀ (l : List Nat) (f : List Row), Fit ρ f → Fit ρ (l.foldl tellAt f) := by
    intro l
    induction l with
    | nil => intro f h; exact h
    | cons i r ih => intro f h; exact ih _ (fit_tell h i)
  exact k _ f h
theorem iter_sim {ρ : Int → Int} {f : List Row} (h : Fit ρ f) : ∀ k, toldIter (f.map (can ρ)) (k + 1) = (toldIter f (k + 1)).map (ren ρ) ∧ Fit ρ (toldIter f (k + 1))
  | 0 => ⟨told_sim h (simL_can h), fit_told h⟩
  | k + 1 => by
    obtain ⟨e, h'⟩ := iter_sim h k
    refine ⟨?_, fit_told h'⟩
    show toldRound (toldIter (f.map (can ρ)) (k + 1)) = _
    rw [e]
    exact told_sim h' (simL_ren _)
theorem iter_ids (f : List Row) : ∀ k, (toldIter f k).map Row.id = f.map Row.id
  | 0 => rfl
  | k + 1 => (told_ids _ _).trans (iter_ids f k)
theorem ren_inj {ρ : Int → Int} : ∀ {a b : List Row}, a.map Row.id = b.map Row.id → a.map (ren ρ) = b.map (ren ρ) → a = b
  | [], [], _, _ => rfl
  | [], _ :: _, h, _ => by simp at h
  | _ :: _, [], h, _ => by simp at h
  | x :: a, y :: b, h1, h2 => by
    simp only [List.map_cons, List.cons.injEq] at h1 h2
    have e : x = y := by
      obtain ⟨x1, x2, x3, x4, x5⟩ := x
      obtain ⟨y1, y2, y3, y4, y5⟩ := y
      have h3 := h2.1
      simp only [ren, Row.mk.injEq] at h3 ⊢
      exact ⟨h1.1, h3.2⟩
    rw [e, ren_inj h1.2 h2.2]
theorem iter_of_can {ρ : Int → Int} {f : List Row} (h : Fit ρ f) (e : toldIter (f.map (can ρ)) 3 = toldIter (f.map (can ρ)) 2) : toldIter f 3 = toldIter f 2 := by
  rw [(iter_sim h 2).1, (iter_sim h 1).1] at e
  exact ren_inj ((iter_ids f 3).trans (iter_ids f 2).symm) e
/-- a map of three ids to their places -/
def rho (a b c x y z w : Int) : Int := if w = a then x else if w = b then y else if w = c then z else w
theorem lt_flip {x y a b : Int} (o : x < y ↔ a < b) (n : x ≠ y) (m : a ≠ b) : y < x ↔ b < a := by omega
theorem lt_self (x a : Int) : x < x ↔ a < a := iff_of_false (Int.lt_irrefl x) (Int.lt_irrefl a)
theorem three {rs : List Row} {a b c : Row} (e : rs = [a, b, c]) {x y z : Int} (hn : ∀ {p k : Nat}, p < 3 → k < 4 → net3 x y z p k = true) (hab : a.id ≠ b.id) (hac : a.id ≠ c.id) (hbc : b.id ≠ c.id)
    (o1 : x < y ↔ a.id < b.id) (o2 : x < z ↔ a.id < c.id) (o3 : y < z ↔ b.id < c.id) (n1 : x ≠ y) (n2 : x ≠ z) (n3 : y ≠ z) (a1 : a.ad = 11) (b1 : b.ad = 12) (c1 : c.ad = 13)
    (a2 : 0 ≤ a.pr) (a3 : a.pr < 3) (b2 : 0 ≤ b.pr) (b3 : b.pr < 3) (c2 : 0 ≤ c.pr) (c3 : c.pr < 3) : toldIter rs 3 = toldIter rs 2 := by
  subst e
  have ea : rho a.id b.id c.id x y z a.id = x := if_pos rfl
  have eb : rho a.id b.id c.id x y z b.id = y := (if_neg (Ne.symm hab)).trans (if_pos rfl)
  have ec : rho a.id b.id c.id x y z c.id = z := (if_neg (Ne.symm hac)).trans ((if_neg (Ne.symm hbc)).trans (if_pos rfl))
  have hf : Fit (rho a.id b.id c.id x y z) [a, b, c] := by
    have in3 : ∀ {r : Row}, r ∈ [a, b, c] → r = a ∨ r = b ∨ r = c := fun h => by simpa using h
    refine ⟨fun r hr => ?_, fun r hr q hq => ?_⟩
    · rcases in3 hr with rfl | rfl | rfl
      · rw [a1]; decide
      · rw [b1]; decide
      · rw [c1]; decide
    · rcases in3 hr with rfl | rfl | rfl <;> rcases in3 hq with rfl | rfl | rfl <;> simp only [ea, eb, ec] <;> first | exact lt_self _ _ | assumption | exact lt_flip (by assumption) (by assumption) (by assumption)
  refine iter_of_can hf ?_
  obtain ⟨p1, k1, hp1, hk1, m1⟩ := can_mk ea a1 a2 a3
  obtain ⟨p2, k2, hp2, hk2, m2⟩ := can_mk eb b1 b2 b3
  obtain ⟨p3, k3, hp3, hk3, m3⟩ := can_mk ec c1 c2 c3
  simp only [List.map_cons, List.map_nil, m1, m2, m3]
  exact okNet_of (ok3 p1 k1 (hn hp1 hk1) hp2 hk2 hp3 hk3)
theorem two {rs : List Row} {a b : Row} (e : rs = [a, b]) {x y : Int} (hn : net2 x y = true) (hab : a.id ≠ b.id)
    (o1 : x < y ↔ a.id < b.id) (n1 : x ≠ y) (a1 : a.ad = 11) (b1 : b.ad = 12) (a2 : 0 ≤ a.pr) (a3 : a.pr < 3) (b2 : 0 ≤ b.pr) (b3 : b.pr < 3) : toldIter rs 3 = toldIter rs 2 := by
  subst e
  have ea : rho a.id b.id b.id x y y a.id = x := by simp [rho]
  have eb : rho a.id b.id b.id x y y b.id = y := by simp [rho, Ne.symm hab]
  have hf : Fit (rho a.id b.id b.id x y y) [a, b] := by
    refine ⟨fun r hr => ?_, fun r hr q hq => ?_⟩
    · simp only [List.mem_cons, List.not_mem_nil, or_false] at hr
      rcases hr with rfl | rfl <;> omega
    · simp only [List.mem_cons, List.not_mem_nil, or_false] at hr hq
      rcases hr with rfl | rfl <;> rcases hq with rfl | rfl <;> simp only [ea, eb] <;> omega
  refine iter_of_can hf ?_
  obtain ⟨p1, k1, hp1, hk1, m1⟩ := can_mk ea a1 a2 a3
  obtain ⟨p2, k2, hp2, hk2, m2⟩ := can_mk eb b1 b2 b3
  simp only [List.map_cons, List.map_nil, m1, m2]
  exact okNet_of (ok2 hn hp1 hk1 hp2 hk2)
theorem one {rs : List Row} {a : Row} (e : rs = [a]) (a1 : a.ad = 11) (a2 : 0 ≤ a.pr) (a3 : a.pr < 3) : toldIter rs 3 = toldIter rs 2 := by
  subst e
  have ea : rho a.id a.id a.id 0 0 0 a.id = 0 := by simp [rho]
  have hf : Fit (rho a.id a.id a.id 0 0 0) [a] := by
    refine ⟨fun r hr => ?_, fun r hr q hq => ?_⟩
    · rw [List.mem_singleton.mp hr]; omega
    · rw [List.mem_singleton.mp hr, List.mem_singleton.mp hq]; omega
  refine iter_of_can hf ?_
  obtain ⟨p1, k1, hp1, hk1, m1⟩ := can_mk ea a1 a2 a3
  simp only [List.map_cons, List.map_nil, m1]
  exact okNet_of (ok1 hp1 hk1)
theorem rests {first : Int} (h0 : 0 ≤ first) (h1 : first < 7) : ∀ {rs : List Row}, BuiltFrom first 0 rs → rs.length ≤ 3 → toldIter rs 3 = toldIter rs 2 := by
  intro rs hB hl
  match rs, hB, hl with
  | [], _, _ => rfl
  | [a], hB, _ =>
    obtain ⟨⟨_, a1, a2, a3⟩, _⟩ := hB
    exact one rfl a1 a2 a3
  | [a, b], hB, _ =>
    obtain ⟨⟨a0, a1, a2, a3⟩, ⟨b0, b1, b2, b3⟩, _⟩ := hB
    replace a0 : a.id = 1 + first % 7 := a0.trans (congrArg (fun t => 1 + t) (mod_of (Int.add_zero first)))
    replace b0 : b.id = 1 + (first + 3) % 7 := b0.trans (congrArg (fun t => 1 + t) (mod_of rfl))
    clear hl
    rcases ids3 h0 h1 with ⟨k, _⟩ | ⟨_, k⟩ | ⟨k, k'⟩
    · have h := lt_up a0 b0 k
      exact two rfl n2_01 (Int.ne_of_lt h) (iff_of_true (by decide) h) (by decide) a1 b1 a2 a3 b2 b3
    · have h := lt_up a0 b0 k
      exact two rfl n2_01 (Int.ne_of_lt h) (iff_of_true (by decide) h) (by decide) a1 b1 a2 a3 b2 b3
    · have h := lt_up b0 a0 (Int.lt_trans k k')
      exact two rfl n2_10 (Int.ne_of_gt h) (iff_of_false (by decide) (Int.lt_asymm h)) (by decide) a1 b1 a2 a3 b2 b3
  | [a, b, c], hB, _ =>
    obtain ⟨⟨a0, a1, a2, a3⟩, ⟨b0, b1, b2, b3⟩, ⟨c0, c1, c2, c3⟩, _⟩ := hB
    replace a0 : a.id = 1 + first % 7 := a0.trans (congrArg (fun t => 1 + t) (mod_of (Int.add_zero first)))
    replace b0 : b.id = 1 + (first + 3) % 7 := b0.trans (congrArg (fun t => 1 + t) (mod_of rfl))
    replace c0 : c.id = 1 + (first + 6) % 7 := c0.trans (congrArg (fun t => 1 + t) (mod_of rfl))
    clear hl
    rcases ids3 h0 h1 with ⟨k, l⟩ | ⟨k, l⟩ | ⟨k, l⟩
    · have h := lt_up a0 b0 k
      have h' := lt_up b0 c0 l
      have h'' := Int.lt_trans h h'
      exact three rfl (x := 0) (y := 1) (z := 2) n3_012 (Int.ne_of_lt h) (Int.ne_of_lt h'') (Int.ne_of_lt h') (iff_of_true (by decide) h) (iff_of_true (by decide) h'') (iff_of_true (by decide) h') (by decide) (by decide) (by decide) a1 b1 c1 a2 a3 b2 b3 c2 c3
    · have h := lt_up c0 a0 k
      have h' := lt_up a0 b0 l
      have h'' := Int.lt_trans h h'
      exact three rfl (x := 1) (y := 2) (z := 0) n3_120 (Int.ne_of_lt h') (Int.ne_of_gt h) (Int.ne_of_gt h'') (iff_of_true (by decide) h') (iff_of_false (by decide) (Int.lt_asymm h)) (iff_of_false (by decide) (Int.lt_asymm h'')) (by decide) (by decide) (by decide) a1 b1 c1 a2 a3 b2 b3 c2 c3
    · have h := lt_up b0 c0 k
      have h' := lt_up c0 a0 l
      have h'' := Int.lt_trans h h'
      exact three rfl (x := 2) (y := 0) (z := 1) n3_201 (Int.ne_of_gt h'') (Int.ne_of_gt h') (Int.ne_of_lt h) (iff_of_false (by decide) (Int.lt_asymm h'')) (iff_of_false (by decide) (Int.lt_asymm h')) (iff_of_true (by decide) h) (by decide) (by decide) (by decide) a1 b1 c1 a2 a3 b2 b3 c2 c3
  | a :: b :: c :: d :: r, _, hl => simp only [List.length_cons] at hl; omega
end
-- Loop3
section
set_option maxRecDepth 100000
section
variable {prog : Program} {w : World} {A : Around} {E : Value → Shared → Prop} {s : Shared} {env : Env} {h₀ : Heap} {x : Str} {body : List Stmt} {Q : Flow → Shared → Prop}
abbrev tupOf (vs : Array Value) (n : Nat) : Obj := { cls := .type "tuple", data := .seq vs n }
/-- a turn's end where the ledger still holds what it held -/
def GrEnd (h₀ : Heap) (L : Addr) (x : Str) (stored : List Str) (m₀ : Str → Option Value) (all : LedT) (s₁ s₂ : Shared) : Prop :=
  ∃ (h' : Heap) (tk : Nat) (all' : LedT) (m' : Str → Option Value), s₂ = { s₁ with heap := h', toks := tk } ∧ Fr h₀ L h' m' ∧ News h₀ L h' all' ∧ (∀ p ∈ all, p ∈ all') ∧ ∀ z, z ≠ x → stored.contains z = false → m' z = m₀ z
def GrPost (h₀ : Heap) (L : Addr) (x : Str) (stored : List Str) (m₀ : Str → Option Value) (all : LedT) (s₁ : Shared) (Q : Flow → Shared → Prop) (f : Flow) (s₂ : Shared) : Prop :=
  match f with
  | .ret v => Q (.ret v) s₂
  | .brk => Q .next s₂
  | _ => GrEnd h₀ L x stored m₀ all s₁ s₂
theorem GrEnd.intro {h₀ : Heap} {L : Addr} {x : Str} {stored : List Str} {m₀ m' : Str → Option Value} {all all' : LedT} {s₁ : Shared} {h' : Heap} {tk : Nat} (F : Fr h₀ L h' m') (N : News h₀ L h' all') (hs : ∀ p ∈ all, p ∈ all') (hm : ∀ z, z ≠ x → stored.contains z = false → m' z = m₀ z) :
    GrEnd h₀ L x stored m₀ all s₁ { s₁ with heap := h', toks := tk } := ⟨h', tk, all', m', rfl, F, N, hs, hm⟩
theorem gr_keep {stored : List Str} {m m₀ : Str → Option Value} (v : Str → Option Value) (hm : ∀ z, z ≠ x → stored.contains z = false → m z = m₀ z) :
    (fun z => if z = x then v z else m z) = fun z => if z = x then v z else if stored.contains z then m z else m₀ z := by
  funext z
  by_cases h1 : z = x
  · simp [h1]
  · simp only [if_neg h1]
    cases h3 : stored.contains z with
    | true => simp
    | false => simp only [Bool.false_eq_true, if_false]; exact hm z h1 h3
theorem gr_all {stored : List Str} {m m₀ : Str → Option Value} (hm : ∀ z, z ≠ x → stored.contains z = false → m z = m₀ z) :
    m = fun z => if z = x then m z else if stored.contains z then m z else m₀ z := by
  have e := gr_keep m hm
  rw [← e]
  funext z
  simp
theorem gr_fin {stored : List Str} {m₀ m₁ : Str → Option Value} {news own : LedT} {s₁ s₂ : Shared} {q : Addr × Obj} {v : Option Value} (hq : q ∈ news) (hoff : OwnOff own (news.map (·.1))) (hm₁ : ∀ z, z ≠ x → stored.contains z = false → m₁ z = m₀ z)
    (f : Flow) (h : GrPost h₀ env.locals x stored (fun z => if z = x then v else if stored.contains z then m₁ z else m₀ z) (news ++ own) s₁ Q f s₂) :
    InvPostG h₀ env.locals (fun m' nx => q ∈ nx ∧ (nx = news ∧ ∀ z, z ≠ x → stored.contains z = false → m' z = m₀ z)) own s₁ Q f s₂ := by
  have fin : GrEnd h₀ env.locals x stored (fun z => if z = x then v else if stored.contains z then m₁ z else m₀ z) (news ++ own) s₁ s₂ → InvEndG h₀ env.locals (fun m' nx => q ∈ nx ∧ (nx = news ∧ ∀ z, z ≠ x → stored.contains z = false → m' z = m₀ z)) own s₁ s₂ := by
    rintro ⟨h', tk, all', m', e, F, N, hs, hm⟩
    refine ⟨h', tk, m', all', news, e, F, N, fun p hp => hs p (List.mem_append_left _ hp), fun p hp => hs p (List.mem_append_right _ hp), hoff, hq, rfl, fun z h1 h2 => ?_⟩
    have := hm z h1 h2
    rw [this]
    show (if z = x then v else if stored.contains z = true then m₁ z else m₀ z) = m₀ z
    rw [if_neg h1, h2, if_neg Bool.false_ne_true]
  cases f with
  | ret v => exact h
  | brk => exact h
  | next => exact fin h
  | cont => exact fin h
/-- a loop over a list of the ledger whose turns change nothing of it -/
theorem grow_list {l : Addr} {vs : List Value} {nn : Nat} {m₀ : Str → Option Value} {news : LedT} (stored : List Str)
    (hh : A.handled = none) (hl : (l, listOf vs.toArray nn) ∈ news) (F : Fr h₀ env.locals s.heap m₀) (N : News h₀ env.locals s.heap news)
    (turn : ∀ (v : Value) (u : Str → Option Value) (X : LedT) (h : Heap) (tk : Nat), v ∈ vs → (∀ p ∈ news, p ∈ X) → Fr h₀ env.locals h (fun z => if z = x then some v else if stored.contains z then u z else m₀ z) → News h₀ env.locals h X →
      wpAny (model prog w) A (execs body env) (GrPost h₀ env.locals x stored (fun z => if z = x then some v else if stored.contains z then u z else m₀ z) X { s with heap := h, toks := tk } Q) E { s with heap := h, toks := tk })
    (done : ∀ (u : Str → Option Value) (h : Heap) (tk : Nat), Fr h₀ env.locals h (fun z => if z = x then u z else if stored.contains z then u z else m₀ z) → News h₀ env.locals h news → Q .next { s with heap := h, toks := tk }) :
    wpAny (model prog w) A (pyIter (.ref l)) (fun it s₂ => LoopAtV prog w A h₀ env x body Q E it s₂) E s := by
  refine kdl_iter (fun _ m nx => nx = news ∧ ∀ z, z ≠ x → stored.contains z = false → m z = m₀ z) hh hl F N ⟨rfl, fun _ _ _ => rfl⟩ ?_ ?_
  · rintro i v m₁ nx h tk own hv hoff hl₁ ⟨rfl, hm⟩ F₁ N₁
    rw [gr_keep (fun _ => some v) hm] at F₁
    exact wpAny_mono (turn v m₁ _ h tk (List.mem_of_getElem? hv) (fun p hp => List.mem_append_left own hp) F₁ N₁) (fun f s₂ p => gr_fin hl₁ hoff hm f p) fun _ _ e => e
  · rintro m₁ nx h tk ⟨rfl, hm⟩ F₁ N₁
    exact done m₁ h tk (by rw [← gr_all hm]; exact F₁) N₁
/-- a loop over a tuple of the ledger whose turns change nothing of it: the library's rule for written items, by induction over them -/
theorem grow_tup {l : Addr} {px : Pos} {vs : List Value} {nn : Nat} {m₀ : Str → Option Value} {news : LedT} (stored : List Str)
    (hh : A.handled = none) (hl : (l, tupOf vs.toArray nn) ∈ news) (F : Fr h₀ env.locals s.heap m₀) (N : News h₀ env.locals s.heap news)
    (turn : ∀ (v : Value) (u : Str → Option Value) (X : LedT) (h : Heap) (tk : Nat), v ∈ vs → (∀ p ∈ news, p ∈ X) → Fr h₀ env.locals h (fun z => if z = x then u z else if stored.contains z then u z else m₀ z) → News h₀ env.locals h X →
      wpAny (model prog w) A (assign (.Name x px) env v) (fun _ s₃ => wpAny (model prog w) A (execs body env) (GrPost h₀ env.locals x stored m₀ X { s with heap := h, toks := tk } Q) E s₃) E { s with heap := h, toks := tk })
    (done : ∀ (u : Str → Option Value) (h : Heap) (tk : Nat), Fr h₀ env.locals h (fun z => if z = x then u z else if stored.contains z then u z else m₀ z) → News h₀ env.locals h news → Q .next { s with heap := h, toks := tk }) :
    wpAny (model prog w) A (pyIter (.ref l)) (fun it s₂ => TurnsAt prog w A h₀ env (.Name x px) body Q E it s₂) E s := by
  refine iter_tupTurns hh F N hl rfl rfl fun I hI => ?_
  have go : ∀ (ys : List Value) (m : Str → Option Value), (∀ y ∈ ys, y ∈ vs) → (∀ z, z ≠ x → stored.contains z = false → m z = m₀ z) →
      ItemsRest prog w A E h₀ env (.Name x px) body Q s [(I, "tuple_iterator")] [(l, tupOf vs.toArray nn)] (ys.map .val) m news := by
    intro ys
    induction ys with
    | nil => exact fun m _ hm => ItemsRest.zero fun h tk F' N' => done m h tk (by rw [← gr_all hm]; exact F') N'
    | cons y ys ih =>
      intro m hy hm
      refine ItemsRest.val fun h tk F' => AllObj.cons fun o _ => AllObj.nil fun N' => ?_
      refine wpAny_mono (turn y m ((I, o) :: news) h tk (hy y (.head _)) (fun p hp => .tail _ hp) (by rw [← gr_all hm]; exact F') N') (fun _ s₃ h₃ => wpAny_mono h₃ (fun f s₂ p => ?_) fun _ _ e => e) fun _ _ e => e
      have fin : GrEnd h₀ env.locals x stored m₀ ((I, o) :: news) { s with heap := h, toks := tk } s₂ → UnrEndW h₀ env.locals { s with heap := h, toks := tk } [(I, o)] (fun m' n' => SubL [(l, tupOf vs.toArray nn)] n' ∧ ItemsRest prog w A E h₀ env (.Name x px) body Q s [(I, "tuple_iterator")] [(l, tupOf vs.toArray nn)] (ys.map .val) m' n') s₂ := by
        rintro ⟨h', tk', all', m', e, F2, N2, hs, hm'⟩
        refine ⟨h', tk', m', news, e, F2, fun p hp => N2 p (hs p hp), fun p hp q hq => ?_, ⟨hl, trivial⟩, ih m' (fun z hz => hy z (.tail _ hz)) hm'⟩
        rw [List.mem_singleton.mp hq]
        exact Nat.ne_of_lt (hI p hp)
      cases f with
      | ret v => exact p
      | brk => exact p
      | next => exact fin p
      | cont => exact fin p
  exact go vs m₀ (fun _ h => h) fun _ _ _ => rfl
/-- a while whose turns count to n at most -/
theorem while_upto {test : PySem.Expr} {orelse : List Stmt} {k : Nat} (n : Nat) (Inv : Nat → Shared → Prop) (stop : ∀ s', ¬ Inv n s')
    (step : ∀ i s', i < n → Inv i s' → (∀ s'', Inv (i + 1) s'' → WhlRest prog w A E env test body orelse Q 0 s'') → WhlRest prog w A E env test body orelse Q 1 s') :
    ∀ (j : Nat), j ≤ n → ∀ s', Inv (n - j) s' → WhlRest prog w A E env test body orelse Q k s'
  | 0, _, s', h => absurd h (stop s')
  | j + 1, hj, s', h => step (n - (j + 1)) s' (by omega) h fun s'' h' => while_upto n Inv stop step j (by omega) s'' (by rw [show n - j = n - (j + 1) + 1 by omega]; exact h')
end
section
variable {prog : Program} {w : World} {A : Around} {E : Value → Shared → Prop} {s : Shared} {h₀ : Heap} {L a b : Addr} {news : LedT} {rs qs : List Row} {u v : Value} {n k : Nat} {Q : Value → Shared → Prop}
theorem end_reads {h : Heap} {x : Int} {t : Tok} (N : News h₀ L h news) (hm : (a, endObj v x t n) ∈ news) (hr : RowsAt news v rs) : ∃ as, Reads h (.ref a) (.tuple [rowsData rs, .int x]) as := by
  obtain ⟨l, vs, c, rfl, hl, hR⟩ := hr
  exact ⟨_, reads_tuple_at (N _ hm).1 rfl rfl (.cons (rows_reads N hl hR) (.cons (.int _ _) .nil))⟩
theorem eqv_end (as bs : List Row) (x y : Int) : PyData.eqv (.tuple [rowsData as, .int x]) (.tuple [rowsData bs, .int y]) = (decide (as = bs) && (x == y)) := by
  simp only [PyData.eqv, PyData.eqvAll, Bool.and_true]
  have := eqv_rows as bs
  rw [← this]
theorem ends_ne {x y : Int} {t t' : Tok} (N : News h₀ L s.heap news) (ha : (a, endObj u x t n) ∈ news) (hb : (b, endObj v y t' k) ∈ news) (hr : RowsAt news u rs) (hq : RowsAt news v qs) (hu : A.units + 64 < cLine)
    (h : Q (.bool (!(decide (rs = qs) && (x == y)))) s) : wpAny (model prog w) A (compareOp .NotEq (.ref a) (.ref b)) Q E s := by
  obtain ⟨as, ra⟩ := end_reads N ha hr
  obtain ⟨bs, rb⟩ := end_reads N hb hq
  exact ne_dataH ra rb (shaped_end rs x) (shaped_end qs y) hu (by rw [eqv_end]; exact h)
theorem ends_eq {x y : Int} {t t' : Tok} (N : News h₀ L s.heap news) (ha : (a, endObj u x t n) ∈ news) (hb : (b, endObj v y t' k) ∈ news) (hr : RowsAt news u rs) (hq : RowsAt news v qs) (hu : A.units + 64 < cLine)
    (h : Q (.bool (decide (rs = qs) && (x == y))) s) : wpAny (model prog w) A (compareOp .Eq (.ref a) (.ref b)) Q E s := by
  obtain ⟨as, ra⟩ := end_reads N ha hr
  obtain ⟨bs, rb⟩ := end_reads N hb hq
  exact eq_dataH ra rb (shaped_end rs x) (shaped_end qs y) hu (by rw [eqv_end]; exact h)
end
end
-- Law2
section
set_option maxRecDepth 100000
theorem ne_sym {a b : Nat} (h : a ≠ b) : b ≠ a := fun e => h e.symm
/-- a round by the law's own reading, beside the pen, the list that is turned and what else stays -/
theorem round_go {w : World} {p : Program} {loose : List Str} {mean : ExcName → Option Value} {mg mb : Str → Option Value}
    {dp un : Nat} {gd : Option (List Code)} {cn : Str} {cs : Scope} {a : Addr} {ccd : Value} {cl : List (Str × Addr)} {outer : List Env} {A₀ : Around} {base h₀ : Heap} {L : Addr} {m : Str → Option Value} {allN : LedT} {s : Shared}
    {Q E : Value → Shared → Prop} {P RR : Addr} {oP : Obj} {ps : Array Value} {ws : List Value} {c : Nat} {cur : List Row} {all : LedT}
    (B : Below A₀ base outer h₀) (F : Fr h₀ L s.heap m) (X : Frag.In (Mine.hd.heap_39 w.params) h₀) (N : News h₀ L s.heap allN) (T : Top p loose mean mg mb h₀) (hk : cs.kind = .function) (hC : CodeHd base 164 162)
    (m1 : (162, tabObj ps) ∈ allN) (m2 : (P, oP) ∈ allN) (m3 : (RR, listOf ws.toArray c) ∈ allN) (m4 : ∀ p ∈ all, p ∈ allN) (hA : RowAll all ws cur) (hT : TabSt all ps) (n162 : ∀ p ∈ all, p.1 ≠ 162) (nP : ∀ p ∈ all, p.1 ≠ P) (nn : @Ne Nat P 162 ∧ @Ne Nat RR 162 ∧ @Ne Nat RR P)
    (hl : cur.length ≤ 3) (hi : Ids cur) (hd : dp + 22 < recursionLimit) (hu : un + 8 * 22 < cLine)
    (ret : ∀ D vs9 n9 all2 ps' h' tk', Fr h₀ L h' m → News h₀ L h' ((162, tabObj ps') :: (P, oP) :: (RR, listOf ws.toArray c) :: (D, listOf vs9.toArray n9) :: all2) → RowAll all2 vs9 (toldRound cur) → TabSt all2 ps' → (∀ p ∈ all2, p.1 ≠ 162) → (∀ p ∈ all2, p.1 ≠ P) → (∀ p ∈ all, p ∈ all2) →
      (@Ne Nat D 162 ∧ @Ne Nat D P) → Q (.ref D) { s with heap := h', toks := tk' }) :
    wpAny (model (RowW.prog (OpenRow.toRowW (OpenLaw.row PySem.Challenge.rw_rh0201_01))) w) (ktrTop dp un gd cn cs L a ccd cl outer) (call (.ref 179) [.ref RR]) Q E s := by
  have sub : ∀ q ∈ all, q ∈ (P, oP) :: (RR, listOf ws.toArray c) :: all := fun q hq => .tail _ (.tail _ hq)
  refine round_spec w (.ref RR) cur p loose mean mg mb dp un gd cn cs a ccd cl outer A₀ base h₀ L m ((P, oP) :: (RR, listOf ws.toArray c) :: all) ps s Q E B F X (fun q hq => ?_) T hk hC (hT.mono sub) (fun q hq => ?_)
    ⟨⟨RR, ws, c, rfl, .tail _ (.head _), hA.mono sub⟩, hl, hi⟩ hd hu ?_
  · rcases List.mem_cons.mp hq with rfl | hq
    · exact N _ m1
    · rcases List.mem_cons.mp hq with rfl | hq
      · exact N _ m2
      · rcases List.mem_cons.mp hq with rfl | hq
        · exact N _ m3
        · exact N _ (m4 _ hq)
  · rcases List.mem_cons.mp hq with rfl | hq
    · exact ne_sym nn.1
    · rcases List.mem_cons.mp hq with rfl | hq
      · exact ne_sym nn.2.1
      · exact fun e => n162 q hq e.symm
  · intro r tl ps' h' tk' F' N' hps h162 hfr ho
    obtain ⟨D, vs9, n9, tl8, rfl, rfl, hR⟩ := ho
    have hR' : RowAll tl8 vs9 (toldRound cur) := hR
    refine ret D vs9 n9 (tl8 ++ all) ps' h' tk' F' (fun q hq => N' q ?_) (hR'.mono fun q hq => List.mem_append_left _ hq) ?_ ?_ ?_ (fun q hq => List.mem_append_right _ hq) ⟨ne_sym (h162 _ (.head _)), hfr (P, oP) (.head _) _ (.head _)⟩
    · simp only [List.mem_cons, List.mem_append, List.cons_append] at hq ⊢
      rcases hq with hq | hq | hq | hq | hq | hq <;> simp [hq]
    · rcases hps with rfl | hps
      · exact hT.mono fun q hq => List.mem_append_right _ hq
      · rcases hps with h | ⟨c', oc, us, t, x1, x2, x3, x4⟩
        · exact .inl h
        · refine .inr ⟨c', oc, us, t, x1, ?_, x3, x4⟩
          rcases List.mem_cons.mp x2 with e | x2
          · have e2 := congrArg (fun q : Addr × Obj => q.2) e
            dsimp only at e2
            rw [e2] at x3
            cases x3
          · exact List.mem_append_left _ x2
    · intro q hq
      rcases List.mem_append.mp hq with hq | hq
      · exact fun e => h162 q (.tail _ hq) e.symm
      · exact n162 q hq
    · intro q hq
      rcases List.mem_append.mp hq with hq | hq
      · exact hfr (P, oP) (.head _) q (.tail _ hq)
      · exact nP q hq
theorem fr_swap {h₀ h : Heap} {L : Addr} {m m' : Str → Option Value} (F : Fr h₀ L h m) (e : ∀ z, m z = m' z) : Fr h₀ L h m' := by
  rw [← funext e]; exact F
section
variable {prog : Program} {w : World} {A : Around} {E : Value → Shared → Prop} {s : Shared} {env : Env} {h₀ : Heap} {Q : Flow → Shared → Prop}
structure WSt (P RR : Addr) (ps : Array Value) (ws : List Value) (all base : LedT) (cur : List Row) : Prop where
  rows : RowAll all ws cur
  tab : TabSt all ps
  n162 : ∀ p ∈ all, p.1 ≠ 162
  nP : ∀ p ∈ all, p.1 ≠ P
  nn : @Ne Nat P 162 ∧ @Ne Nat RR 162 ∧ @Ne Nat RR P
  sub : ∀ p ∈ base, p ∈ all
def WInv (h₀ : Heap) (L P : Addr) (oP : Obj) (base : LedT) (rs : List Row) (m₀ : Str → Option Value) (s : Shared) (i : Nat) (s' : Shared) : Prop :=
  ∃ (h : Heap) (tk : Nat) (RR : Addr) (ws : List Value) (c : Nat) (ps : Array Value) (all : LedT) (t : Tok), s' = { s with heap := h, toks := tk } ∧
    Fr h₀ L h (fun z => if z = Str.ofString "rest" then some (.ref RR) else if z = Str.ofString "rounds" then some (.int ((i : Nat) : Int) t) else m₀ z) ∧ News h₀ L h ((162, tabObj ps) :: (P, oP) :: (RR, listOf ws.toArray c) :: all) ∧ WSt P RR ps ws all base (toldIter rs i) ∧ ∀ j, j < i → toldIter rs (j + 1) ≠ toldIter rs j
/-- the law's own rounds, till one turns nothing -/
theorem law_while {test : PySem.Expr} {body orelse : List Stmt} {k : Nat} {RR P R T : Addr} {oP oR oT : Obj} {t0 : Tok} {m₀ : Str → Option Value} {ws : List Value} {c0 : Nat} {rs : List Row} {rest : LedT} {kk : Int}
    (F : Fr h₀ env.locals s.heap (fun z => if z = Str.ofString "rest" then some (.ref RR) else if z = Str.ofString "rounds" then some (.int kk t0) else m₀ z)) (hkk : kk = 0)
    (N : News h₀ env.locals s.heap ((T, oT) :: (RR, listOf ws.toArray c0) :: (P, oP) :: (R, oR) :: (162, tabObj #[]) :: rest))
    (hd : @LT.lt Nat _ 162 P ∧ @LT.lt Nat _ P R ∧ @LT.lt Nat _ R RR) (b1 : ∀ p ∈ rest, p.1 ≠ 162) (b2 : ∀ p ∈ rest, p.1 ≠ P) (hA : RowAll rest ws rs) (hstop : toldIter rs 3 = toldIter rs 2)
    (step : ∀ (i : Nat) (h : Heap) (tk : Nat) (RR : Addr) (ws : List Value) (c : Nat) (ps : Array Value) (all : LedT) (t : Tok), i < 3 → Fr h₀ env.locals h (fun z => if z = Str.ofString "rest" then some (.ref RR) else if z = Str.ofString "rounds" then some (.int ((i : Nat) : Int) t) else m₀ z) → News h₀ env.locals h ((162, tabObj ps) :: (P, oP) :: (RR, listOf ws.toArray c) :: all) →
      WSt P RR ps ws all ((R, oR) :: rest) (toldIter rs i) → Kept (∀ j, j < i → toldIter rs (j + 1) ≠ toldIter rs j) →
      (∀ (h' : Heap) (tk' : Nat) (RR' : Addr) (ws' : List Value) (c' : Nat) (ps' : Array Value) (all' : LedT) (t' : Tok) (k : Nat), Fr h₀ env.locals h' (fun z => if z = Str.ofString "rest" then some (.ref RR') else if z = Str.ofString "rounds" then some (.int (((i + 1 : Nat)) : Int) t') else m₀ z) → News h₀ env.locals h' ((162, tabObj ps') :: (P, oP) :: (RR', listOf ws'.toArray c') :: all') →
        WSt P RR' ps' ws' all' ((R, oR) :: rest) (toldIter rs (i + 1)) → toldIter rs (i + 1) ≠ toldIter rs i → WhlRest prog w A E env test body orelse Q k { s with heap := h', toks := tk' }) →
      WhlRest prog w A E env test body orelse Q 1 { s with heap := h, toks := tk }) :
    WhlRest prog w A E env test body orelse Q k s := by
  subst hkk
  refine while_upto 3 (WInv h₀ env.locals P oP ((R, oR) :: rest) rs m₀ s) ?_ ?_ 3 (Nat.le_refl 3) s ?_
  · rintro s' ⟨h, tk, RR, ws, c, ps, all, t, rfl, F', N', W, hno⟩
    exact hno 2 (by omega) hstop
  · rintro i s' hi ⟨h, tk, RR, ws, c, ps, all, t, rfl, F', N', W, hno⟩ ih
    refine step i h tk RR ws c ps all t hi F' N' W ⟨hno⟩ fun h' tk' RR' ws' c' ps' all' t' k F2 N2 W2 hne => ?_
    refine ih _ ⟨h', tk', RR', ws', c', ps', all', t', rfl, F2, N2, W2, fun j hj => ?_⟩
    by_cases e : j = i
    · rw [e]; exact hne
    · exact hno j (by omega)
  · obtain ⟨d1, d2, d3⟩ := hd
    refine ⟨s.heap, s.toks, RR, ws, c0, #[], (R, oR) :: rest, t0, rfl, F, fun q hq => N q ?_, ⟨hA.mono fun q hq => .tail _ hq, .inl rfl, ?_, ?_, ⟨by refine neN ?_; omega, by refine neN ?_; omega, by refine neN ?_; omega⟩, fun _ h => h⟩, fun j hj => absurd hj (Nat.not_lt_zero j)⟩
    · simp only [List.mem_cons] at hq ⊢
      rcases hq with hq | hq | hq | hq | hq <;> simp [hq]
    · intro q hq
      rcases List.mem_cons.mp hq with rfl | hq
      · refine neN ?_; dsimp only; omega
      · exact b1 q hq
    · intro q hq
      rcases List.mem_cons.mp hq with rfl | hq
      · refine neN ?_; dsimp only; omega
      · exact b2 q hq
end
/-- settled, its bound reached -/
theorem settled_hit (w : World) (v : Value) {rs qs : List Row} {most k : Nat} (tm : Tok) (h : settle rs most = some (qs, k)) : Spec w 116 40 [v, .int (most : Int) tm] (fun news => RowsAt news v rs ∧ rs.length ≤ 60 ∧ most ≤ 60)
    (fun news tl r => ∃ D v t n tl', tl = (D, endObj v (k : Int) t n) :: tl' ∧ r = .ref D ∧ RowsAt (tl' ++ news) v qs) := by
  have := settled_spec w v rs most tm
  rw [h] at this
  exact this
theorem settled_none (w : World) (v : Value) {rs : List Row} {most : Nat} (tm : Tok) (h : settle rs most = none) : Spec w 116 40 [v, .int (most : Int) tm] (fun news => RowsAt news v rs ∧ rs.length ≤ 60 ∧ most ≤ 60)
    (fun _ tl r => tl = [] ∧ r = .none) := by
  have := settled_spec w v rs most tm
  rw [h] at this
  exact this
section
variable {prog : Program} {w : World} {A : Around} {E : Value → Shared → Prop} {s : Shared} {h₀ : Heap} {L a b : Addr} {news : LedT} {rs : List Row} {u v : Value} {n k : Nat} {Q : Value → Shared → Prop}
theorem ends_same_ne {x : Int} {t t' : Tok} (N : News h₀ L s.heap news) (ha : (a, endObj u x t n) ∈ news) (hb : (b, endObj v x t' k) ∈ news) (hr : RowsAt news u rs) (hq : RowsAt news v rs) (hu : A.units + 64 < cLine)
    (h : Q (.bool false) s) : wpAny (model prog w) A (compareOp .NotEq (.ref a) (.ref b)) Q E s :=
  ends_ne N ha hb hr hq hu (by simpa using h)
theorem ends_same_eq {x : Int} {t t' : Tok} (N : News h₀ L s.heap news) (ha : (a, endObj u x t n) ∈ news) (hb : (b, endObj v x t' k) ∈ news) (hr : RowsAt news u rs) (hq : RowsAt news v rs) (hu : A.units + 64 < cLine)
    (h : Q (.bool true) s) : wpAny (model prog w) A (compareOp .Eq (.ref a) (.ref b)) Q E s :=
  ends_eq N ha hb hr hq hu (by simpa using h)
end
theorem rowAll_mem {news : LedT} {vs : List Value} {rs : List Row} (h : RowAll news vs rs) : ∀ {v : Value}, v ∈ vs → ∃ r, r ∈ rs ∧ RowAt news v r := by
  induction h with
  | nil => intro v hv; exact absurd hv List.not_mem_nil
  | cons h _ ih =>
    intro v hv
    rcases List.mem_cons.mp hv with rfl | hv
    · exact ⟨_, .head _, h⟩
    · obtain ⟨r, hr, h'⟩ := ih hv
      exact ⟨r, .tail _ hr, h'⟩
theorem four_ints {v : Value} {i : Nat} {a : Int} {t1 t2 t3 t4 : Tok} (ha0 : 0 ≤ a) (ha : a ≤ 60) (hi : i ≤ 60) (h : v ∈ [Value.int 0 t1, .int 1 t2, .int (i : Int) t3, .int a t4]) : ∃ (q : Nat) (t : Tok), v = .int (q : Int) t ∧ q ≤ 60 := by
  simp only [List.mem_cons, List.not_mem_nil, or_false] at h
  rcases h with rfl | rfl | rfl | rfl
  · exact ⟨0, t1, rfl, by omega⟩
  · exact ⟨1, t2, rfl, by omega⟩
  · exact ⟨i, t3, rfl, hi⟩
  · exact ⟨a.toNat, t4, by rw [Int.toNat_of_nonneg ha0], by omega⟩
theorem four3 {v : Value} {i : Nat} {y : Int} {t1 t2 t3 t4 : Tok} (h0 : 0 ≤ y) (h1 : y < 3) (hi : i < 3) (h : v ∈ [Value.int 0 t1, .int 1 t2, .int (i : Int) t3, .int ((i : Int) + 1 + y) t4]) : ∃ (q : Nat) (t : Tok), v = .int (q : Int) t ∧ q ≤ 60 :=
  four_ints (by omega) (by omega) (by omega) h
/-- a mark: the walk halts at a comparison of two objects -/
structure HoldNe : Prop where
theorem ite_beq_pos {a b : Int} {p q : Prop} (h : a = b) (hp : p) : if (a == b) = true then p else q := by rw [if_pos (beq_iff_eq.mpr h)]; exact hp
theorem ite_beq_neg {a b : Int} {p q : Prop} (h : ¬ a = b) (hq : q) : if (a == b) = true then p else q := by rw [if_neg fun e => h (beq_iff_eq.mp e)]; exact hq
section
variable {prog : Program} {w : World} {A : Around} {E : Value → Shared → Prop} {s : Shared} {h₀ : Heap} {L a : Addr} {news : LedT} {p : Int × Int} {t1 t2 u : Tok} {n : Nat} {x : Int} {b : Bool} {Q : Value → Shared → Prop}
theorem in_pair (N : News h₀ L s.heap news) (hm : (a, pairObj p t1 t2 n) ∈ news) (hb : ((p.1 == x) || (p.2 == x)) = b) (h : Q (.bool b) s) : wpAny (model prog w) A (compareOp .In (.int x u) (.ref a)) Q E s := by
  refine in_tuple_ints (ns := [p.1, p.2]) (News.isTup N hm) (.cons _ _ (.cons _ _ .nil)) ?_
  subst hb
  simpa using h
theorem notin_pair (N : News h₀ L s.heap news) (hm : (a, pairObj p t1 t2 n) ∈ news) (hb : ((p.1 == x) || (p.2 == x)) = b) (h : Q (.bool (!b)) s) : wpAny (model prog w) A (compareOp .NotIn (.int x u) (.ref a)) Q E s := by
  refine notin_tuple_ints (ns := [p.1, p.2]) (News.isTup N hm) (.cons _ _ (.cons _ _ .nil)) ?_
  subst hb
  simpa using h
theorem in_b1 (h : p.1 = x) : ((p.1 == x) || (p.2 == x)) = true := by simp [h]
theorem in_b2 (h : p.2 = x) : ((p.1 == x) || (p.2 == x)) = true := by simp [h]
theorem in_b3 (h1 : ¬ p.1 = x) (h2 : ¬ p.2 = x) : ((p.1 == x) || (p.2 == x)) = false := by simp [h1, h2]
end
theorem last_news {h₀ h : Heap} {L : Addr} {q1 q2 q3 q4 q5 : Addr × Obj} {all : LedT} (N : News h₀ L h (q1 :: q2 :: q3 :: q4 :: q5 :: all)) : News h₀ L h (q2 :: q4 :: all) := fun p hp => N p (by
  simp only [List.mem_cons] at hp ⊢
  rcases hp with hp | hp | hp <;> simp [hp])
theorem last_open {h₀ h : Heap} {L : Addr} {D q2 q4 : Addr × Obj} {tl all : LedT} {v : Value} {qs rs : List Row} {ws : List Value} (N : News h₀ L h (D :: (tl ++ q2 :: q4 :: all))) (hr : RowsAt (tl ++ q2 :: q4 :: all) v qs) (hA : RowAll all ws rs) :
    ∃ X, News h₀ L h (q2 :: D :: q4 :: X) ∧ RowsAt X v qs ∧ RowAll X ws rs := by
  refine ⟨tl ++ q2 :: q4 :: all, fun p hp => N p ?_, hr, hA.mono fun p hp => by simp [hp]⟩
  simp only [List.mem_cons, List.mem_append] at hp ⊢
  rcases hp with hp | hp | hp | hp | hp | hp | hp <;> simp [hp]
theorem yes_news {h₀ h : Heap} {L : Addr} {q1 q2 q3 q4 q5 : Addr × Obj} {all : LedT} (N : News h₀ L h (q1 :: q2 :: q3 :: q4 :: q5 :: all)) : News h₀ L h (q2 :: q3 :: q5 :: all) := fun p hp => N p (by
  simp only [List.mem_cons] at hp ⊢
  rcases hp with hp | hp | hp | hp <;> simp [hp])
theorem yes_fr {D RR : Addr} {i : Nat} {t t' : Tok} {m₀ : Str → Option Value} (z : Str) : (if z = Str.ofString "rest" then some (Value.ref D) else if z = Str.ofString "rounds" then some (.int ((i : Int) + 1) t') else if z = Str.ofString "rest" then some (.ref RR) else if z = Str.ofString "rounds" then some (.int (i : Int) t) else m₀ z) =
    (if z = Str.ofString "rest" then some (Value.ref D) else if z = Str.ofString "rounds" then some (.int ((i + 1 : Nat) : Int) t') else m₀ z) := by
  by_cases h1 : z = Str.ofString "rest"
  · rw [if_pos h1, if_pos h1]
  · by_cases h2 : z = Str.ofString "rounds"
    · simp only [if_neg h1, if_pos h2]; rfl
    · simp only [if_neg h1, if_neg h2]
theorem post_true {args ds : List WData} : (RowW.claim (OpenRow.toRowW (OpenLaw.row PySem.Challenge.rw_rh0201_01))).post args (.bool true) ds = true := by
  have e : ∀ (R : WRecords) (c : WCtx), c.res = some (.bool true) → (WShape.has R (.bool true) .bool && WTm.holds R (.eq .res (.lit (.bool true))) c) = true := by
    intro R c h
    have h1 := w_eq_bool (R := R) (e := c) (w_res h) (w_lit (d := .bool true))
    have h2 : WTm.holds R (.eq .res (.lit (.bool true))) c = true := by unfold WTm.holds; rw [h1]; rfl
    rw [h2, Bool.and_true]
    unfold WShape.has
    refine List.any_eq_true.mpr ⟨.bool, ?_, rfl⟩
    simp [WShape.arms]
  exact e _ _ rfl
set_option maxRecDepth 100000 in
theorem good_true {cl : Str → Option Addr} {mean : ExcName → Option Value} {args : List WData} {s₁ s' : Shared} (hk : ∀ b o, s₁.heap.get? b = some o → s'.heap.get? b = some o) (ho : s'.os = s₁.os) (hg : s'.gens = #[]) :
    GoodW (RowW.claim (OpenRow.toRowW (OpenLaw.row PySem.Challenge.rw_rh0201_01))) cl mean args s₁ (.ok (.ret (.bool true))) s' :=
  ⟨.inl ⟨.bool true, .bool true, [], rfl, fun cls => by rfl, .bool true, post_true, fun _ => ⟨.nil, fun _ h => nomatch h⟩⟩, hk, ho, hg⟩
end
-- Law3
section
set_option maxRecDepth 100000
theorem pen0 {k : Int} (h : 0 ≤ k) : 0 ≤ k + 1 := by omega
theorem penK {k : Int} (h : k ≤ 900) : k ≤ 1000 ∧ k + 1 ≤ 1000 ∧ k + 1 + 1 ≤ 1000 ∧ k + 1 + 1 + 1 ≤ 1000 ∧ k + 1 + 1 + 1 + 1 ≤ 1000 := by omega
theorem penM {v : Int} (h : 0 ≤ v) : 0 < 1 + v := by omega
def roleOf (r : Row) : Str := if r.dr = r.ad then Str.ofString "dr" else if r.bk = r.ad then Str.ofString "backup" else Str.ofString "other"
theorem role_dr {r : Row} (h : (r.dr, r.bk).1 = r.ad) : roleOf r = Str.ofString "dr" := if_pos h
theorem role_bk {r : Row} (h : ¬ (r.dr, r.bk).1 = r.ad) (h' : (r.dr, r.bk).2 = r.ad) : roleOf r = Str.ofString "backup" := (if_neg h).trans (if_pos h')
theorem role_other {r : Row} (h : ¬ (r.dr, r.bk).1 = r.ad) (h' : ¬ (r.dr, r.bk).2 = r.ad) : roleOf r = Str.ofString "other" := (if_neg h).trans (if_neg h')
theorem role_ok (r : Row) : PyData.strOk (roleOf r) = true := by
  unfold roleOf
  split
  · decide +kernel
  · split <;> decide +kernel
theorem elect_ok : PyData.strOk (Str.ofString "elect") = true := by decide +kernel
def RolePost (h₀ : Heap) (L : Addr) (m : Str → Option Value) (news : LedT) (ρ : Str) (s : Shared) (f : Flow) (s' : Shared) : Prop :=
  f = .next ∧ ∃ (h : Heap) (tk : Nat) (t : Tok), s' = { s with heap := h, toks := tk } ∧ Fr h₀ L h (fun z => if z = Str.ofString "role" then some (.str ρ t) else m z) ∧ News h₀ L h news
theorem rolePost {h₀ h : Heap} {L : Addr} {m : Str → Option Value} {news : LedT} {ρ σ : Str} {s : Shared} {tk : Nat} {t : Tok} (e : ρ = σ) (F : Fr h₀ L h (fun z => if z = Str.ofString "role" then some (.str σ t) else m z)) (N : News h₀ L h news) :
    RolePost h₀ L m news ρ s .next { s with heap := h, toks := tk } := ⟨rfl, h, tk, t, rfl, by rw [e]; exact F, N⟩
section
variable {prog : Program} {w : World} {A : Around} {s : Shared} {env : Env} {h₀ : Heap} {L a b c d : Addr} {m : Str → Option Value} {news : LedT}
theorem role_cut {E : Value → Shared → Prop} {Q : Flow → Shared → Prop} {stmt : Stmt} (ρ : Str) (_F : Fr h₀ L s.heap m) (_N : News h₀ L s.heap news)
    (h1 : wpAny (model prog w) A (exec stmt env) (RolePost h₀ L m news ρ s) E s)
    (h2 : ∀ (t : Tok) (h : Heap) (tk : Nat), Fr h₀ L h (fun z => if z = Str.ofString "role" then some (.str ρ t) else m z) → News h₀ L h news → Q .next { s with heap := h, toks := tk }) :
    wpAny (model prog w) A (exec stmt env) Q E s :=
  wpAny_mono h1 (fun f s' h => by
    obtain ⟨rfl, h, tk, t, rfl, F', N'⟩ := h
    exact h2 t h tk F' N') fun _ _ e => e
variable {E : Value → Shared → Prop} {Q : Value → Shared → Prop} {ρ σ : Str} {t t' u u' : Tok} {n k j l : Nat}
theorem ne_str_same (h : Q (.bool false) s) : wpAny (model prog w) A (compareOp .NotEq (.str ρ t) (.str ρ u)) Q E s :=
  PyProof.Rows.ne_str (by simpa using h)
theorem in_chosen {r : Row} (ht : IsTup s.heap a #[.str (Str.ofString "other") t, .str (Str.ofString "backup") u, .str (Str.ofString "dr") u']) (h : Q (.bool true) s) : wpAny (model prog w) A (compareOp .In (.str (roleOf r) t') (.ref a)) Q E s := by
  refine in_tuple_strs (ys := [Str.ofString "other", Str.ofString "backup", Str.ofString "dr"]) ht (.cons _ _ (.cons _ _ (.cons _ _ .nil))) ?_
  have e : ([Str.ofString "other", Str.ofString "backup", Str.ofString "dr"].any (· == roleOf r)) = true := by
    unfold roleOf
    split
    · rfl
    · split <;> rfl
  rw [e]
  exact h
theorem role_ne (N : News h₀ L s.heap news) (ha : (a, ({ cls := .type "tuple", data := .seq #[.str ρ t, .ref c] n } : Obj)) ∈ news) (hc : (c, ({ cls := .type "tuple", data := .seq #[.str σ u] k } : Obj)) ∈ news)
    (hb : (b, ({ cls := .type "tuple", data := .seq #[.str ρ t', .ref d] j } : Obj)) ∈ news) (hd : (d, ({ cls := .type "tuple", data := .seq #[.str σ u'] l } : Obj)) ∈ news) (h1 : PyData.strOk ρ = true) (h2 : PyData.strOk σ = true) (hu : A.units + 64 < cLine)
    (h : Q (.bool false) s) : wpAny (model prog w) A (compareOp .NotEq (.ref a) (.ref b)) Q E s := by
  have r1 : Reads s.heap (.ref c) (.tuple [.str σ]) [] := reads_tuple_at (N _ hc).1 rfl rfl (.cons (.str _ _) .nil)
  have r2 : Reads s.heap (.ref d) (.tuple [.str σ]) [] := reads_tuple_at (N _ hd).1 rfl rfl (.cons (.str _ _) .nil)
  have r3 : Reads s.heap (.ref a) (.tuple [.str ρ, .tuple [.str σ]]) [] := reads_tuple_at (N _ ha).1 rfl rfl (.cons (.str _ _) (.cons r1 .nil))
  have r4 : Reads s.heap (.ref b) (.tuple [.str ρ, .tuple [.str σ]]) [] := reads_tuple_at (N _ hb).1 rfl rfl (.cons (.str _ _) (.cons r2 .nil))
  have sh : SeqAt.shaped (.tuple [.str ρ, .tuple [.str σ]]) = true := by
    unfold SeqAt.shaped
    simp [PyData.canLay0, PyData.canLayAll0, PyData.depth, PyData.depthAll, h1, h2]
  refine ne_dataH r3 r4 sh sh hu ?_
  have e : PyData.eqv (.tuple [.str ρ, .tuple [.str σ]]) (.tuple [.str ρ, .tuple [.str σ]]) = true := by simp [PyData.eqv, PyData.eqvAll]
  rw [e]
  exact h
end
end
-- F12
theorem kw17 : True := by
  k_with_none
  k_with "eval ListComp" => (k_here; lct_look; lcg_calm; k_dflt (refine LCt.ListComp_T (F₀ := by k_asm) (by with_unfolding_all rfl) (by decide) (by rfl) (by decide) (by rfl) ?_))
  k_with "exec Assign cons ListComp" => (k_here; lct_look; lcg_calm; k_dflt (refine LCt.Assign_ListComp_T (F₀ := by k_asm) (by rfl) (by with_unfolding_all rfl) (by with_unfolding_all rfl) (by decide) (by rfl) (by decide) (by rfl) (by rfl) (by rfl) ?_))
  k_with "subscriptTail" => (k_here; (with_reducible show wpAny _ _ (subscriptTail _ _ (Value.ref _) (Value.int _ _)) _ _ _); k_dflt (refine' item_tupleT ?kwt ?kwa ?kwb ?kwc ?kwd ?_; (case kwt => exact News.isTup (by k_asm) (by k_mem)); (case kwa => decide); (case kwb => decide); (case kwc => rfl); (case kwd => rfl); k_whole))
  k_with "kw mem" => (first | with_reducible assumption | (refine List.mem_append_right _ ?_; first | with_reducible assumption | (refine List.mem_cons_of_mem _ ?_; first | with_reducible assumption | (refine List.mem_cons_of_mem _ ?_; first | with_reducible assumption | (refine List.mem_cons_of_mem _ ?_; with_reducible assumption)))) | (refine List.mem_cons_of_mem _ ?_; first | with_reducible assumption | (refine List.mem_append_right _ ?_; first | with_reducible assumption | (refine List.mem_cons_of_mem _ ?_; first | with_reducible assumption | (refine List.mem_cons_of_mem _ ?_; first | with_reducible assumption | (refine List.mem_cons_of_mem _ ?_; with_reducible assumption)))) | (refine List.mem_cons_of_mem _ ?_; first | with_reducible assumption | (refine List.mem_append_right _ ?_; first | with_reducible assumption | (refine List.mem_cons_of_mem _ ?_; first | with_reducible assumption | (refine List.mem_cons_of_mem _ ?_; first | with_reducible assumption | (refine List.mem_cons_of_mem _ ?_; with_reducible assumption)))) | (refine List.mem_cons_of_mem _ ?_; first | with_reducible assumption | (refine List.mem_append_right _ ?_; first | with_reducible assumption | (refine List.mem_cons_of_mem _ ?_; first | with_reducible assumption | (refine List.mem_cons_of_mem _ ?_; first | with_reducible assumption | (refine List.mem_cons_of_mem _ ?_; with_reducible assumption)))) | (refine List.mem_cons_of_mem _ ?_; first | with_reducible assumption | (refine List.mem_append_right _ ?_; first | with_reducible assumption | (refine List.mem_cons_of_mem _ ?_; first | with_reducible assumption | (refine List.mem_cons_of_mem _ ?_; first | with_reducible assumption | (refine List.mem_cons_of_mem _ ?_; with_reducible assumption)))) | (refine List.mem_cons_of_mem _ ?_; first | with_reducible assumption | (refine List.mem_append_right _ ?_; first | with_reducible assumption | (refine List.mem_cons_of_mem _ ?_; first | with_reducible assumption | (refine List.mem_cons_of_mem _ ?_; first | with_reducible assumption | (refine List.mem_cons_of_mem _ ?_; with_reducible assumption)))) | (refine List.mem_cons_of_mem _ ?_; first | with_reducible assumption | (refine List.mem_append_right _ ?_; first | with_reducible assumption | (refine List.mem_cons_of_mem _ ?_; first | with_reducible assumption | (refine List.mem_cons_of_mem _ ?_; first | with_reducible assumption | (refine List.mem_cons_of_mem _ ?_; with_reducible assumption)))) | (refine List.mem_cons_of_mem _ ?_; first | with_reducible assumption | (refine List.mem_append_right _ ?_; first | with_reducible assumption | (refine List.mem_cons_of_mem _ ?_; first | with_reducible assumption | (refine List.mem_cons_of_mem _ ?_; first | with_reducible assumption | (refine List.mem_cons_of_mem _ ?_; with_reducible assumption)))) | (refine List.mem_cons_of_mem _ ?_; first | with_reducible assumption | (refine List.mem_append_right _ ?_; first | with_reducible assumption | (refine List.mem_cons_of_mem _ ?_; first | with_reducible assumption | (refine List.mem_cons_of_mem _ ?_; first | with_reducible assumption | (refine List.mem_cons_of_mem _ ?_; with_reducible assumption)))) | (refine List.mem_cons_of_mem _ ?_; first | with_reducible assumption | (refine List.mem_append_right _ ?_; first | with_reducible assumption | (refine List.mem_cons_of_mem _ ?_; first | with_reducible assumption | (refine List.mem_cons_of_mem _ ?_; first | with_reducible assumption | (refine List.mem_cons_of_mem _ ?_; with_reducible assumption)))) | (refine List.mem_cons_of_mem _ ?_; first | with_reducible assumption | (refine List.mem_append_right _ ?_; first | with_reducible assumption | (refine List.mem_cons_of_mem _ ?_; first | with_reducible assumption | (refine List.mem_cons_of_mem _ ?_; first | with_reducible assumption | (refine List.mem_cons_of_mem _ ?_; with_reducible assumption)))) | (refine List.mem_cons_of_mem _ ?_; first | with_reducible assumption | (refine List.mem_append_right _ ?_; first | with_reducible assumption | (refine List.mem_cons_of_mem _ ?_; first | with_reducible assumption | (refine List.mem_cons_of_mem _ ?_; first | with_reducible assumption | (refine List.mem_cons_of_mem _ ?_; with_reducible assumption)))) | (refine List.mem_cons_of_mem _ ?_; first | with_reducible assumption | (refine List.mem_append_right _ ?_; first | with_reducible assumption | (refine List.mem_cons_of_mem _ ?_; first | with_reducible assumption | (refine List.mem_cons_of_mem _ ?_; first | with_reducible assumption | (refine List.mem_cons_of_mem _ ?_; with_reducible assumption)))) | (refine List.mem_cons_of_mem _ ?_; first | with_reducible assumption | (refine List.mem_append_right _ ?_; first | with_reducible assumption | (refine List.mem_cons_of_mem _ ?_; first | with_reducible assumption | (refine List.mem_cons_of_mem _ ?_; first | with_reducible assumption | (refine List.mem_cons_of_mem _ ?_; with_reducible assumption)))) | (refine List.mem_cons_of_mem _ ?_; first | with_reducible assumption | (refine List.mem_append_right _ ?_; first | with_reducible assumption | (refine List.mem_cons_of_mem _ ?_; first | with_reducible assumption | (refine List.mem_cons_of_mem _ ?_; first | with_reducible assumption | (refine List.mem_cons_of_mem _ ?_; with_reducible assumption)))))))))))))))))))
  k_with "compareOp Gt ref ref" => (k_here; (with_reducible show wpAny _ _ (compareOp CmpOp.Gt (Value.ref _) (Value.ref _)) _ _ _); k_dflt (refine' gt_pair (x1 := _) ?kwu ?kwa ?kwb ?_; (case kwu => first | k_units | ktr_units); (case kwa => exact News.get (by k_asm) (by k_mem)); (case kwb => exact News.get (by k_asm) (by k_mem)); k_whole))
  k_with "call builtin:len" => (k_here; (with_reducible show wpAny _ _ (call (Value.builtin _) [Value.ref _]) _ _ _); k_dflt (refine' len_rows (vs := _) ?kwl ?kwr ?kwz ?_; (case kwl => exact News.isList (by k_asm) (by k_mem)); (case kwr => assumption); (case kwz => first | assumption | omega); k_whole))
  k_with "kw all" => with_reducible assumption
  k_with "compareOp In int ref" => (k_here; (with_reducible show wpAny _ _ (compareOp _ (Value.int _ _) (Value.ref _)) _ _ _); k_dflt (refine' in_pair ?kwN ?kwm ?kwb ?_; (case kwN => k_asm); (case kwm => k_mem); (case kwb => (first | with_reducible assumption | exact in_b1 (by with_reducible assumption) | exact in_b2 (by with_reducible assumption) | exact in_b3 (by with_reducible assumption) (by with_reducible assumption))); k_whole))
  k_with "compareOp NotIn int ref" => (k_here; (with_reducible show wpAny _ _ (compareOp _ (Value.int _ _) (Value.ref _)) _ _ _); k_dflt (refine' notin_pair ?kwN ?kwm ?kwb ?_; (case kwN => k_asm); (case kwm => k_mem); (case kwb => (first | with_reducible assumption | exact in_b1 (by with_reducible assumption) | exact in_b2 (by with_reducible assumption) | exact in_b3 (by with_reducible assumption) (by with_reducible assumption))); k_whole))
  trivial
set_option maxRecDepth 100000 in
set_option maxHeartbeats 8000000 in
theorem role_of_spec (w : World) (v u : Value) (r : Row) : Spec w 92 3 [v, u] (fun news => RowAt news v r ∧ PairAt news u (r.dr, r.bk)) (fun _ tl x => tl = [] ∧ ∃ t, x = .str (roleOf r) t) := by
  unfold Spec
  k_fill
  intro p' loose mean mg mb dp un gd cn cs a ccd cl outer A₀ base h₀ L m news s Q E B F X N T hk hR hd hu hret
  obtain ⟨⟨a, t1, t2, t3, t4, t5, n, rfl, hm⟩, ⟨a', t1', t2', n', rfl, hm'⟩⟩ := hR
  refine wpAny_call ?_
  k_dflt ktr_enter
  k_steps
  · refine hret _ [] _ _ (by k_asm) (by k_asm) (fun _ _ _ h => nomatch h) ⟨rfl, _, by rw [role_dr (by with_reducible assumption)]⟩
  · refine hret _ [] _ _ (by k_asm) (by k_asm) (fun _ _ _ h => nomatch h) ⟨rfl, _, by rw [role_bk (by with_reducible assumption) (by with_reducible assumption)]⟩
  · refine hret _ [] _ _ (by k_asm) (by k_asm) (fun _ _ _ h => nomatch h) ⟨rfl, _, by rw [role_other (by with_reducible assumption) (by with_reducible assumption)]⟩
set_option maxRecDepth 100000 in
set_option maxHeartbeats 8000000 in
theorem begun_spec (w : World) (v u x : Value) (rs : List Row) (r : Row) (p : Int × Int) : Spec w 102 3 [v, u, x, x] (fun news => RowsAt news v rs ∧ RowAt news u r ∧ PairAt news x p) (fun _ tl y => ∃ D, tl = [(D, listOf #[] 0)] ∧ y = .ref D) := by
  unfold Spec
  k_fill
  intro p' loose mean mg mb dp un gd cn cs a ccd cl outer A₀ base h₀ L m news s Q E B F X N T hk hR hd hu hret
  obtain ⟨⟨l, vs, c, rfl, hl, hR⟩, ⟨a, t1, t2, t3, t4, t5, n, rfl, hm⟩, ⟨a', t1', t2', n', rfl, hm'⟩⟩ := hR
  by_cases hb : ((p.1 == r.ad) || (p.2 == r.ad)) = true
  · refine wpAny_call ?_
    k_dflt ktr_enter
    k_steps
    exact hret _ [(_, listOf #[] 0)] _ _ (by k_asm) (by k_asm) (by first | exact fresh_lt (by assumption) | exact fresh_all (by assumption) | exact fresh_all (by rename _ ∧ AllLt _ _ => hf; exact hf.2)) ⟨_, rfl, rfl⟩
  · have hb := Bool.eq_false_iff.mpr hb
    refine wpAny_call ?_
    k_dflt ktr_enter
    k_steps
    exact hret _ [(_, listOf #[] 0)] _ _ (by k_asm) (by k_asm) (by first | exact fresh_lt (by assumption) | exact fresh_all (by assumption) | exact fresh_all (by rename _ ∧ AllLt _ _ => hf; exact hf.2)) ⟨_, rfl, rfl⟩
-- the law
local macro_rules | `(tactic| k_ne) => `(tactic| k_extra "kw ne")
theorem kw18 : True := by
  k_with_none
  k_with "eval ListComp" => (k_here; lct_look; lcg_calm; k_dflt (refine LCt.ListComp_T (F₀ := by k_asm) (by with_unfolding_all rfl) (by decide) (by rfl) (by decide) (by rfl) ?_))
  k_with "exec Assign cons ListComp" => (k_here; lct_look; lcg_calm; k_dflt (refine LCt.Assign_ListComp_T (F₀ := by k_asm) (by rfl) (by with_unfolding_all rfl) (by with_unfolding_all rfl) (by decide) (by rfl) (by decide) (by rfl) (by rfl) (by rfl) ?_))
  k_with "subscriptTail" => (k_here; (with_reducible show wpAny _ _ (subscriptTail _ _ (Value.ref _) (Value.int _ _)) _ _ _); k_dflt (refine' item_tupleT ?kwt ?kwa ?kwb ?kwc ?kwd ?_; (case kwt => exact News.isTup (by k_asm) (by k_mem)); (case kwa => decide); (case kwb => decide); (case kwc => rfl); (case kwd => rfl); k_whole))
  k_with "kw mem" => (first | with_reducible assumption | (refine List.mem_append_right _ ?_; first | with_reducible assumption | (refine List.mem_cons_of_mem _ ?_; first | with_reducible assumption | (refine List.mem_cons_of_mem _ ?_; first | with_reducible assumption | (refine List.mem_cons_of_mem _ ?_; with_reducible assumption)))) | (refine List.mem_cons_of_mem _ ?_; first | with_reducible assumption | (refine List.mem_append_right _ ?_; first | with_reducible assumption | (refine List.mem_cons_of_mem _ ?_; first | with_reducible assumption | (refine List.mem_cons_of_mem _ ?_; first | with_reducible assumption | (refine List.mem_cons_of_mem _ ?_; with_reducible assumption)))) | (refine List.mem_cons_of_mem _ ?_; first | with_reducible assumption | (refine List.mem_append_right _ ?_; first | with_reducible assumption | (refine List.mem_cons_of_mem _ ?_; first | with_reducible assumption | (refine List.mem_cons_of_mem _ ?_; first | with_reducible assumption | (refine List.mem_cons_of_mem _ ?_; with_reducible assumption)))) | (refine List.mem_cons_of_mem _ ?_; first | with_reducible assumption | (refine List.mem_append_right _ ?_; first | with_reducible assumption | (refine List.mem_cons_of_mem _ ?_; first | with_reducible assumption | (refine List.mem_cons_of_mem _ ?_; first | with_reducible assumption | (refine List.mem_cons_of_mem _ ?_; with_reducible assumption)))) | (refine List.mem_cons_of_mem _ ?_; first | with_reducible assumption | (refine List.mem_append_right _ ?_; first | with_reducible assumption | (refine List.mem_cons_of_mem _ ?_; first | with_reducible assumption | (refine List.mem_cons_of_mem _ ?_; first | with_reducible assumption | (refine List.mem_cons_of_mem _ ?_; with_reducible assumption)))) | (refine List.mem_cons_of_mem _ ?_; first | with_reducible assumption | (refine List.mem_append_right _ ?_; first | with_reducible assumption | (refine List.mem_cons_of_mem _ ?_; first | with_reducible assumption | (refine List.mem_cons_of_mem _ ?_; first | with_reducible assumption | (refine List.mem_cons_of_mem _ ?_; with_reducible assumption)))) | (refine List.mem_cons_of_mem _ ?_; first | with_reducible assumption | (refine List.mem_append_right _ ?_; first | with_reducible assumption | (refine List.mem_cons_of_mem _ ?_; first | with_reducible assumption | (refine List.mem_cons_of_mem _ ?_; first | with_reducible assumption | (refine List.mem_cons_of_mem _ ?_; with_reducible assumption)))) | (refine List.mem_cons_of_mem _ ?_; first | with_reducible assumption | (refine List.mem_append_right _ ?_; first | with_reducible assumption | (refine List.mem_cons_of_mem _ ?_; first | with_reducible assumption | (refine List.mem_cons_of_mem _ ?_; first | with_reducible assumption | (refine List.mem_cons_of_mem _ ?_; with_reducible assumption)))) | (refine List.mem_cons_of_mem _ ?_; first | with_reducible assumption | (refine List.mem_append_right _ ?_; first | with_reducible assumption | (refine List.mem_cons_of_mem _ ?_; first | with_reducible assumption | (refine List.mem_cons_of_mem _ ?_; first | with_reducible assumption | (refine List.mem_cons_of_mem _ ?_; with_reducible assumption)))) | (refine List.mem_cons_of_mem _ ?_; first | with_reducible assumption | (refine List.mem_append_right _ ?_; first | with_reducible assumption | (refine List.mem_cons_of_mem _ ?_; first | with_reducible assumption | (refine List.mem_cons_of_mem _ ?_; first | with_reducible assumption | (refine List.mem_cons_of_mem _ ?_; with_reducible assumption)))) | (refine List.mem_cons_of_mem _ ?_; first | with_reducible assumption | (refine List.mem_append_right _ ?_; first | with_reducible assumption | (refine List.mem_cons_of_mem _ ?_; first | with_reducible assumption | (refine List.mem_cons_of_mem _ ?_; first | with_reducible assumption | (refine List.mem_cons_of_mem _ ?_; with_reducible assumption)))) | (refine List.mem_cons_of_mem _ ?_; first | with_reducible assumption | (refine List.mem_append_right _ ?_; first | with_reducible assumption | (refine List.mem_cons_of_mem _ ?_; first | with_reducible assumption | (refine List.mem_cons_of_mem _ ?_; first | with_reducible assumption | (refine List.mem_cons_of_mem _ ?_; with_reducible assumption)))) | (refine List.mem_cons_of_mem _ ?_; first | with_reducible assumption | (refine List.mem_append_right _ ?_; first | with_reducible assumption | (refine List.mem_cons_of_mem _ ?_; first | with_reducible assumption | (refine List.mem_cons_of_mem _ ?_; first | with_reducible assumption | (refine List.mem_cons_of_mem _ ?_; with_reducible assumption)))) | (refine List.mem_cons_of_mem _ ?_; first | with_reducible assumption | (refine List.mem_append_right _ ?_; first | with_reducible assumption | (refine List.mem_cons_of_mem _ ?_; first | with_reducible assumption | (refine List.mem_cons_of_mem _ ?_; first | with_reducible assumption | (refine List.mem_cons_of_mem _ ?_; with_reducible assumption)))) | (refine List.mem_cons_of_mem _ ?_; first | with_reducible assumption | (refine List.mem_append_right _ ?_; first | with_reducible assumption | (refine List.mem_cons_of_mem _ ?_; first | with_reducible assumption | (refine List.mem_cons_of_mem _ ?_; first | with_reducible assumption | (refine List.mem_cons_of_mem _ ?_; with_reducible assumption)))))))))))))))))))
  k_with "compareOp Gt ref ref" => (k_here; (with_reducible show wpAny _ _ (compareOp CmpOp.Gt (Value.ref _) (Value.ref _)) _ _ _); k_dflt (refine' gt_pair (x1 := _) ?kwu ?kwa ?kwb ?_; (case kwu => first | k_units | ktr_units); (case kwa => exact News.get (by k_asm) (by k_mem)); (case kwb => exact News.get (by k_asm) (by k_mem)); k_whole))
  k_with "call builtin:len" => (k_here; (with_reducible show wpAny _ _ (call (Value.builtin _) [Value.ref _]) _ _ _); k_dflt (refine' len_rows (vs := _) ?kwl ?kwr ?kwz ?_; (case kwl => exact News.isList (by k_asm) (by k_mem)); (case kwr => assumption); (case kwz => first | assumption | omega); k_whole))
  k_with "kw all" => with_reducible assumption
  k_with "call type:list" => (k_here; (with_reducible show wpAny _ _ (call (Value.type _) [Value.ref _]) _ _ _); k_dflt (refine' rows_copy ?kwF ?kwN ?kwm ?kwr ?kwz ?_; (case kwF => k_asm); (case kwN => k_asm); (case kwm => k_mem); (case kwr => (first | exact RowAll.mono (by assumption) (by k_sub) | exact RowAll.cons (by (first | exact RowAt.mono (by assumption) (by k_sub) | exact ⟨_, _, _, _, _, _, _, rfl, by k_mem⟩)) RowAll.nil)); (case kwz => (first | assumption | omega | (simp only [List.length_append, List.length_cons, List.length_nil, List.length_take, List.length_drop, List.length_set]; omega))); k_whole); intro D' c' h' F' N' l1 hA'; (try k_lt l1); (try k_sweep))
  k_with "binaryOp Add ref ref" => (k_here; (with_reducible show wpAny _ _ (binaryOp _ (Value.ref _) (Value.ref _)) _ _ _); k_dflt (refine' rows_add ?kwF ?kwN ?kwa ?kwb ?kwr ?kwq ?kwz ?kwy ?_; (case kwF => k_asm); (case kwN => k_asm); (case kwa => k_mem); (case kwb => k_mem); (case kwr => (first | exact RowAll.mono (by assumption) (by k_sub) | exact RowAll.cons (by (first | exact RowAt.mono (by assumption) (by k_sub) | exact ⟨_, _, _, _, _, _, _, rfl, by k_mem⟩)) RowAll.nil)); (case kwq => (first | exact RowAll.mono (by assumption) (by k_sub) | exact RowAll.cons (by (first | exact RowAt.mono (by assumption) (by k_sub) | exact ⟨_, _, _, _, _, _, _, rfl, by k_mem⟩)) RowAll.nil)); (case kwz => (first | assumption | omega | (simp only [List.length_append, List.length_cons, List.length_nil, List.length_take, List.length_drop, List.length_set]; omega))); (case kwy => (first | assumption | omega | (simp only [List.length_append, List.length_cons, List.length_nil, List.length_take, List.length_drop, List.length_set]; omega))); k_whole); intro D' h' F' N' l1 hA'; (try k_lt l1); (try k_sweep))
  k_with "subscriptTail Name Slice ref ref" => (k_here; (with_reducible show wpAny _ _ (subscriptTail _ (PySem.Expr.Slice _ _ none _) (Value.ref _) (Value.ref _)) _ _ _); k_dflt (refine' rows_upto ?kwF ?kwN ?kwm ?kwp ?kwq ?kwr ?kwz ?kwy ?_ ?kws ?kwt; (case kwF => k_asm); (case kwN => k_asm); (case kwm => k_mem); (case kwp => exact IsPart.none); (case kwq => exact IsPart.int _ _); (case kwr => (first | exact RowAll.mono (by assumption) (by k_sub) | exact RowAll.cons (by (first | exact RowAt.mono (by assumption) (by k_sub) | exact ⟨_, _, _, _, _, _, _, rfl, by k_mem⟩)) RowAll.nil)); (case kwz => (first | assumption | omega | (simp only [List.length_append, List.length_cons, List.length_nil, List.length_take, List.length_drop, List.length_set]; omega))); (case kwy => (first | assumption | omega | (simp only [List.length_append, List.length_cons, List.length_nil, List.length_take, List.length_drop, List.length_set]; omega))); (case kws => with_unfolding_all rfl); (case kwt => kmk_pure)); intro D' h' F' N' l1 hA'; (try k_lt l1); (try k_sweep))
  k_with "subscriptTail Name Slice ref ref" => (k_here; (with_reducible show wpAny _ _ (subscriptTail _ (PySem.Expr.Slice _ _ none _) (Value.ref _) (Value.ref _)) _ _ _); k_dflt (refine' rows_from ?kwF ?kwN ?kwm ?kwp ?kwq ?kwr ?kwz ?kwy ?_ ?kws ?kwt; (case kwF => k_asm); (case kwN => k_asm); (case kwm => k_mem); (case kwp => exact IsPart.int _ _); (case kwq => exact IsPart.none); (case kwr => (first | exact RowAll.mono (by assumption) (by k_sub) | exact RowAll.cons (by (first | exact RowAt.mono (by assumption) (by k_sub) | exact ⟨_, _, _, _, _, _, _, rfl, by k_mem⟩)) RowAll.nil)); (case kwz => (first | assumption | omega | (simp only [List.length_append, List.length_cons, List.length_nil, List.length_take, List.length_drop, List.length_set]; omega))); (case kwy => (first | assumption | omega | (simp only [List.length_append, List.length_cons, List.length_nil, List.length_take, List.length_drop, List.length_set]; omega))); (case kws => with_unfolding_all rfl); (case kwt => kmk_pure)); intro D' h' F' N' l1 hA'; (try k_lt l1); (try k_sweep))
  k_with "subscriptTail" => (k_here; (with_reducible show wpAny _ _ (subscriptTail _ _ (Value.ref _) (Value.int _ _)) _ _ _); k_dflt (refine' rows_item ?kwN ?kwm ?kwr ?kwx ?kwy ?kwz ?_ ?kws ?kwt; (case kwN => k_asm); (case kwm => k_mem); (case kwr => (first | exact RowAll.mono (by assumption) (by k_sub) | exact RowAll.cons (by (first | exact RowAt.mono (by assumption) (by k_sub) | exact ⟨_, _, _, _, _, _, _, rfl, by k_mem⟩)) RowAll.nil)); (case kwx => (first | assumption | omega | (simp only [List.length_append, List.length_cons, List.length_nil, List.length_take, List.length_drop, List.length_set]; omega))); (case kwy => (first | assumption | omega | (simp only [List.length_append, List.length_cons, List.length_nil, List.length_take, List.length_drop, List.length_set]; omega))); (case kwz => (first | assumption | omega | (simp only [List.length_append, List.length_cons, List.length_nil, List.length_take, List.length_drop, List.length_set]; omega))); (case kws => with_unfolding_all rfl); (case kwt => kmk_pure); k_whole); intro v' r' hv' hr' hA'; (have hA2' := hA'; obtain ⟨a9', t1', t2', t3', t4', t5', n9', e9', hm9'⟩ := hA2'; subst e9'))
  k_with "setItem ref int" => (k_here; (with_reducible show wpAny _ _ (setItem (Value.ref _) (Value.int _ _) _) _ _ _); k_dflt (refine' rows_set ?kwF ?kwN ?kwu ?kwr ?kwx ?kwy ?kwz ?_; (case kwF => k_asm); (case kwN => k_asm); (case kwu => k_upd); (case kwr => (first | exact RowAll.mono (by assumption) (by k_sub) | exact RowAll.cons (by (first | exact RowAt.mono (by assumption) (by k_sub) | exact ⟨_, _, _, _, _, _, _, rfl, by k_mem⟩)) RowAll.nil)); (case kwx => (first | assumption | omega | (simp only [List.length_append, List.length_cons, List.length_nil, List.length_take, List.length_drop, List.length_set]; omega))); (case kwy => (first | assumption | omega | (simp only [List.length_append, List.length_cons, List.length_nil, List.length_take, List.length_drop, List.length_set]; omega))); (case kwz => (first | assumption | omega | (simp only [List.length_append, List.length_cons, List.length_nil, List.length_take, List.length_drop, List.length_set]; omega))); k_whole); intro h' F' N'; (try k_sweep))
  k_with "subscriptTail Name Slice ref ref" => (k_here; (with_reducible show wpAny _ _ (subscriptTail _ (PySem.Expr.Slice _ _ none _) (Value.ref _) (Value.ref _)) _ _ _); k_dflt (refine' row_upto ?kwF ?kwN ?kwm ?_ ?kws ?kwt; (case kwF => k_asm); (case kwN => k_asm); (case kwm => k_mem); (case kws => with_unfolding_all rfl); (case kwt => kmk_pure)); intro D' h' F' N' l1; (try k_lt l1); (try k_sweep))
  k_with "subscriptTail Name Slice ref ref" => (k_here; (with_reducible show wpAny _ _ (subscriptTail _ (PySem.Expr.Slice _ _ none _) (Value.ref _) (Value.ref _)) _ _ _); k_dflt (refine' row_from ?kwF ?kwN ?kwm ?_ ?kws ?kwt; (case kwF => k_asm); (case kwN => k_asm); (case kwm => k_mem); (case kws => with_unfolding_all rfl); (case kwt => kmk_pure)); intro D' h' F' N' l1; (try k_lt l1); (try k_sweep))
  k_with "binaryOp Add ref ref" => (k_here; (with_reducible show wpAny _ _ (binaryOp _ (Value.ref _) (Value.ref _)) _ _ _); k_dflt (refine' trip_add ?kwF ?kwN ?kwa ?kwb ?_; (case kwF => k_asm); (case kwN => k_asm); (case kwa => k_mem); (case kwb => k_mem)); intro D' h' F' N' l1; (try k_lt l1); (try k_sweep))
  k_with "call ref" => (k_here; (with_reducible show wpAny _ _ (call (Value.ref 153) [_, _]) _ _ _); k_dflt (refine' pick_go ?kwk1 ?kwk2 ?kwk3 ?kwk4 ?kwk5 ?kwkK ?kwkU ?kwkl ?kwkn ?kwki ?kwkz ?kwk0 ?kwkx ?kwkm ?kwkd ?kwku ?_; (case kwk1 => k_asm); (case kwk2 => k_asm); (case kwk3 => k_asm); (case kwk4 => k_asm); (case kwk5 => k_asm); (case kwkK => first | exact rfl | assumption); (case kwkU => k_updF); (case kwkl => k_mem); (case kwkn => k_ne); (case kwki => first | assumption | l_ints); (case kwkz => first | exact Nat.le_trans (List.length_take_le _ _) (Nat.le_of_ble_eq_true rfl) | assumption | omega | (simp; omega)); (case kwk0 => first | assumption | decide | exact pen0 (by assumption) | exact pen0 (pen0 (by assumption)) | exact pen0 (pen0 (pen0 (by assumption))) | exact pen0 (pen0 (pen0 (pen0 (by assumption)))) | omega); (case kwkx => first | decide | exact (penK (by assumption)).1 | exact (penK (by assumption)).2.1 | exact (penK (by assumption)).2.2.1 | exact (penK (by assumption)).2.2.2.1 | exact (penK (by assumption)).2.2.2.2 | omega); (case kwkm => first | decide | exact penM (by assumption) | omega); (case kwkd => first | ktr_room | k_room | omega); (case kwku => ktr_units); k_whole); intro v9 t9 u9 n9 h9 tk9 v0 v1 F9 N9; (try dsimp only at N9); (try k_sweep); (try k_fold))
  k_with "exec For Name Call cons nil" => (k_here; (rename Fr _ _ _ _ => lF'); (with_unfolding_all refine' For_turns lF' ?_; k_whole))
  k_with "pyIter ref" => (k_here; (with_reducible show wpAny _ _ (pyIter (Value.ref _)) (fun it s₂ => TurnsAt _ _ _ _ _ _ _ _ _ it s₂) _ _); refine Hold.intro ?_)
  k_with "eval ListComp" => (k_here; lcg_look; lcg_calm; k_dflt (refine LCg.ListComp_U (F₀ := by k_asm) (by rfl) (by decide) (by rfl) (by decide) (by rfl) ?_); k_dflt lcg_toSrc)
  k_with "exec Assign cons ListComp" => (k_here; lcg_look; lcg_calm; k_dflt (refine LCg.Assign_ListComp_U (F₀ := by k_asm) (by rfl) (by with_unfolding_all rfl) (by rfl) (by decide) (by rfl) (by decide) (by rfl) (by rfl) (by rfl) ?_); k_dflt lcg_toSrc)
  k_with "CompSrc" => (k_here; k_dflt (refine LCg.CompSrc.range (by rfl) (by k_asm) (by k_asm) (by assumption) (by first | decide | rfl) (by first | rfl | decide) (by first | size_fits | exact Nat.le_of_ble_eq_true rfl) ?_; intro g'; lcg_lit))
  k_with "kw ne" => (refine neN ?_; (try dsimp only); first | exact NeF.out (by with_reducible assumption) | exact Ne.symm (NeF.out (by with_reducible assumption)) | exact Nat.ne_of_lt (And.left (by with_reducible assumption)) | exact Nat.ne_of_lt (And.left (And.right (by with_reducible assumption))) | exact Nat.ne_of_lt (And.right (by with_reducible assumption)) | exact Nat.ne_of_lt (And.left (And.right (And.right (by with_reducible assumption)))) | exact Nat.ne_of_lt (And.right (And.right (by with_reducible assumption))) | exact Nat.ne_of_lt (And.left (And.right (And.right (And.right (by with_reducible assumption))))) | exact Nat.ne_of_lt (And.right (And.right (And.right (by with_reducible assumption)))) | exact Nat.ne_of_lt (And.left (And.right (And.right (And.right (And.right (by with_reducible assumption)))))) | exact Nat.ne_of_lt (And.right (And.right (And.right (And.right (by with_reducible assumption))))) | exact Nat.ne_of_lt (And.left (And.right (And.right (And.right (And.right (And.right (by with_reducible assumption))))))) | exact Nat.ne_of_lt (And.right (And.right (And.right (And.right (And.right (by with_reducible assumption)))))) | exact Nat.ne_of_lt (And.left (And.right (And.right (And.right (And.right (And.right (And.right (by with_reducible assumption)))))))) | exact Nat.ne_of_lt (And.right (And.right (And.right (And.right (And.right (And.right (by with_reducible assumption))))))) | exact Nat.ne_of_lt (And.left (And.right (And.right (And.right (And.right (And.right (And.right (And.right (by with_reducible assumption))))))))) | exact Nat.ne_of_lt (And.right (And.right (And.right (And.right (And.right (And.right (And.right (by with_reducible assumption)))))))) | exact Nat.ne_of_lt (And.left (And.right (And.right (And.right (And.right (And.right (And.right (And.right (And.right (by with_reducible assumption)))))))))) | exact Nat.ne_of_lt (And.right (And.right (And.right (And.right (And.right (And.right (And.right (And.right (by with_reducible assumption))))))))) | exact Nat.ne_of_lt (And.left (And.right (And.right (And.right (And.right (And.right (And.right (And.right (And.right (And.right (by with_reducible assumption))))))))))) | exact Nat.ne_of_lt (And.right (And.right (And.right (And.right (And.right (And.right (And.right (And.right (And.right (by with_reducible assumption)))))))))) | exact Nat.ne_of_gt (And.left (by with_reducible assumption)) | exact Nat.ne_of_gt (And.left (And.right (by with_reducible assumption))) | exact Nat.ne_of_gt (And.right (by with_reducible assumption)) | exact Nat.ne_of_gt (And.left (And.right (And.right (by with_reducible assumption)))) | exact Nat.ne_of_gt (And.right (And.right (by with_reducible assumption))) | exact Nat.ne_of_gt (And.left (And.right (And.right (And.right (by with_reducible assumption))))) | exact Nat.ne_of_gt (And.right (And.right (And.right (by with_reducible assumption)))) | exact Nat.ne_of_gt (And.left (And.right (And.right (And.right (And.right (by with_reducible assumption)))))) | exact Nat.ne_of_gt (And.right (And.right (And.right (And.right (by with_reducible assumption))))) | exact Nat.ne_of_gt (And.left (And.right (And.right (And.right (And.right (And.right (by with_reducible assumption))))))) | exact Nat.ne_of_gt (And.right (And.right (And.right (And.right (And.right (by with_reducible assumption)))))) | exact Nat.ne_of_gt (And.left (And.right (And.right (And.right (And.right (And.right (And.right (by with_reducible assumption)))))))) | exact Nat.ne_of_gt (And.right (And.right (And.right (And.right (And.right (And.right (by with_reducible assumption))))))) | exact Nat.ne_of_gt (And.left (And.right (And.right (And.right (And.right (And.right (And.right (And.right (by with_reducible assumption))))))))) | exact Nat.ne_of_gt (And.right (And.right (And.right (And.right (And.right (And.right (And.right (by with_reducible assumption)))))))) | exact Nat.ne_of_gt (And.left (And.right (And.right (And.right (And.right (And.right (And.right (And.right (And.right (by with_reducible assumption)))))))))) | exact Nat.ne_of_gt (And.right (And.right (And.right (And.right (And.right (And.right (And.right (And.right (by with_reducible assumption))))))))) | exact Nat.ne_of_gt (And.left (And.right (And.right (And.right (And.right (And.right (And.right (And.right (And.right (And.right (by with_reducible assumption))))))))))) | exact Nat.ne_of_gt (And.right (And.right (And.right (And.right (And.right (And.right (And.right (And.right (And.right (by with_reducible assumption)))))))))) | exact NeF.out (by assumption) | exact Ne.symm (NeF.out (by assumption)) | omega)
  k_with "CompRest" => (with_unfolding_all first | (refine LCg.CompRest.succ ?_; intro v' I' oI' C' oC' D' m' h' tk' E' hv' hC' hx' F' N' off' ne'; (obtain ⟨t9', hv9'⟩ := hv'; subst hv9'); (obtain ⟨q1', q2', q3'⟩ := off_pen off'); (have koff' := Kept.mk off'); clear off' ne') | refine LCg.CompRest.zero ?_)
  k_with "CompEnd" => (k_dflt refine compEnd1 (by k_asm) (by k_asm) (Kept.out (by assumption)) trivial ?_)
  k_with "call builtin:list.append" => (k_here; (with_reducible show wpAny _ _ (call (Value.builtin _) [Value.ref _, _]) _ _ _); k_dflt (refine' rows_app ?kwk1 ?kwk2 ?kwk3 ?kwk4 ?kwz ?_; (case kwk1 => k_asm); (case kwk2 => k_asm); (case kwk3 => k_upd); (case kwk4 => assumption); (case kwz => first | assumption | omega); k_whole); intro h' F' N'; (try k_sweep))
  k_with "exec While Compare" => (k_here; k_dflt (refine whl_start 100 ?_); refine Hold.intro ?_)
  k_with "call ref" => (k_here; (with_reducible show wpAny _ _ (call (Value.ref 179) _) _ _ _); refine Hold.intro ?_)
  k_with "WhlPost" => (dsimp only [WhlPost]; refine Hold.intro ?_)
  k_with "exec For Name Name cons nil" => (k_here; (rename Fr _ _ _ _ => lF'); (with_unfolding_all refine' For_invVF lF' ?kwk1 ?kwk2 ?_; (case kwk1 => exact rfl); (case kwk2 => exact rfl); k_whole))
  k_with "pyIter ref" => (k_here; (with_reducible show wpAny _ _ (pyIter (Value.ref _)) (fun it s₂ => LoopAtV _ _ _ _ _ _ _ _ _ it s₂) _ _); refine Hold.intro ?_)
  k_with "call ref" => (k_here; (with_reducible show wpAny _ _ (call (Value.ref 116) _) _ _ _); refine Hold.intro ?_)
  k_with "compareOp NotEq ref ref" => (k_here; (with_reducible show wpAny _ _ (compareOp CmpOp.NotEq (Value.ref _) (Value.ref _)) _ _ _); (rename HoldNe => hM); refine Hold.intro ?_)
  k_with "compareOp Eq ref ref" => (k_here; (with_reducible show wpAny _ _ (compareOp CmpOp.Eq (Value.ref _) (Value.ref _)) _ _ _); (rename HoldNe => hM); refine Hold.intro ?_)
  k_with "compareOp In str ref" => (k_here; (with_reducible show wpAny _ _ (compareOp CmpOp.In (Value.str (roleOf _) _) (Value.ref 117)) _ _ _); k_dflt (refine in_chosen (kun_topT (by k_asm) (by k_asm) (by k_is)) ?_))
  k_with "ite" => (k_here; first | (with_reducible refine ite_beq_pos (by with_reducible assumption) ?_) | (with_reducible refine ite_beq_neg (by with_reducible assumption) ?_))
  k_with "exec Assign cons IfExp" => (k_here; (rename HoldNe => hM); refine Hold.intro ?_)
  k_with "compareOp NotEq str str" => (with_reducible refine ne_str_same ?_)
  k_with "compareOp NotEq ref ref" => (k_here; (with_reducible show wpAny _ _ (compareOp CmpOp.NotEq (Value.ref _) (Value.ref _)) _ _ _); k_dflt (refine' role_ne (ρ := roleOf _) ?kwN ?kwa ?kwc ?kwb ?kwd ?kwr ?kwe ?kwu ?_; (case kwN => k_asm); (case kwa => k_mem); (case kwc => k_mem); (case kwb => k_mem); (case kwd => k_mem); (case kwr => exact role_ok _); (case kwe => exact elect_ok); (case kwu => ktr_units); k_whole))
  k_with "call ref" => (k_here; (with_reducible show wpAny _ _ (call (Value.ref 92) [_, _]) _ _ _); k_dflt (refine' spec_use (role_of_spec _ _ _ _) ?kwk1 ?kwk2 ?kwk3 ?kwk4 ?kwk5 ?kwkK ?kwkR ?kwkd ?kwku ?_; (case kwk1 => k_asm); (case kwk2 => k_asm); (case kwk3 => k_asm); (case kwk4 => k_asm); (case kwk5 => k_asm); (case kwkK => first | exact rfl | assumption); (case kwkR => (refine And.intro ?_ ?_; exact ⟨_, _, _, _, _, _, _, rfl, by k_mem⟩; exact ⟨_, _, _, _, rfl, by k_mem⟩)); (case kwkd => ktr_room); (case kwku => ktr_units)); intro r9 tl9 h9 tk9 F9 N9 hl9 ho9; (obtain ⟨e9, t8, e8⟩ := ho9; subst e9; subst e8; clear hl9); (try simp only [List.nil_append, List.cons_append] at N9); (try dsimp only); (try k_sweep); (try k_fold))
  k_with "call ref" => (k_here; (with_reducible show wpAny _ _ (call (Value.ref 102) [_, _, _, _]) _ _ _); k_dflt (refine' spec_use (begun_spec _ _ _ _ _ _ _) ?kwk1 ?kwk2 ?kwk3 ?kwk4 ?kwk5 ?kwkK ?kwkR ?kwkd ?kwku ?_; (case kwk1 => k_asm); (case kwk2 => k_asm); (case kwk3 => k_asm); (case kwk4 => k_asm); (case kwk5 => k_asm); (case kwkK => first | exact rfl | assumption); (case kwkR => (refine And.intro ?_ (And.intro ?_ ?_); exact ⟨_, _, _, rfl, by k_mem, RowAll.mono (by with_reducible assumption) (fun p hp => by repeat (first | with_reducible exact hp | refine List.mem_cons_of_mem _ ?_))⟩; exact ⟨_, _, _, _, _, _, _, rfl, by k_mem⟩; exact ⟨_, _, _, _, rfl, by k_mem⟩)); (case kwkd => ktr_room); (case kwku => ktr_units)); intro r9 tl9 h9 tk9 F9 N9 hl9 ho9; (obtain ⟨D9, e9, e8⟩ := ho9; subst e9; subst e8; have hk9 := fresh_one hl9; clear hl9); (try simp only [List.nil_append, List.cons_append] at N9); (try dsimp only); (try k_sweep); (try k_fold))
  trivial
set_option maxRecDepth 100000 in
set_option maxHeartbeats 8000000 in
theorem law_holds : PySem.Challenge.rw_rh0201_01.Holds := Mine.hd (by
  k_go0
  (all_goals try k_fold)
  k_steps
  refine Hold.out ?_
  rename News _ _ _ _ => N1
  rename Fr _ _ _ _ => F1
  rename IsRange _ _ _ _ _ _ _ _ => hr
  refine build_law (y := Str.ofString "said") (fs := Str.ofString "first") (by rfl) (Int.toNat_of_nonneg (by omega)).symm hr (by omega) F1 N1 (by rfl) (by assumption) (by decide) (by decide) ⟨by omega, by omega, by omega, by omega, by omega, by omega⟩ ?_ ?_
  · clear N1 F1 hr
    intro i t oA v k u n vs c rs rest uu h tk hi hA k0 k1 hR hl nA nP nR m1 m2 m3 F₁ N₁
    have kb : k ≤ 900 := by omega
    have hz60 : rs.length ≤ 60 := by omega
    k_steps
    show L1End _ _ _ _ _ _ _ _ _ _ _ _ _ _ _ _
    rename _ ∧ _ ∧ _ ∧ _ ∧ AllLt _ rest => hw
    refine l1_close (by k_asm) (by k_asm) hw (by assumption) (by omega) (by omega) rfl rfl (by omega) (by omega) ?_
    intro z hz
    simp only [if_neg hz]
  · clear N1 F1 hr
    intro oA v k u n vs c rs rest uu h tk hA k0 k1 hR hl hB nP nR n162 m1 m2 m3 F₁ N₁
    k_steps
    refine Hold.out ?_
    rename Fr _ _ _ _ => F2
    rename News _ _ _ _ => N2
    have hl60 : rs.length ≤ 60 := by omega
    have hl3 : rs.length ≤ 3 := by omega
    have hk100 : k ≤ 900 := by omega
    have hids := built_ids (by omega) (by omega) hB (by omega)
    rename RowAll (_ :: _) vs rs => hAo
    clear hAo
    refine law_while F2 rfl N2 ⟨by omega, by omega, by omega⟩ n162 nP hR (rests (by omega) (by omega) hB (by omega)) ?_
    clear F2 N2
    intro i h₁ tk₁ RR ws c₁ ps all t hi F₁ N₁ W hno ih
    have mark : HoldNe := ⟨⟩
    obtain ⟨hAc, hT, a162, aP, nn, hsub⟩ := W
    have hRm := hsub _ (List.Mem.head _)
    have hAr : RowAll all vs rs := hR.mono fun p hp => hsub p (.tail _ hp)
    have m1' := hsub _ (.tail _ m1)
    have m2' := hsub _ (.tail _ m2)
    have m3' := hsub _ (.tail _ m3)
    have hbase := Kept.mk hsub
    clear hsub hR nP nR n162 m1 m2 m3 hB
    repeat (rename _ < _ ∧ _ => hx; clear hx)
    clear hl k1
    rename _ < (3 : Int) => hx
    clear hx
    k_steps
    refine Hold.out ?_
    k_dflt (refine' round_go ?k1 ?k2 ?k3 ?k4 ?k5 ?kK ?kC ?m1 ?m2 ?m3 ?m4 hAc hT a162 aP nn ?hl (ids_map (iter_ids rs i) hids) ?hd ?hu ?_)
    case k1 => k_asm
    case k2 => k_asm
    case k3 => k_asm
    case k4 => k_asm
    case k5 => k_asm
    case kK => first | exact rfl | assumption
    case kC => assumption
    case m1 => k_mem
    case m2 => k_mem
    case m3 => k_mem
    case m4 => k_sub
    case hl => rw [toldIter_length]; exact hl3
    case hd => ktr_room
    case hu => ktr_units
    clear F₁ N₁ hT a162 aP
    intro D vs9 n9 all2 ps2 h2 tk2 F₁ N₁ hR9 hT a162 aP hsub nD
    replace m1' := hsub _ m1'
    have hneL : NeF _ _ := ⟨aP _ m1'⟩
    have zn1 : NeF _ _ := ⟨nn.1⟩
    have zn2 : NeF _ _ := ⟨nn.2.1⟩
    have zn3 : NeF _ _ := ⟨nn.2.2⟩
    have zd1 : NeF _ _ := ⟨nD.1⟩
    have zd2 : NeF _ _ := ⟨nD.2⟩
    replace m2' := hsub _ m2'
    replace m3' := hsub _ m3'
    replace hRm := hsub _ hRm
    replace hAr := hAr.mono hsub
    replace hAc := hAc.mono hsub
    have hall2 := Kept.mk hsub
    clear hsub
    k_steps
    refine Hold.out ?_
    refine' rows_ne ?zN ?za ?zb (hR9.mono ?zr) (hAc.mono ?zq) ?zu ?_
    case zN => k_asm
    case za => k_mem
    case zb => k_mem
    case zr => k_sub
    case zq => k_sub
    case zu => ktr_units
    k_steps
    by_cases hfix : toldRound (toldIter rs i) = toldIter rs i
    · refine WhlIf.no (by rw [decide_eq_true hfix]; rfl) ?_
      clear ih
      k_steps
      refine Hold.out ?_
      rename Fr _ _ _ _ => F2
      rename News _ _ _ _ => N2
      refine grow_tup [] rfl (by k_mem) F2 N2 ?_ ?_
      · clear F2 N2
        intro v₁ u₁ Y h₁ tk₁ hv hsub F₁ N₁
        have hRRm := hsub (RR, listOf ws.toArray c₁) (by k_mem)
        have hRm2 := hsub (_, listOf vs.toArray c) (by k_mem)
        have hAc2 := hAc.mono fun p hp => hsub p (by k_mem)
        have hAr2 := hAr.mono fun p hp => hsub p (by k_mem)
        clear hsub m1' m2' m3' hRm hAc hAr hR9
        obtain ⟨q, tq, rfl, hq⟩ := four3 (by assumption) (by assumption) hi hv
        clear hv
        by_cases hle : i ≤ q
        · have hset : settle rs q = some (toldIter rs i, i) := settle_hit (Nat.lt_succ_of_le hle) hno.out hfix
          k_steps
          refine Hold.out ?_
          refine' spec_use (settled_hit _ _ tq hset) ?k1 ?k2 ?k3 ?k4 ?k5 ?kK ?kR ?kd ?ku ?_
          case k1 => k_asm
          case k2 => k_asm
          case k3 => k_asm
          case k4 => k_asm
          case k5 => k_asm
          case kK => first | exact rfl | assumption
          case kR => exact ⟨⟨_, _, _, rfl, by k_mem, hAr2⟩, hl60, hq⟩
          case kd => ktr_room
          case ku => ktr_units
          intro r9 tl9 h9 tk9 F9 N9 hl9 ho9
          obtain ⟨D9, v9', t9', n9', tl8, rfl, rfl, hr9⟩ := ho9
          simp only [List.cons_append] at N9
          have hk9 := fresh_one hl9
          clear hl9
          k_steps
          refine Hold.out ?_
          refine' ends_same_ne (rs := toldIter rs i) ?zN ?za ?zb (hr9.mono ?zr) ⟨_, _, _, rfl, ?zm, hAc2.mono ?zq⟩ ?zu ?_
          case zN => k_asm
          case za => k_mem
          case zb => k_mem
          case zr => k_sub
          case zm => k_mem
          case zq => exact fun p hp => .tail _ (.tail _ (List.mem_append_right _ hp))
          case zu => ktr_units
          k_steps
          show GrEnd _ _ _ _ _ _ _ _
          exact GrEnd.intro (by k_asm) (by k_asm) (fun p hp => .tail _ (.tail _ (List.mem_append_right _ hp))) (fun z h1 h2 => (if_neg h1).trans ((if_neg h1).trans (if_neg (by rw [h2]; exact Bool.false_ne_true))))
        · have hset : settle rs q = none := settle_miss fun j hj => hno.out j (Nat.lt_of_lt_of_le hj (Nat.lt_of_not_le hle))
          k_steps
          refine Hold.out ?_
          refine' spec_use (settled_none _ _ tq hset) ?k1 ?k2 ?k3 ?k4 ?k5 ?kK ?kR ?kd ?ku ?_
          case k1 => k_asm
          case k2 => k_asm
          case k3 => k_asm
          case k4 => k_asm
          case k5 => k_asm
          case kK => first | exact rfl | assumption
          case kR => exact ⟨⟨_, _, _, rfl, by k_mem, hAr2⟩, hl60, hq⟩
          case kd => ktr_room
          case ku => ktr_units
          intro r9 tl9 h9 tk9 F9 N9 hl9 ho9
          obtain ⟨rfl, rfl⟩ := ho9
          simp only [List.nil_append] at N9
          clear hl9
          k_steps
          show GrEnd _ _ _ _ _ _ _ _
          exact GrEnd.intro (by k_asm) (by k_asm) (by k_sub) (fun z h1 h2 => (if_neg h1).trans ((if_neg h1).trans (if_neg (by rw [h2]; exact Bool.false_ne_true))))
      · clear F2 N2
        intro u₁ h₁ tk₁ F₁ N₁
        k_steps
        refine Hold.out ?_
        rename Fr _ _ _ _ => F2
        rename News _ _ _ _ => N2
        refine grow_list [Str.ofString "pair", Str.ofString "role", Str.ofString "facts"] rfl (vs := ws) (by k_mem) F2 N2 ?_ ?_
        · clear F2 N2
          intro v₁ u₁ Y h₁ tk₁ hv hsub F₁ N₁
          obtain ⟨own, hown, hrow⟩ := rowAll_mem hAc hv
          obtain ⟨ao, o1, o2, o3, o4, o5, on, rfl, hm0⟩ := hrow
          have hom := hsub (ao, rowObj own o1 o2 o3 o4 o5 on) (by k_mem)
          have hRRm := hsub (RR, listOf ws.toArray c₁) (by k_mem)
          have hAc2 := hAc.mono fun p hp => hsub p (by k_mem)
          clear hsub m1' m2' m3' hRm hAc hAr hR9 hm0 hv
          k_steps
          refine Hold.out ?_
          rename Fr _ _ _ _ => F2
          rename News _ _ _ _ => N2
          rename HoldNe => mark
          clear mark
          refine role_cut (roleOf own) F2 N2 ?_ ?_
          · refine wpAny_Assign_Name ?_
            k_steps
            · exact rolePost (role_dr (by with_reducible assumption)) (by k_asm) (by k_asm)
            · exact rolePost (role_bk (by with_reducible assumption) (by with_reducible assumption)) (by k_asm) (by k_asm)
            · exact rolePost (role_other (by with_reducible assumption) (by with_reducible assumption)) (by k_asm) (by k_asm)
          · clear F2 N2
            intro t₃ h₃ tk₃ F₃ N₃
            k_steps
            show GrEnd _ _ _ _ _ _ _ _
            refine GrEnd.intro (by k_asm) (by k_asm) (fun p hp => by repeat (first | with_reducible exact hp | refine List.mem_cons_of_mem _ ?_)) ?_
            intro z h1 h2
            have e1 : z ≠ Str.ofString "pair" := by rintro rfl; exact absurd h2 (by decide)
            have e2 : z ≠ Str.ofString "role" := by rintro rfl; exact absurd h2 (by decide)
            have e3 : z ≠ Str.ofString "facts" := by rintro rfl; exact absurd h2 (by decide)
            simp only [if_neg e1, if_neg e2, if_neg e3]
        · clear F2 N2
          intro u₁ h₁ tk₁ F₁ N₁
          have hset : settle (toldIter rs i) 0 = some (toldIter rs i, 0) := settle_hit (Nat.succ_pos 0) (fun j hj => absurd hj (Nat.not_lt_zero j)) hfix
          replace N₁ := last_news N₁
          clear m1' m2' m3' hRm hAr hR9
          k_steps
          refine Hold.out ?_
          refine' spec_use (settled_hit _ _ (most := 0) _ hset) ?k1 ?k2 ?k3 ?k4 ?k5 ?kK ?kR ?kd ?ku ?_
          case k1 => k_asm
          case k2 => k_asm
          case k3 => k_asm
          case k4 => k_asm
          case k5 => k_asm
          case kK => first | exact rfl | assumption
          case kR => exact ⟨⟨_, _, _, rfl, by k_mem, hAc.mono (fun p hp => by k_mem)⟩, by rw [toldIter_length]; exact hl60, by omega⟩
          case kd => ktr_room
          case ku => ktr_units
          intro r9 tl9 h9 tk9 F9 N9 hl9 ho9
          obtain ⟨D9, v9', t9', n9', tl8, rfl, rfl, hr9⟩ := ho9
          simp only [List.cons_append] at N9
          clear hl9 N₁
          obtain ⟨X, N9, hr9, hAc⟩ := last_open N9 hr9 hAc
          k_steps
          refine Hold.out ?_
          refine' ends_same_eq (rs := toldIter rs i) ?zN ?za ?zb (hr9.mono ?zr) ⟨_, _, _, rfl, ?zm, hAc.mono ?zq⟩ ?zu ?_
          case zN => k_asm
          case za => k_mem
          case zb => k_mem
          case zm => k_mem
          case zr => exact fun p hp => .tail _ (.tail _ (.tail _ (.tail _ hp)))
          case zq => exact fun p hp => .tail _ (.tail _ (.tail _ (.tail _ hp)))
          case zu => ktr_units
          refine And.intro (good_true (Fr.keep (by k_asm)) rfl (by assumption)) ?_
          k_steps
    · refine WhlIf.yes (by rw [decide_eq_false hfix]; rfl) ?_
      k_steps
      refine Hold.out ?_
      k_dflt (refine' round_go ?k1 ?k2 ?k3 ?k4 ?k5 ?kK ?kC ?m1 ?m2 ?m3 ?m4 hAc hT a162 aP nn ?hl (ids_map (iter_ids rs i) hids) ?hd ?hu ?_)
      case k1 => k_asm
      case k2 => k_asm
      case k3 => k_asm
      case k4 => k_asm
      case k5 => k_asm
      case kK => first | exact rfl | assumption
      case kC => assumption
      case m1 => k_mem
      case m2 => k_mem
      case m3 => k_mem
      case m4 => k_sub
      case hl => rw [toldIter_length]; exact hl3
      case hd => ktr_room
      case hu => ktr_units
      clear F₁ N₁ hT a162 aP hAr m1' m2' m3' hRm
      intro D2 vs2 n2 all3 ps3 h3 tk3 F₁ N₁ hR2 hT a162 aP hsub3 nD2
      k_steps
      refine Hold.out ?_
      rename Fr _ _ _ _ => F2
      rename News _ _ _ _ => N2
      exact ih _ _ D2 vs2 n2 ps3 all3 (tk3 + 1) 0 (fr_swap F2 yes_fr) (yes_news N2) ⟨hR2, hT, a162, aP, ⟨nn.1, nD2.1, nD2.2⟩, fun p hp => hsub3 p (hall2.out p (hbase.out p hp))⟩ hfix)
end
end Mine
set_option maxRecDepth 100000 in
set_option maxHeartbeats 8000000 in
theorem PySem.Challenge.cw_rh0201_01_holds : PySem.Challenge.rw_rh0201_01.Holds := by
  exact Mine.law_holds
