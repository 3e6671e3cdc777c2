import PyProof.Rows.All
import Wide.All
import OpenK.AllK
import Wide.FinOn
import HandS.Base
import HandS.Text
import HandS.ForMost
import HandS.ForExc
import HandS.TupAny
import HandS.TupMul
import HandS.IsInst
import HandS.ExcInit
import HandS.ExcField
import HandS.ExcIs
import HandS.StrMore
import HandS.Style
import KE.GoesMore
import KE.KExcIs
import OpenK.KTop
import KE.KDictOf
import PySem.Challenge.RW_ownglass_k04_good_and_bad_programs
import KE.IntTextLaws
import PyProof.Rows.StrCut
set_option Elab.async false
set_option linter.all false
set_option maxRecDepth 100000
set_option maxHeartbeats 4000000
/-! ### A. The values as trees, their weights, and what a good program is -/
namespace K4
open PySem

/-- a value of the law: a word, or a tuple of values -/
inductive Tr where
  | w (s : Str)
  | t (l : List Tr)

/-- a word of 1 to 20 signs -/
def okS (s : Str) : Bool := decide (0 < s.length) && decide (s.length ≤ 20)

mutual
/-- the parts; a word that is none weighs too much -/
def wt : Tr → Nat
  | .w s => if okS s = true then 1 else 1000000
  | .t l => 1 + wtL l
def wtL : List Tr → Nat
  | [] => 0
  | x :: r => wt x + wtL r
end

theorem wt_t (l : List Tr) : wt (.t l) = 1 + wtL l := by rw [wt]
theorem wt_w (s : Str) : wt (.w s) = if okS s = true then 1 else 1000000 := by rw [wt]
theorem wtL_nil : wtL [] = 0 := by rw [wtL]
theorem wtL_cons (x : Tr) (r : List Tr) : wtL (x :: r) = wt x + wtL r := by rw [wtL]
theorem wt_ok {s : Str} (h : okS s = true) : wt (.w s) = 1 := by rw [wt_w, if_pos h]
theorem wt_pos : ∀ t : Tr, 1 ≤ wt t
  | .w s => by rw [wt_w]; split <;> omega
  | .t l => by rw [wt_t]; omega
theorem ok_of_wt {s : Str} {n : Nat} (h : wt (.w s) ≤ n) (hn : n < 1000000) : okS s = true := by
  rw [wt_w] at h
  cases e : okS s with
  | true => rfl
  | false => rw [e] at h; simp at h; omega
theorem okS_pos {s : Str} (h : okS s = true) : 0 < s.length := by
  unfold okS at h
  simp only [Bool.and_eq_true, decide_eq_true_eq] at h
  exact h.1
theorem okS_le {s : Str} (h : okS s = true) : s.length ≤ 20 := by
  unfold okS at h
  simp only [Bool.and_eq_true, decide_eq_true_eq] at h
  exact h.2
theorem okS_of {s : Str} (h1 : 0 < s.length) (h2 : s.length ≤ 20) : okS s = true := by
  unfold okS
  rw [decide_eq_true h1, decide_eq_true h2]; rfl

theorem wtL_append : ∀ (a b : List Tr), wtL (a ++ b) = wtL a + wtL b
  | [], b => by rw [List.nil_append, wtL_nil]; omega
  | x :: r, b => by rw [List.cons_append, wtL_cons, wtL_cons, wtL_append r b]; omega
theorem wtL_len : ∀ l : List Tr, l.length ≤ wtL l
  | [] => by rw [wtL_nil]; exact Nat.le_refl _
  | x :: r => by
    have h := wtL_len r
    have p := wt_pos x
    rw [wtL_cons, List.length_cons]; omega
theorem wtL_split (l : List Tr) (i : Nat) : wtL (l.take i) + wtL (l.drop i) = wtL l := by
  rw [← wtL_append, List.take_append_drop]
theorem wtL_take (l : List Tr) (i : Nat) : wtL (l.take i) ≤ wtL l := by have := wtL_split l i; omega
theorem wtL_drop (l : List Tr) (i : Nat) : wtL (l.drop i) ≤ wtL l := by have := wtL_split l i; omega
theorem wtL_mem {x : Tr} : ∀ {l : List Tr}, x ∈ l → wt x ≤ wtL l
  | _ :: r, .head _ => by rw [wtL_cons]; omega
  | _ :: r, .tail _ h => by have := wtL_mem h; rw [wtL_cons]; omega
theorem wtL_get {l : List Tr} {i : Nat} {x : Tr} (h : l[i]? = some x) : wt x ≤ wtL l := wtL_mem (List.mem_of_getElem? h)
/-- l, its i-th item, what is behind -/
theorem split_at {α : Type} {l : List α} {i : Nat} {x : α} (h : l[i]? = some x) : l = l.take i ++ x :: l.drop (i + 1) := by
  have hi : i < l.length := (List.getElem?_eq_some_iff.mp h).1
  have e : l[i] = x := (List.getElem?_eq_some_iff.mp h).2
  have d := List.drop_eq_getElem_cons hi
  rw [e] at d
  rw [← d, List.take_append_drop]
theorem wtL_at {l : List Tr} {i : Nat} {x : Tr} (h : l[i]? = some x) : wtL (l.take i) + (wt x + wtL (l.drop (i + 1))) = wtL l := by
  have e := congrArg wtL (split_at h)
  rw [wtL_append, wtL_cons] at e
  omega
theorem wtL_rep (x : Tr) (h : wt x = 3) : ∀ n : Nat, wtL (List.replicate n x) = 3 * n
  | 0 => by rw [List.replicate_zero, wtL_nil]
  | n + 1 => by rw [List.replicate_succ, wtL_cons, wtL_rep x h n, h]; omega
theorem wtL_all {n : Nat} : ∀ {l : List Tr}, (∀ x ∈ l, wt x ≤ n) → wtL l ≤ l.length * n
  | [], _ => by rw [wtL_nil]; omega
  | x :: r, h => by
    have a := h x (.head _)
    have b := wtL_all (l := r) fun y hy => h y (.tail _ hy)
    rw [wtL_cons, List.length_cons, Nat.add_mul, Nat.one_mul]; omega

/-! the special words, the numbers of parts -/
def spec : List Str := ["quote", "if", "same", "word", "head", "tail", "join"]
def specK : List (Str × Nat) := [("quote", 1), ("if", 3), ("same", 2), ("word", 1), ("head", 1), ("tail", 1), ("join", 2)]
def isSpec (s : Str) : Bool := decide (s ∈ spec)
def specN (s : Str) : Option Nat := specK.lookup s

/-- has_head: the name and the parameters of a function -/
def headOf : Tr → Option (Str × List Tr)
  | .t [.w n, .t ps, _] => some (n, ps)
  | _ => none
def cntF : List Tr → Str → Option Nat
  | [], _ => none
  | f :: r, s => match headOf f with
    | some (n, ps) => if n = s then some ps.length else cntF r s
    | none => cntF r s
def cnt (fs : List Tr) (s : Str) : Option Nat := match specN s with
  | some n => some n
  | none => cntF fs s

/-- the word s stands among these -/
def inW (s : Str) (l : List Tr) : Bool := l.any fun t => match t with
  | .w x => decide (x = s)
  | .t _ => false
mutual
def exOk (ps : List Tr) (c : Str → Option Nat) : Tr → Bool
  | .w s => inW s ps
  | .t l => (match l with
    | .w s :: r => decide (c s = some r.length) && (decide (s = ("quote" : Str)))
    | _ => false) || exOk2 ps c l
/-- the list of an expression that is no quote -/
def exOk2 (ps : List Tr) (c : Str → Option Nat) : List Tr → Bool
  | [] => false
  | x :: r => (match x with
    | .w s => decide (c s = some r.length)
    | .t _ => false) && exOkL ps c r
def exOkL (ps : List Tr) (c : Str → Option Nat) : List Tr → Bool
  | [] => true
  | x :: r => exOk ps c x && exOkL ps c r
end
theorem exOk_w {ps : List Tr} {c : Str → Option Nat} {s : Str} : exOk ps c (.w s) = inW s ps := by rw [exOk]
theorem exOk_nil {ps : List Tr} {c : Str → Option Nat} : exOk ps c (.t []) = false := by simp [exOk, exOk2]
theorem exOk_t {ps : List Tr} {c : Str → Option Nat} {l r : List Tr} : exOk ps c (.t (.t l :: r)) = false := by simp [exOk, exOk2]
theorem exOk_call {ps : List Tr} {c : Str → Option Nat} {s : Str} {r : List Tr} :
    exOk ps c (.t (.w s :: r)) = (decide (c s = some r.length) && (decide (s = ("quote" : Str)) || exOkL ps c r)) := by
  rw [exOk, exOk2]
  cases decide (c s = some r.length) <;> simp
theorem exOkL_nil {ps : List Tr} {c : Str → Option Nat} : exOkL ps c [] = true := by rw [exOkL]
theorem exOkL_cons {ps : List Tr} {c : Str → Option Nat} {x : Tr} {r : List Tr} : exOkL ps c (x :: r) = (exOk ps c x && exOkL ps c r) := by rw [exOkL]
theorem exOkL_append {ps : List Tr} {c : Str → Option Nat} : ∀ {a b : List Tr}, exOkL ps c (a ++ b) = (exOkL ps c a && exOkL ps c b)
  | [], b => by rw [List.nil_append, exOkL_nil, Bool.true_and]
  | x :: r, b => by rw [List.cons_append, exOkL_cons, exOkL_cons, exOkL_append, Bool.and_assoc]

/-- the k-th parameter is one -/
def parOk (ps : List Tr) (k : Nat) : Bool := match ps[k]? with
  | some (.w s) => !isSpec s && !inW s (ps.take k)
  | _ => false
def parsOk (ps : List Tr) : Bool := decide (ps.length ≤ 12) && (List.range ps.length).all (parOk ps)
def nameIn (n : Str) (fs : List Tr) : Bool := fs.any fun f => match f with
  | .t (.w m :: _) => decide (m = n)
  | _ => false
def digits (l : List Nat) : Bool := l.all fun c => decide (48 ≤ c) && decide (c ≤ 57)
/-- a name f and digits -/
def numOk (n : Str) (many : Nat) : Bool :=
  if n.cps.toList.head? = some 102 ∧ n.cps.toList.drop 1 ≠ [] ∧ digits (n.cps.toList.drop 1) = true then
    (decide ((n.cps.toList.drop 1).length = 1) || decide ((n.cps.toList.drop 1).head? ≠ some 48)) && decide (NumText.digitsVal (n.cps.toList.drop 1) < many)
  else true
def nameOk (fs : List Tr) (k : Nat) (n : Str) : Bool := !isSpec n && !nameIn n (fs.take k) && numOk n fs.length
def fnOk (fs : List Tr) (k : Nat) : Bool := match fs[k]? with
  | some (.t [.w n, .t ps, b]) => parsOk ps && nameOk fs k n && exOk ps (cnt fs) b
  | _ => false
def badF (fs : List Tr) : Option Nat := (List.range fs.length).find? fun k => !fnOk fs k
def badT : Tr → Option Nat
  | .w _ => some 0
  | .t fs => if fs.length = 0 then some 0 else badF fs
theorem badF_at {fs : List Tr} {k : Nat} (hk : k < fs.length) (h1 : ∀ j, j < k → fnOk fs j = true) (h2 : fnOk fs k = false) : badF fs = some k := by
  unfold badF
  rw [List.find?_range_eq_some]
  exact ⟨by simp [h2], List.mem_range.mpr hk, fun j hj => by simp [h1 j hj]⟩
theorem badF_none {fs : List Tr} (h : ∀ j, j < fs.length → fnOk fs j = true) : badF fs = none := by
  unfold badF
  rw [List.find?_range_eq_none]
  intro j hj
  simp [h j hj]

/-! expressions as they are drawn: n deep -/
def ExD : Nat → Tr → Prop
  | 0, t => (∃ s, t = .w s) ∨ ∃ r, t = .t (.w ("quote" : Str) :: r)
  | n + 1, t => (∃ s, t = .w s) ∨ (∃ r, t = .t (.w ("quote" : Str) :: r)) ∨ ∃ s r, t = .t (.w s :: r) ∧ ∀ x ∈ r, ExD n x
theorem ExD.word (n : Nat) (s : Str) : ExD n (.w s) := by
  cases n with
  | zero => exact .inl ⟨s, rfl⟩
  | succ n => exact .inl ⟨s, rfl⟩
theorem ExD.quote (n : Nat) (r : List Tr) : ExD n (.t (.w ("quote" : Str) :: r)) := by
  cases n with
  | zero => exact .inr ⟨r, rfl⟩
  | succ n => exact .inr (.inl ⟨r, rfl⟩)
theorem ExD.call {n : Nat} {s : Str} {r : List Tr} (h : ∀ x ∈ r, ExD n x) : ExD (n + 1) (.t (.w s :: r)) := .inr (.inr ⟨s, r, rfl, h⟩)
theorem ExD.up : ∀ {n : Nat} {t : Tr}, ExD n t → ExD (n + 1) t
  | 0, t, h => by
    rcases h with h | h
    · exact .inl h
    · exact .inr (.inl h)
  | n + 1, t, h => by
    rcases h with h | h | ⟨s, r, e, h⟩
    · exact .inl h
    · exact .inr (.inl h)
    · exact .inr (.inr ⟨s, r, e, fun x hx => (h x hx).up⟩)
theorem ExD.mono {n m : Nat} {t : Tr} (h : ExD n t) (k : n ≤ m) : ExD m t := by
  induction k with
  | refl => exact h
  | step _ ih => exact ih.up
theorem exdl_nil {n : Nat} : ∀ x ∈ ([] : List Tr), ExD n x := fun x h => by simp at h
theorem exdl_cons {n : Nat} {t : Tr} {r : List Tr} (h : ExD n t) (hr : ∀ x ∈ r, ExD n x) : ∀ x ∈ t :: r, ExD n x := fun x hx => by
  rcases List.mem_cons.mp hx with e | q
  · rw [e]; exact h
  · exact hr x q
end K4

/-! ### B. The trees over the abstract heap -/
namespace K4
open PySem PySem.Spec PyProof.Rows L2

mutual
/-- v is the tree there -/
def TrV (H : Hp) : Tr → V → Prop
  | .w s, v => v = .str s
  | .t l, v => ∃ a vs, v = .ref a ∧ H a = some (.tup vs) ∧ TrL H l vs
def TrL (H : Hp) : List Tr → List V → Prop
  | [], vs => vs = []
  | x :: r, vs => ∃ v us, vs = v :: us ∧ TrV H x v ∧ TrL H r us
end
theorem TrV.word {H : Hp} {s : Str} {v : V} (h : TrV H (.w s) v) : v = .str s := by rw [TrV] at h; exact h
theorem TrV.tup {H : Hp} {l : List Tr} {v : V} (h : TrV H (.t l) v) : ∃ a vs, v = .ref a ∧ H a = some (.tup vs) ∧ TrL H l vs := by rw [TrV] at h; exact h
theorem TrV.w {H : Hp} (s : Str) : TrV H (.w s) (.str s) := by rw [TrV]
theorem TrV.t {H : Hp} {l : List Tr} {a : Addr} {vs : List V} (h : H a = some (.tup vs)) (hl : TrL H l vs) : TrV H (.t l) (.ref a) := by
  rw [TrV]; exact ⟨a, vs, rfl, h, hl⟩
theorem TrL.nil {H : Hp} : TrL H [] [] := by rw [TrL]
theorem TrL.cons {H : Hp} {x : Tr} {r : List Tr} {v : V} {us : List V} (h : TrV H x v) (hr : TrL H r us) : TrL H (x :: r) (v :: us) := by
  rw [TrL]; exact ⟨v, us, rfl, h, hr⟩
theorem TrL.nil' {H : Hp} {vs : List V} (h : TrL H [] vs) : vs = [] := by rw [TrL] at h; exact h
theorem TrL.cons' {H : Hp} {x : Tr} {r : List Tr} {vs : List V} (h : TrL H (x :: r) vs) : ∃ v us, vs = v :: us ∧ TrV H x v ∧ TrL H r us := by
  rw [TrL] at h; exact h
theorem TrL.one {H : Hp} {x : Tr} {v : V} (h : TrV H x v) : TrL H [x] [v] := .cons h .nil
theorem TrL.len {H : Hp} : ∀ {l : List Tr} {vs : List V}, TrL H l vs → vs.length = l.length
  | [], vs, h => by rw [h.nil']; rfl
  | x :: r, vs, h => by
    obtain ⟨v, us, rfl, _, hr⟩ := h.cons'
    rw [List.length_cons, List.length_cons, hr.len]
theorem TrL.get {H : Hp} : ∀ {l : List Tr} {vs : List V} {i : Nat} {x : Tr}, TrL H l vs → l[i]? = some x → ∃ v, vs[i]? = some v ∧ TrV H x v
  | [], _, i, x, _, e => by simp at e
  | y :: r, vs, 0, x, h, e => by
    obtain ⟨v, us, rfl, hv, _⟩ := h.cons'
    simp at e; subst e
    exact ⟨v, rfl, hv⟩
  | y :: r, vs, i + 1, x, h, e => by
    obtain ⟨v, us, rfl, _, hr⟩ := h.cons'
    obtain ⟨u, h1, h2⟩ := hr.get (i := i) (x := x) (by simpa using e)
    exact ⟨u, by simpa using h1, h2⟩
/-- an item of the values is one of the trees -/
theorem TrL.of {H : Hp} : ∀ {l : List Tr} {vs : List V} {i : Nat} {v : V}, TrL H l vs → vs[i]? = some v → ∃ x, l[i]? = some x ∧ TrV H x v
  | [], vs, i, x, h, e => by rw [h.nil'] at e; simp at e
  | y :: r, vs, 0, x, h, e => by
    obtain ⟨v, us, rfl, hv, _⟩ := h.cons'
    simp at e; subst e
    exact ⟨y, rfl, hv⟩
  | y :: r, vs, i + 1, x, h, e => by
    obtain ⟨v, us, rfl, _, hr⟩ := h.cons'
    obtain ⟨u, h1, h2⟩ := hr.of (i := i) (v := x) (by simpa using e)
    exact ⟨u, by simpa using h1, h2⟩
theorem TrL.append {H : Hp} : ∀ {a b : List Tr} {vs us : List V}, TrL H a vs → TrL H b us → TrL H (a ++ b) (vs ++ us)
  | [], b, vs, us, h, k => by rw [h.nil']; exact k
  | x :: r, b, vs, us, h, k => by
    obtain ⟨v, ws, rfl, hv, hr⟩ := h.cons'
    exact .cons hv (hr.append k)
theorem TrL.take {H : Hp} : ∀ {l : List Tr} {vs : List V} (n : Nat), TrL H l vs → TrL H (l.take n) (vs.take n)
  | l, vs, 0, h => by rw [List.take_zero, List.take_zero]; exact .nil
  | [], vs, n + 1, h => by rw [h.nil']; exact .nil
  | x :: r, vs, n + 1, h => by
    obtain ⟨v, ws, rfl, hv, hr⟩ := h.cons'
    exact .cons hv (hr.take n)
theorem TrL.drop {H : Hp} : ∀ {l : List Tr} {vs : List V} (n : Nat), TrL H l vs → TrL H (l.drop n) (vs.drop n)
  | l, vs, 0, h => h
  | [], vs, n + 1, h => by rw [h.nil']; exact .nil
  | x :: r, vs, n + 1, h => by
    obtain ⟨v, ws, rfl, hv, hr⟩ := h.cons'
    exact hr.drop n
theorem TrL.rep {H : Hp} {x : Tr} {v : V} (h : TrV H x v) : ∀ n : Nat, TrL H (List.replicate n x) (List.replicate n v)
  | 0 => .nil
  | n + 1 => .cons h (TrL.rep h n)
theorem TrL.set {H : Hp} {x : Tr} {v : V} (h : TrV H x v) : ∀ {l : List Tr} {vs : List V} (i : Nat), TrL H l vs → TrL H (l.set i x) (vs.set i v)
  | [], vs, i, k => by rw [k.nil']; exact .nil
  | y :: r, vs, 0, k => by
    obtain ⟨u, us, rfl, _, kr⟩ := k.cons'
    exact .cons h kr
  | y :: r, vs, i + 1, k => by
    obtain ⟨u, us, rfl, ku, kr⟩ := k.cons'
    exact .cons ku (kr.set h i)
theorem TrL.dropLast {H : Hp} {l : List Tr} {vs : List V} (h : TrL H l vs) : TrL H l.dropLast vs.dropLast := by
  rw [List.dropLast_eq_take, List.dropLast_eq_take, h.len]
  exact h.take _

/-! what stays -/
/-- the tuples stay -/
def Tup (H H' : Hp) : Prop := ∀ a vs, H a = some (.tup vs) → H' a = some (.tup vs)
mutual
theorem TrV.mono {H H' : Hp} (k : Tup H H') : ∀ {x : Tr} {v : V}, TrV H x v → TrV H' x v
  | .w s, v, h => by rw [h.word]; exact .w s
  | .t l, v, h => by
    obtain ⟨a, vs, rfl, ha, hl⟩ := h.tup
    exact .t (k a vs ha) (hl.mono k)
theorem TrL.mono {H H' : Hp} (k : Tup H H') : ∀ {l : List Tr} {vs : List V}, TrL H l vs → TrL H' l vs
  | [], vs, h => by rw [h.nil']; exact .nil
  | x :: r, vs, h => by
    obtain ⟨v, us, rfl, hv, hr⟩ := h.cons'
    exact .cons (hv.mono k) (hr.mono k)
end
/-- all but the object at g is as it was -/
def But (g : Addr) (H H' : Hp) : Prop := ∀ b o, b ≠ g → H b = some o → H' b = some o
theorem But.refl (g : Addr) (H : Hp) : But g H H := fun _ _ _ h => h
theorem But.trans {g : Addr} {H H1 H2 : Hp} (a : But g H H1) (b : But g H1 H2) : But g H H2 := fun x o n h => b x o n (a x o n h)
theorem _root_.L2.Same.but {g : Addr} {H H' : Hp} (s : Same H H') : But g H H' := fun b o _ h => s b o h
theorem _root_.L2.Same.tup {H H' : Hp} (s : Same H H') : Tup H H' := fun a vs h => s a _ h
theorem But.tup {g : Addr} {H H' : Hp} {xs : List V} (b : But g H H') (hg : H g = some (.lst xs)) : Tup H H' := fun a vs h =>
  b a _ (ne_of h hg (fun e => HO.noConfusion e)) h
theorem same_new {H : Hp} {p : Addr} (h : H p = none) (o : HO) : Same H (upd H p o) := fun b u q => by rw [upd_ne (ne_of_none q h)]; exact q
theorem But.new {g : Addr} {H : Hp} {p : Addr} (h : H p = none) (o : HO) : But g H (upd H p o) := (same_new h o).but
/-- the object at g is written -/
theorem But.upd {g : Addr} {H : Hp} (o : HO) : But g H (upd H g o) := fun b u n h => by rw [upd_ne n]; exact h
theorem Tup.refl (H : Hp) : Tup H H := fun _ _ h => h
theorem Tup.trans {H H1 H2 : Hp} (a : Tup H H1) (b : Tup H1 H2) : Tup H H2 := fun x vs h => b x vs (a x vs h)
theorem Tup.lst {H : Hp} {g : Addr} {xs : List V} (hg : H g = some (.lst xs)) (o : HO) : Tup H (upd H g o) := fun a vs h => by
  rw [upd_ne (ne_of h hg (fun e => HO.noConfusion e))]; exact h
theorem Tup.dK {H : Hp} {g : Addr} {xs : List (Key × V)} (hg : H g = some (.dK xs)) (o : HO) : Tup H (upd H g o) := fun a vs h => by
  rw [upd_ne (ne_of h hg (fun e => HO.noConfusion e))]; exact h
theorem Tup.new {H : Hp} {p : Addr} (h : H p = none) (o : HO) : Tup H (L2.upd H p o) := (same_new h o).tup

/-- the law's hand: where it stands, where its draws stand, its draws -/
structure Hd where
  g : Addr
  d : Addr
  ns : List Int
def Hand (x : Hd) (H : Hp) : Prop := x.d ≠ x.g ∧ H x.d = some (.lst (x.ns.map V.int)) ∧ ∃ p : Int, 0 ≤ p ∧ H x.g = some (.lst [.ref x.d, .int p])
theorem Hand.but {x : Hd} {H H' : Hp} (h : Hand x H) (s : Same H H') : Hand x H' := by
  obtain ⟨h1, h2, p, h3, h4⟩ := h
  exact ⟨h1, s _ _ h2, p, h3, s _ _ h4⟩
theorem Hand.ls {x : Hd} {H : Hp} (h : Hand x H) : ∃ xs, H x.g = some (.lst xs) := by
  obtain ⟨_, _, p, _, h4⟩ := h
  exact ⟨_, h4⟩
theorem Hand.tup {x : Hd} {H H' : Hp} (h : Hand x H) (b : But x.g H H') : Tup H H' := by
  obtain ⟨xs, hx⟩ := h.ls
  exact b.tup hx
theorem Hand.new {x : Hd} {H : Hp} (h : Hand x H) {p : Addr} (hp : H p = none) (o : HO) : Hand x (L2.upd H p o) := h.but (same_new hp o)
theorem Hand.ne {x : Hd} {a : Addr} {H : Hp} (h : Hand x H) {vs : List V} (ha : H a = some (.tup vs)) : a ≠ x.g := by
  obtain ⟨xs, hx⟩ := h.ls
  exact ne_of ha hx (fun e => HO.noConfusion e)
theorem Hand.free {x : Hd} {L : Addr} {H : Hp} (h : Hand x H) (hL : H L = none) : L ≠ x.g ∧ L ≠ x.d := by
  obtain ⟨_, h2, p, _, h4⟩ := h
  exact ⟨(ne_of_none h4 hL).symm, (ne_of_none h2 hL).symm⟩
/-- what was made behind H2 is written -/
theorem Hand.over {x : Hd} {L : Addr} {H2 H3 : Hp} (h2 : Hand x H2) (hL : H2 L = none) (h3 : Hand x H3) (o : HO) : Hand x (L2.upd H3 L o) := by
  obtain ⟨n1, n2⟩ := h2.free hL
  obtain ⟨a, b, p, c, d⟩ := h3
  exact ⟨a, by rw [upd_ne n2.symm]; exact b, p, c, by rw [upd_ne n1.symm]; exact d⟩
theorem But.over {g L : Addr} {H H3 : Hp} (b : But g H H3) (hL : H L = none) (o : HO) : But g H (L2.upd H3 L o) := fun c u n q => by
  rw [upd_ne (ne_of_none q hL)]; exact b c u n q
theorem _root_.L2.Same.over {L : Addr} {H H3 : Hp} (b : Same H H3) (hL : H L = none) (o : HO) : Same H (L2.upd H3 L o) := fun c u q => by
  rw [upd_ne (ne_of_none q hL)]; exact b c u q
/-- what is free behind a call was free ahead of it -/
theorem Hand.gone {x : Hd} {L : Addr} {H H' : Hp} (h' : Hand x H') (b : But x.g H H') (hL : H' L = none) : H L = none := by
  cases e : H L with
  | none => rfl
  | some o =>
    have z := b L o (h'.free hL).1 e
    rw [hL] at z; cases z
theorem small20 {n : Nat} (h : n ≤ 20000) : n < sizeLine := by rw [sizeLine_eq]; omega

/-! a list that a comprehension fills with trees -/
def Grow (x : Hd) (H2 : Hp) (L : Addr) (R : Tr → Prop) (i : Nat) (H' : Hp) : Prop := ∃ ts vs, ts.length = i ∧ But x.g H2 H' ∧ Hand x H' ∧ H' L = some (.lst vs) ∧ TrL H' ts vs ∧ ∀ t ∈ ts, R t
theorem Grow.start {x : Hd} {H2 : Hp} {L : Addr} {R : Tr → Prop} (h2 : Hand x H2) (hL : H2 L = none) : Grow x H2 L R 0 (upd H2 L (.lst [])) :=
  ⟨[], [], rfl, But.new hL _, h2.new hL _, upd_same, .nil, fun t h => by simp at h⟩
theorem Grow.more {x : Hd} {H2 H' H3 : Hp} {L : Addr} {R : Tr → Prop} {i : Nat} {t : Tr} {v : V} (g : Grow x H2 L R i H') (h2 : Hand x H2) (hL : H2 L = none) (hi : i ≤ 1000) (b3 : But x.g H' H3) (h3 : Hand x H3) (tv : TrV H3 t v) (r : R t) :
    ∃ acc, H3 L = some (.lst acc) ∧ acc.length < sizeLine ∧ Grow x H2 L R (i + 1) (upd H3 L (.lst (acc ++ [v]))) := by
  obtain ⟨ts, vs, el, b', h', eL, tl, rl⟩ := g
  have e3 : H3 L = some (.lst vs) := b3 L _ (h2.free hL).1 eL
  have lv := tl.len
  refine ⟨vs, e3, small20 (by omega), ts ++ [t], vs ++ [v], by rw [List.length_append, el]; rfl, (b'.trans b3).over hL _, h2.over hL h3 _, upd_same, ?_, ?_⟩
  · exact ((tl.mono (h'.tup b3)).mono (Tup.lst e3 _)).append (.one (tv.mono (Tup.lst e3 _)))
  · intro y hy
    rcases List.mem_append.mp hy with q | q
    · exact rl y q
    · have e : y = t := by simpa using q
      rw [e]; exact r
theorem cx_K {CX : CXT} {P : Program} {w : World} {K : PySem.W.Frag} {mg : Str → Option Value} {base : Heap} {N : List Str} {qual : Str} {scope : Scope} {f : Addr} {cd : Value} {A : Around} {outer : List Env} {s : Shared} {H : Hp} {E : XK} :
    (cxOf CX P w K mg base N qual scope f cd A outer s H E).K = K := rfl
end K4

/-! ### R1. tuple * int, for any small int -/
namespace K4
open PySem PySem.Spec PyProof.Rows L2
open PySem.AutoSeq1 (wpAny_loadPart')
theorem tuple_mul1 (l : Addr) (items : Array Value) (n : Nat) (dd : Option Addr) (sl : Array (Option Value)) (u : Tok) (he : items.isEmpty = false) :
    Meets (Builtin.«tuple.__mul__» ⟨[.ref l, .int 1 u], []⟩) (fun _ R s => s.heap.get? l = some { cls := .type "tuple", dict := dd, data := .seq items n, slots := sl } ∧
      R (.ok (.ret (Value.ref l))) { s with heap := s.heap, toks := s.toks }) :=
  .of_wp fun prog w A R s h => by
    obtain ⟨hp, g, d, tk, os⟩ := s
    obtain ⟨hl, h⟩ := h
    have f1 := AutoSeq1.idx_int
    have c0 : (decide ((1 : Int) < -(2 ^ 63)) || decide ((1 : Int) ≥ 2 ^ 63)) = false := by decide
    have c1 : (items.isEmpty || (1 : Int) == 1) = true := by rw [he]; rfl
    wp_walk using wpAny_loadPart' hl
    repeat (first
      | (refine wpAny_ite_false (decide_eq_false (by rw [c0]; exact Bool.false_ne_true)) ?_; wp_walk using wpAny_loadPart' hl)
      | (refine wpAny_ite_true (decide_eq_true c1) ?_; wp_walk using wpAny_loadPart' hl))
    exact ⟨_, rfl, h⟩
theorem tuple_mul0 (l : Addr) (items : Array Value) (n : Nat) (dd : Option Addr) (sl : Array (Option Value)) (u : Tok) (he : items.isEmpty = false) :
    Meets (Builtin.«tuple.__mul__» ⟨[.ref l, .int 0 u], []⟩) (fun _ R s => s.heap.get? l = some { cls := .type "tuple", dict := dd, data := .seq items n, slots := sl } ∧
      R (.ok (.ret (Value.ref s.heap.objs.size))) { s with heap := s.heap.push { cls := Value.type "tuple", data := Data.seq #[] }, toks := s.toks }) :=
  .of_wp fun prog w A R s h => by
    obtain ⟨hp, g, d, tk, os⟩ := s
    obtain ⟨hl, h⟩ := h
    have f1 := AutoSeq1.idx_int
    have c0 : (decide ((0 : Int) < -(2 ^ 63)) || decide ((0 : Int) ≥ 2 ^ 63)) = false := by decide
    have c1 : (items.isEmpty || (0 : Int) == 1) = false := by rw [he]; rfl
    have c2 : (decide ((0 : Int) ≤ 0) || items.isEmpty) = true := by rfl
    wp_walk using wpAny_loadPart' hl
    repeat (first
      | (refine wpAny_ite_false (decide_eq_false (by rw [c0]; exact Bool.false_ne_true)) ?_; wp_walk using wpAny_loadPart' hl)
      | (refine wpAny_ite_false (decide_eq_false (by rw [c1]; exact Bool.false_ne_true)) ?_; wp_walk using wpAny_loadPart' hl)
      | (refine wpAny_ite_true (decide_eq_true c2) ?_; wp_walk using wpAny_loadPart' hl))
    exact ⟨_, rfl, h⟩
/-- t * k, t not empty -/
def rRepA (K : PySem.W.Frag) : R2 := fun x y H Q => ∃ l k xs, x = .ref l ∧ y = .int k ∧ SqT K H l xs ∧ xs ≠ [] ∧ 0 ≤ k ∧ k ≤ 1000 ∧ xs.length ≤ 1000 ∧
  (k = 1 → Q (.ref l) H) ∧ (k ≠ 1 → ∀ p, H p = none → Q (.ref p) (upd H p (.tup (List.replicate k.toNat xs).flatten)))
theorem op_repA {X : Cx} : OpR X (binaryOp .Mult) (rRepA X.K) := by
  intro pins s σ H x y v u Q I rx ry h
  obtain ⟨l, k, xs, rfl, rfl, hT, hne, h0, h2, hz, q1, q⟩ := h
  by_cases hk : 2 ≤ k
  · exact op_repT pins s σ H _ _ v u Q I rx ry ⟨l, k, xs, rfl, rfl, hT, hne, hk, h2, hz, q (by omega)⟩
  cases rx
  obtain ⟨t, rfl⟩ := ry
  obtain ⟨its, r, ⟨⟨cls, dd, data, sl⟩, ho, hc, n, hd⟩, hs⟩ := I.tuple hT
  simp only at hc hd
  subst hc hd
  have hle : its.length = xs.length := r.length.symm
  have hn : its ≠ [] := fun e => hne (by
    rw [e] at hle
    exact List.eq_nil_of_length_eq_zero hle.symm)
  have hi : its.toArray.isEmpty = false := by
    cases its with
    | nil => exact absurd rfl hn
    | cons a b => rfl
  by_cases h1 : k = 1
  · subst h1
    refine wpAny_binaryOp_repeat_ref (T := "tuple") (U := "int") (by decide) ⟨_, ho, rfl⟩ (fun s' => typeIs_int s' 1 t) noFill_tuple_mul F.fills_int_mul F.slot_int_rmul repeat_tuple F.slot_int_index.lookup
      (call_meets F.slot_int_rmul (typeIs_int s 1 t) F.entry_int_rmul (F.args_int_rmul_2 _ _) (int_rmul_tuple 1 t l its.toArray n dd sl)
        ⟨ho, rfl, ⟨_, ho, rfl⟩, call_meets F.slot_tuple_mul ⟨_, ho, rfl⟩ F.entry_tuple_mul (F.args_tuple_mul_2 _ _) (tuple_mul1 l its.toArray n dd sl t hi) ⟨ho, ?_⟩⟩)
    exact ⟨.ref l, H, I.tok _, rfl, q1 rfl⟩
  · have e0 : k = 0 := by omega
    subst e0
    refine wpAny_binaryOp_repeat_ref (T := "tuple") (U := "int") (by decide) ⟨_, ho, rfl⟩ (fun s' => typeIs_int s' 0 t) noFill_tuple_mul F.fills_int_mul F.slot_int_rmul repeat_tuple F.slot_int_index.lookup
      (call_meets F.slot_int_rmul (typeIs_int s 0 t) F.entry_int_rmul (F.args_int_rmul_2 _ _) (int_rmul_tuple 0 t l its.toArray n dd sl)
        ⟨ho, rfl, ⟨_, ho, rfl⟩, call_meets F.slot_tuple_mul ⟨_, ho, rfl⟩ F.entry_tuple_mul (F.args_tuple_mul_2 _ _) (tuple_mul0 l its.toArray n dd sl t hi) ⟨ho, ?_⟩⟩)
    refine ⟨.ref s.heap.objs.size, _, I.laid (t' := s.toks) (o := .tup (List.replicate (0 : Int).toNat xs).flatten) (fun b ob q => Heap.get?_push_of_some _ q) (Nat.le_refl _) ?_, rfl, q (by decide) _ (I.hok.fresh (Nat.le_refl _))⟩
    exact ⟨by show 0 ≤ sizeLine; exact Nat.zero_le _, [], .nil, IsTup.new _ _⟩
end K4

/-! ### R2. t[::-1], t a tuple of two -/
namespace K4
open PySem PySem.Spec PyProof.Rows L2 HT
section
variable {prog : Program} {w : World} {A : Around} {E : Value → Shared → Prop} {s : Shared}
theorem sliceApplied_back {sl : Addr} {vs : Value} {Q : Int × Int × Nat → Shared → Prop} (hs : s.heap.IsSliceOf sl .none .none vs) (ps : IsPart vs (some (-1)))
    (h : Q (1, -1, 2) s) : wpAny (model prog w) A (Builtin.Slice.sliceApplied (.ref sl) (pure (2 : Int))) Q E s := by
  obtain ⟨os, hos, hcs, hds⟩ := id hs
  unfold Builtin.Slice.sliceApplied Builtin.Slice.sliceFields
  refine wpAny_bind (wpAny_bind (wpAny_field hos hds (x := .none) rfl (wpAny_bind (wpAny_field hos hds (x := .none) rfl (wpAny_bind (wpAny_field hos hds (x := vs) rfl (wpAny_pure ?_)))))))
  refine wpAny_bind (slicePart_ ps ?_)
  show wpAny _ _ (if ((-1 : Int) == 0) = true then _ else _) _ _ s
  rw [if_neg (by decide)]
  refine wpAny_bind (slicePart_none (wpAny_bind (slicePart_none (wpAny_bind (wpAny_pure ?_)))))
  show wpAny _ _ (pure ((1 : Int), (-1 : Int), 2)) _ _ s
  exact wpAny_pure h
theorem getItem_tuple_back {t sl : Addr} {u v vs : Value} {Q : Value → Shared → Prop} (ht : IsTup s.heap t #[u, v]) (hs : s.heap.IsSliceOf sl .none .none vs) (ps : IsPart vs (some (-1)))
    (h : Q (.ref s.heap.objs.size) { s with heap := s.heap.push { cls := .type "tuple", data := .seq #[v, u] } }) : wpAny (model prog w) A (getItem (.ref t) (.ref sl)) Q E s := by
  obtain ⟨os, hos, hcs, hds⟩ := id hs
  have hTs : s.TypeIs (.ref sl) "slice" := ⟨os, hos, hcs⟩
  have hsz : sizeOk (.seq #[v, u]) := by show 2 ≤ sizeLine; decide
  unfold getItem
  try with_reducible refine wpAny_holding ?_
  first | refine wpAny_bind (wpAny_pure ?_) | skip
  refine wpAny_bind (wpAny_sequenceKey ht.typeIs (by decide) ?_)
  refine wpAny_bind (wpAny_callSpecial?_slot (name := Str.ofString "__getitem__") ht.typeIs PyProof.Rows.slot_tuple_getitem
    (wpAny_call_entry PyProof.Rows.slot_tuple_getitem ht.typeIs entry_tuple_getitem ?_ (args_tuple_getitem _ _)))
  show wpAny _ _ (Builtin.Tuple.tupleItemsOf (.ref t) >>= _) _ _ s
  refine wpAny_bind (tupleItemsOf_ ht ?_)
  refine wpAny_bind (wpAny_typeOf hTs ?_)
  rw [if_pos (by decide)]
  refine wpAny_bind (sliceApplied_back hs ps ?_)
  show wpAny _ _ (if ((1 : Int) == 0 && (-1 : Int) == 1 && (2 : Nat) == 2) = true then _ else _) _ _ s
  rw [if_neg (by decide)]
  first
    | exact wpAny_bind (m := Builtin.Tuple.tupleExact _) (wpAny_newObj_type (wpAny_pure ⟨_, rfl, wpAny_pure h⟩) hsz)
    | exact wpAny_bind (m := Builtin.Tuple.tupleExact _) (wpAny_newObj_type (wpAny_bind (wpAny_pure (wpAny_pure ⟨_, rfl, wpAny_pure h⟩))) hsz)
    | exact wpAny_bind (wpAny_bind (m := Builtin.Tuple.tupleExact _) (wpAny_newObj_type (wpAny_pure (wpAny_pure ⟨_, rfl, wpAny_pure h⟩)) hsz))
    | exact wpAny_bind (wpAny_bind (m := Builtin.Tuple.tupleExact _) (wpAny_newObj_type (wpAny_pure ⟨_, rfl, wpAny_pure h⟩) hsz))
end
def tRev (te : TE) : TE := fun σ H Q => te σ H fun x H1 => ∃ a x1 x2, x = .ref a ∧ H1 a = some (.tup [x1, x2]) ∧ ∀ p, H1 p = none → Q (.ref p) (upd H1 p (.tup [x2, x1]))
theorem pe_rev {X : Cx} {e : Expr} {te : TE} {k : Nat} {p1 p2 p3 pos : Pos} (hc : X.calm = true) (he : PE X e te) : PE X (.Subscript e (.Slice none none (some (.UnaryOp .USub (.Constant (.int 1) k p1) p2)) p3) pos) (tRev te) := by
  refine ⟨fun pins s σ H Q I h => ?_⟩
  refine Subscript_ (thn (he.run pins s σ H _ I h) fun v s1 ⟨x, H1, I1, r1, q1⟩ => ?_)
  obtain ⟨a, x1, x2, ex, hx, q⟩ := q1
  subst ex
  cases r1
  have hst : PO X (some (.UnaryOp .USub (.Constant (.int 1) k p1) p2)) (tPart (tUn (rU fun i => .int (-i)) (tC (.int 1)))) := po_some (pe_un un_neg pe_int)
  refine wpAny_Slice (thn (po_none.run pins s1 σ H1 (fun o H2 => o = none ∧ H2 = H1) I1 ⟨rfl, rfl⟩) fun vl s2 ⟨l, H2, I2, pl, el, e2⟩ => ?_)
  subst el e2
  refine thn (po_none.run pins s2 σ H2 (fun o H3 => o = none ∧ H3 = H2) I2 ⟨rfl, rfl⟩) fun vu s3 ⟨u, H3, I3, pu, eu, e3⟩ => ?_
  subst eu e3
  refine thn (hst.run pins s3 σ H3 (fun o H4 => o = some (-1) ∧ H4 = H3) I3 ⟨1, rfl, -1, rfl, rfl, rfl⟩) fun vs s4 ⟨o, H4, I4, ps, eo, e4⟩ => ?_
  subst eo e4
  cases pl
  cases pu
  have I5 : Inv X pins σ H4 { s4 with heap := s4.heap.push { cls := .type "slice", data := .fields #[.none, .none, vs] } } := I4.kept (t' := s4.toks) fun b ob q => Heap.get?_push_of_some _ q
  obtain ⟨its, r, ht, hz⟩ := I5.tuple (SqT.of hx)
  obtain ⟨u1, u2, rfl, ru1, ru2⟩ := vals2 r
  show wpAny (model X.prog X.w) X.A (subscriptTail e (.Slice none none (some (.UnaryOp .USub (.Constant (.int 1) k p1) p2)) p3) (.ref a) (.ref s4.heap.objs.size)) (EP X pins σ Q) X.xe { s4 with heap := s4.heap.push { cls := .type "slice", data := .fields #[.none, .none, vs] } }
  refine tail_any (ops := [.ref a, .ref s4.heap.objs.size]) ht.typeIs (PyProof.Rows.slot_tuple_getitem.lookup) ?_ (by with_unfolding_all rfl)
  refine getItem_tuple_back ht (Heap.IsSliceOf.new _ .none .none vs) ps ?_
  refine ⟨.ref _, _, I5.laid (t' := s4.toks) (o := .tup [x2, x1]) (fun b ob q => Heap.get?_push_of_some _ q) (Nat.le_refl _) ?_, rfl, q _ (I5.hok.fresh (Nat.le_refl _))⟩
  exact ⟨by show 2 ≤ sizeLine; decide, [u2, u1], .cons ru2 (.cons ru1 .nil), IsTup.new _ _⟩
end K4

/-! ### R3. for i, x in enumerate(t), t a tuple -/
namespace PySem
open AutoSeq1 (wpAny_loadPart')
theorem k4_enumerate_newT (l : Addr) (items : Array Value) (n : Nat) (dct : Option Addr) (sl : Array (Option Value)) :
    Meets (Builtin.«enumerate.__new__» ⟨[.type "enumerate", .ref l], []⟩) (fun _ R s => s.heap.get? l = some { cls := .type "tuple", dict := dct, data := .seq items n, slots := sl } ∧
      R (.ok (.ret (.ref (s.heap.push { cls := .type "tuple_iterator", data := .fields #[.ref l, .int 0 0] }).objs.size)))
        { s with heap := (s.heap.push { cls := .type "tuple_iterator", data := .fields #[.ref l, .int 0 0] }).push { cls := .type "enumerate", data := .fields #[.none, .bool false, .ref s.heap.objs.size, rawInt 0, .none, .none] } }) :=
  .of_wp fun prog w A R s h => by
    obtain ⟨hp, g, d, tk, os⟩ := s; obtain ⟨hl, h⟩ := h
    have hsub := sub_enumerate
    have hL : Heap.IsTuple (Shared.heap ⟨hp, g, d, tk, os⟩) l items := ⟨_, hl, rfl, n, rfl⟩
    wp_walk using wpAny_loadPart' hl
    refine wpAny_stack_any fun st => wpAny_pure ?_
    split
    · rename_i c _ _ _ _ _
      cases (c == Value.type "enumerate")
      · wp_walk using wpAny_loadPart' hl, wpAny_pyIter_tuple hL
        exact ⟨_, rfl, h⟩
      · wp_walk using wpAny_loadPart' hl, wpAny_pyIter_tuple hL
        exact ⟨_, rfl, h⟩
    · wp_walk using wpAny_loadPart' hl, wpAny_pyIter_tuple hL
      exact ⟨_, rfl, h⟩
section
variable {prog : Program} {w : World} {A : Around} {E : Value → Shared → Prop} {s : Shared}
theorem k4_call_enumerate_tup {l : Addr} {items : Array Value} {Q : Value → Shared → Prop} (hL : s.heap.IsTuple l items)
    (h : ∀ h', IsEnum h' (s.heap.objs.size + 1) s.heap.objs.size 0 .none → h'.IsTupleIter s.heap.objs.size l 0 → h'.objs.size = s.heap.objs.size + 2 →
      (∀ b o, s.heap.get? b = some o → h'.get? b = some o) → Q (.ref (s.heap.objs.size + 1)) { s with heap := h' }) :
    wpAny (model prog w) A (call (.type "enumerate") [.ref l]) Q E s := by
  obtain ⟨⟨c, dct, dt, sl⟩, hl, hc, n, hd⟩ := hL
  replace hc : c = .type "tuple" := hc
  replace hd : dt = .seq items n := hd
  subst hc hd
  refine callType_new F.called_enumerate (by decide) (F.typeCall_enumerate_1 _) (F.newCall_enumerate_1 _) (fun obj => F.args_object_init_2 obj _) F.entry_enumerate_new
    (k4_enumerate_newT l items n dct sl) ⟨hl, ?_⟩
  have hz : (s.heap.push { cls := .type "tuple_iterator", data := .fields #[.ref l, .int 0 0] }).objs.size = s.heap.objs.size + 1 := Heap.size_push ..
  show _ ∧ _
  rw [hz]
  have he : IsEnum ((s.heap.push { cls := .type "tuple_iterator", data := .fields #[.ref l, .int 0 0] }).push
      { cls := .type "enumerate", data := .fields #[.none, .bool false, .ref s.heap.objs.size, rawInt 0, .none, .none] }) (s.heap.objs.size + 1) s.heap.objs.size 0 .none := by
    have := Heap.get?_push_size (s.heap.push { cls := .type "tuple_iterator", data := .fields #[.ref l, .int 0 0] })
      (o := { cls := .type "enumerate", data := .fields #[.none, .bool false, .ref s.heap.objs.size, rawInt 0, .none, .none] }) rfl
    rw [hz] at this; exact this
  refine ⟨⟨_, he, rfl⟩, h _ he ⟨_, Heap.get?_push_of_some _ (Heap.get?_push_size _ rfl), rfl, rfl⟩ (by rw [Heap.size_push, hz]) fun b o x => Heap.get?_push_of_some _ (Heap.get?_push_of_some _ x)⟩
end
end PySem
namespace K4
open PySem PySem.Spec PyProof.Rows L2
/-- the tuple at a, each item in a new pair -/
def Itet (a : Addr) (xs : List V) : It :=
  ⟨fun i H => H a = some (.tup xs) ∧ i < xs.length, fun i H v H' => ∃ T x, v = .ref T ∧ H T = none ∧ H' = upd H T (.tup [.int (i : Nat), x]) ∧ xs[i]? = some x, fun i H => H a = some (.tup xs) ∧ i = xs.length⟩
theorem turn_enumT {P : Program} {w : World} {K : PySem.W.Frag} {elts : List Expr} {kk : Nat} {tpos : Pos} (a e it : Addr) (xs : List V) :
    Turn P w K (.Tuple elts kk tpos) (Itet a xs) [e, it] e (fun i h => (∃ old, IsEnum h e it ((i : Nat) : Int) old) ∧ h.IsTupleIter it a i ∧ e ≠ it ∧ a ≠ it ∧ a ≠ e) where
  mem := by simp
  obj := fun i h st b hb => by
    obtain ⟨⟨old, he⟩, ⟨o, ho, hc, hd⟩, _⟩ := st
    have e' : b = e ∨ b = it := by simpa using hb
    rcases e' with z | z
    · rw [z]; exact ⟨_, he, fun v q => nomatch q⟩
    · rw [z]; exact ⟨o, ho, fun v q => by rw [hd] at q; cases q⟩
  keep := fun i h h' st k => let ⟨⟨old, he⟩, hi, hne⟩ := st; ⟨⟨old, k e (by simp) _ he⟩, hi.at fun o q => k it (by simp) o q, hne⟩
  item := by
    intro X hP hw hK hc i pins s σ H E I hf st hg
    subst hP hw hK
    obtain ⟨⟨old, he⟩, hit, hne, hat, hae⟩ := st
    obtain ⟨hq, hi⟩ := hg
    have hx : xs[i]? = some xs[i] := List.getElem?_eq_getElem hi
    obtain ⟨its, rv, p, hz⟩ := I.tuple (SqT.of hq)
    obtain ⟨u, hu, ru⟩ := rv.get hx
    have hlen := rv.length
    have hel : e < s.heap.objs.size := Heap.lt_size he
    have hil : it < s.heap.objs.size := by obtain ⟨_, q, _⟩ := hit; exact Heap.lt_size q
    have hT : s.heap.IsTuple a its.toArray := p
    refine wpAny_pyNext_enum_itemD (n := its.toArray.size) (Draws.tuple (A := X.A.in1) (I.ok.hd hc) it a hat its.toArray) he ⟨hit, hT⟩ (by simp; omega) hne (by simp [hne, Ne.symm hae]) fun y h' tk hy ho hst hT' hsz hk => ?_
    have ey : y = u := by
      have : its.toArray[i]? = some u := by simpa using hu
      rw [this] at hy
      exact (Option.some.inj hy).symm
    subst ey
    refine ⟨_, rfl, wpAny_letOwnedTupleGo_enum (s := { s with heap := h', toks := tk + 1 }) ho fun h'' he' sb => ?_⟩
    have hT2 : h''.get? s.heap.objs.size = some { cls := .type "tuple", data := .seq #[.int i tk, y] } := (sb.2 _ (Nat.ne_of_gt hel)).trans hT'
    have new : ObjOk X.prog X.w (upd H s.heap.objs.size (.tup [.int (i : Nat), xs[i]])) h'' s.heap.objs.size (.tup [.int (i : Nat), xs[i]]) :=
      ⟨by show 2 ≤ sizeLine; decide, [.int i tk, y], .cons ⟨_, rfl⟩ (.cons ru .nil), ⟨_, hT2, rfl, _, rfl⟩⟩
    have I1 : Inv X pins σ (upd H s.heap.objs.size (.tup [.int (i : Nat), xs[i]])) { s with heap := h'', toks := tk + 1 } :=
      I.turnedNew (ch := [e, it]) (fun b ob hb q => (sb.2 b (fun z => hb (by simp [z]))).trans (hk b ob (fun z => hb (by simp [z])) (fun z => hb (by simp [z])) q)) hf (Nat.le_refl _) new
    refine ⟨.ref s.heap.objs.size, _, I1, rfl, ⟨_, xs[i], rfl, I.hok.fresh (Nat.le_refl _), rfl, hx⟩, ⟨⟨y, ?_⟩, hst.1.at fun o q => (sb.2 it (Ne.symm hne)).trans q, hne, hat, hae⟩, fun b hb => ?_⟩
    · have e1 : ((i + 1 : Nat) : Int) = (i : Int) + 1 := by omega
      rw [e1]; exact he'
    · have hb' : b < s.heap.objs.size := by
        have e' : b = e ∨ b = it := by simpa using hb
        rcases e' with z | z
        · rw [z]; exact hel
        · rw [z]; exact hil
      rw [upd_ne (Nat.ne_of_lt hb')]
      exact (hf b hb).1
  done := by
    intro X hP hw hK hc i pins s σ H E I hf st hg
    subst hP hw hK
    obtain ⟨⟨old, he⟩, hit, hne, hat, hae⟩ := st
    obtain ⟨hq, hi⟩ := hg
    obtain ⟨its, rv, p, hz⟩ := I.tuple (SqT.of hq)
    obtain ⟨f0, f1, f2, f3, f4, f5⟩ := hf it (by simp)
    have hl := rv.length
    have hT : s.heap.IsTuple a its.toArray := p
    have es : its.toArray.size = i := by simp; omega
    refine wpAny_pyNext_enum_endD (n := its.toArray.size) (Draws.tuple (A := X.A.in1) (I.ok.hd hc) it a hat its.toArray) he ⟨by rw [es]; exact hit, hT⟩ fun h' eb => ⟨rfl, I.turned (t' := s.toks) (fun b o hb q => eb b o hb q) f0 f1 f3 f4 f5⟩
  self := fun A i s Q E st h => let ⟨⟨_, he⟩, _⟩ := st; wpAny_pyIter_enum he h
def iEnumT (ta : TA) : TI := fun σ H R => ta σ H fun vs H1 => ∃ a xs, vs = [.ref a] ∧ H1 a = some (.tup xs) ∧ R (Itet a xs) H1
theorem pi_enumT {X : Cx} {e : Expr} {ta : TA} {p pos tpos : Pos} {elts : List Expr} {kk : Nat} (hg : Gl X "enumerate") (hm : X.mg "enumerate" = none) (ha : PA X [e] ta) (hs : starEach [e] X.env = [(false, eval e X.env)] := by rfl) :
    PI X (.Tuple elts kk tpos) (.Call (.Name "enumerate" p) [e] [] pos) (iEnumT ta) := by
  refine ⟨fun pins s σ H R I h => ?_⟩
  refine Call_ (ld_blt I hg hm boot_enumerate (PyProof.Rows.callWith_type1 (thn (ha.run pos pins s σ H _ I h) fun us s1 ⟨vs, H1, I1, r1, q1⟩ => ?_) hs rfl))
  obtain ⟨a, xs, ex, hq, q⟩ := q1
  subst ex
  cases r1 with
  | cons r rr =>
    cases rr
    cases r
    obtain ⟨its, rv, p', hz⟩ := I1.tuple (SqT.of hq)
    have hT : s1.heap.IsTuple a its.toArray := p'
    have hal : a < s1.heap.objs.size := I1.hok.lt hq
    refine k4_call_enumerate_tup hT fun h' he hit hsz hk => wpAny_pyIter_enum he ?_
    have I2 : Inv X pins σ H1 { s1 with heap := h' } := I1.kept (t' := s1.toks) hk
    refine ⟨s1.heap.objs.size + 1, [s1.heap.objs.size + 1, s1.heap.objs.size], _, _, H1, rfl, I2, turn_enumT a (s1.heap.objs.size + 1) s1.heap.objs.size xs, ⟨⟨.none, he⟩, hit, Nat.succ_ne_self _, Nat.ne_of_lt hal, Nat.ne_of_lt (Nat.lt_succ_of_lt hal)⟩, fun b hb => ?_, q⟩
    have e' : b = s1.heap.objs.size + 1 ∨ b = s1.heap.objs.size := by simpa using hb
    have hle : s1.heap.objs.size ≤ b := by
      rcases e' with z | z
      · rw [z]; exact Nat.le_add_right _ _
      · rw [z]; exact Nat.le_refl _
    exact I1.fpOk hle (I1.hok.fresh hle)
end K4

/-! ### R4 to R6. list.extend(tuple); the module's dict; isinstance of an error with a dict -/
namespace PySem
open AutoSeq1
set_option maxRecDepth 8000 in
theorem k4_extT (l : Addr) (xs : Array Value) (n : Nat) (b : Addr) (ys : Array Value) (m : Nat) (dd : Option Addr) (sl : Array (Option Value)) (few : ¬(!xs.isEmpty && Builtin.List.listTooLong (xs.size + ys.size)) = true) (h1 : xs.size ≤ sizeLine) (h2 : xs.size + ys.size ≤ sizeLine + 1) :
    Meets (Builtin.«list.extend» ⟨[.ref l, .ref b], []⟩) (fun _ R s => s.heap.get? l = some { cls := .type "list", dict := none, data := .seq xs n, slots := #[] } ∧ s.heap.get? b = some { cls := .type "tuple", dict := dd, data := .seq ys m, slots := sl } ∧
      R (.ok (.ret Value.none)) { s with heap := s.heap.update l (Obj.mapSeq fun x => x ++ ys), toks := s.toks }) :=
  .of_wp fun prog w A R s h => by
    obtain ⟨hp, g, d, tk, os⟩ := s
    obtain ⟨hl, hb, h⟩ := h
    have f1 := idx_int
    have f4 := sub_tuple_list
    have f5 := sub_list_tuple
    have z : (xs ++ ys).size ≤ sizeLine + 1 := by rw [Array.size_append]; exact h2
    wp_walk using (wpAny_updateSeq hl rfl (hz := h1) (_hz' := z)), wpAny_loadPart' hl, wpAny_loadPart' hb
    exact ⟨_, rfl, h⟩
end PySem
namespace K4
open PySem PySem.Spec PyProof.Rows L2
section
variable {X : Cx}
/-- l.extend(t), t a tuple -/
def rExtT : V → List V → Hp → VK → Prop := fun x vs H Q => ∃ l b xs zs, x = .ref l ∧ vs = [.ref b] ∧ H l = some (.lst xs) ∧ H b = some (.tup zs) ∧ xs.length + zs.length ≤ sizeLine ∧ Q .non (upd H l (.lst (xs ++ zs)))
theorem mt_extendT : MtR X "list.extend" rExtT := by
  intro pins s σ H x vs v us Q I rx rv h
  obtain ⟨l, b, xs, zs, rfl, rfl, hl, hb, hz, q⟩ := h
  cases rx
  obtain ⟨u, rfl, ru⟩ := rv.one
  cases ru
  obtain ⟨z, its, n, r, el, e⟩ := I.lstM hl
  obtain ⟨jts, r2, ⟨⟨cls, dd, data, sl⟩, ho, hc, n2, hd⟩, z2⟩ := I.tuple (SqT.of hb)
  simp only at hc hd
  subst hc hd
  have e2 := r2.length
  have big : its.toArray.size + jts.toArray.size ≤ sizeLine := by rw [List.size_toArray, List.size_toArray]; omega
  have few : ¬ (!its.toArray.isEmpty && Builtin.List.listTooLong (its.toArray.size + jts.toArray.size)) = true := by
    rw [notLongL big, Bool.and_false]; exact Bool.false_ne_true
  have hm := k4_extT l its.toArray n b jts.toArray n2 dd sl few (by rw [List.size_toArray]; omega) (by omega)
  refine call_meets F.slot_list_extend ⟨_, e, rfl⟩ F.entry_list_extend (F.args_list_extend_2 _ _) hm ⟨e, ?_, ?_⟩
  · exact ho
  · exact ⟨.non, _, I.lset (its' := its ++ jts) hl e (by simp) (r.append r2) (by rw [List.length_append]; omega), rfl, q⟩
end

/-! the module's dict -/
/-- at a a dict of the module with these pairs -/
def KDc (w : World) (K : PySem.W.Frag) (a : Addr) (kvs : List (Key × V)) : Prop :=
  (a == sysModules) = false ∧ kvs.length ≤ sizeLine ∧ ∃ vs, KV kvs vs ∧ ∀ (P : Program) (h : Heap), K.In h → h.DictOf (mixKind P w) a vs
section
variable {X : Cx}
def rInK (w : World) (K : PySem.W.Frag) : R2 := fun x y H Q => ∃ s a kvs, x = .str s ∧ y = .ref a ∧ KDc w K a kvs ∧ Q (.bl (valV kvs (Sum.inr s)).isSome) H
theorem op_inK : OpR X (compareOp .In) (rInK X.w X.K) := by
  intro pins s σ H x y v u Q I rx ry h
  obtain ⟨z, a, kvs, rfl, rfl, ⟨lo, _, vs, kv, hd⟩, q⟩ := h
  obtain ⟨t, rfl⟩ := rx
  cases ry
  have e := RelO.isSome_eq (kv.val (Sum.inr z))
  refine wpAny_in_of (mixKind_str X.prog X.w z t) lo (hd X.prog s.heap I.kIn).mapOf ?_
  exact ⟨.bl (valV kvs (Sum.inr z)).isSome, H, I.tok _, by rw [e]; rfl, q⟩
/-- dict(d) -/
theorem call_dictK : CallR X (.type "dict") (fun xs H Q => ∃ a kvs, xs = [.ref a] ∧ KDc X.w X.K a kvs ∧ ∀ p, H p = none → Q (.ref p) (upd H p (.dK kvs))) := by
  intro pins s σ H xs us Q I r h
  obtain ⟨a, kvs, rfl, ⟨lo, hz, vs, kv, hd⟩, q⟩ := h
  obtain ⟨u, rfl, ru⟩ := vals1 r
  cases ru
  refine PySem.kt_call_dict lo (hd X.prog s.heap I.kIn) (by rw [← kv.length]; exact hz) fun h' d' same => ?_
  have keep : ∀ b o, s.heap.get? b = some o → h'.get? b = some o := fun b o e => (same.2 b (Nat.ne_of_lt (Heap.lt_size e))).trans (Heap.get?_push_of_some _ e)
  have far : (s.heap.objs.size == sysModules) = false := beq_eq_false_iff_ne.mpr (Ne.symm (Nat.ne_of_lt I.big))
  exact ⟨.ref s.heap.objs.size, _, I.laid (t' := s.toks) (o := .dK kvs) keep (Nat.le_refl _) (dk_new hz far kv d'), rfl, q _ (I.hok.fresh (Nat.le_refl _))⟩
end

/-! isinstance(e, C) of the error that the suite holds, an error with a dict of its own -/
def rIsX (K : PySem.W.Frag) (D : Addr) (cls : Value) (d : Option Addr) (a : Addr) : List V → Hp → VK → Prop := fun xs H Q =>
  ∃ (c : V) (cv : Value) (b : Bool) (dd : Addr) (fs : List (Str × V)), xs = [.ref a, c] ∧ cls = .ref D ∧ d = some dd ∧ H dd = some (.xd fs) ∧ (∀ u, RelV c u → u = cv) ∧ PySem.W.kitOne K (.ref D) cv = some b ∧ Q (.bl b) H
theorem call_isE2 {X : Cx} {a D : Addr} {oe : Obj} {cls : Value} {d : Option Addr} {pn : List (Addr × Obj)} (C : ExcC X.K D) (hz : Zc cls d oe) (hf : ∃ vs, oe.data = .fields vs) :
    CallR (X.suite a ((a, oe) :: pn)) (.builtin "isinstance") (rIsX X.K D cls d a) := by
  intro pins s σ H xs us Q I r h
  obtain ⟨c, cv, b, dd, fs, rfl, rfl, rfl, hx, hcv, e, q⟩ := h
  obtain ⟨u, w, rfl, ru, rw'⟩ := vals2 r
  cases ru
  have ec := hcv _ rw'
  subst ec
  have at_ := (I.pin (a, oe) (List.mem_append.mpr (.inl List.mem_cons_self))).1
  obtain ⟨mA, hns, _⟩ : ObjOk X.prog X.w H s.heap dd (.xd fs) := I.hok dd _ hx
  obtain ⟨od, ho, _⟩ := lookIn_ns hns
  obtain ⟨vs, hv⟩ := hf
  have J : PySem.W.InstAt s.heap a oe D (some od) := ⟨at_, hz.1, by unfold PySem.W.notCls; rw [hv] <;> rfl, by rw [hz.2]; exact ho⟩
  have hcl : (PySem.W.clsIn X.K D).isSome = true := by
    obtain ⟨cd, hc, _⟩ := PySem.W.any_some C.hd
    rw [hc]; rfl
  exact PySem.W.kia_one (PySem.W.kitx_exc hcl C.hg C.hk C.hs C.ha C.hn C.ht C.hm) I.kIn J e (fun z => nomatch z) fun tk => ⟨.bl b, H, I.kept (t' := tk) fun _ _ z => z, rfl, q⟩
end K4

/-! ### L. Loops and comprehensions, their readings cut behind what is walked -/
namespace K4
open PySem PySem.Spec PyProof.Rows L2
/-- a for's turns over J -/
def LoopJ (J : It) (g : TG) (tb : TS) (D : Ends) (σ : L2.St) (H1 : Hp) : Prop := ∃ W : Nat → Nat → L2.St → Hp → Prop, (∃ m, W 0 m σ H1) ∧ ∀ i m σ H, W i m σ H →
  (J.stop i H ∧ D.nx σ H) ∨ (J.go i H ∧ ∃ N : L2.St → Hp → Prop, (∀ σ' H', N σ' H' → ∃ m', m' < m ∧ W (i + 1) m' σ' H') ∧ ∀ x H', J.yld i H x H' → g x σ H' fun σ2 H2 => tb { D with nx := N, ct := N, bk := D.nx } σ2 H2)
theorem tFor_eq {wi : TI} {g : TG} {tb : TS} {D : Ends} {σ : L2.St} {H : Hp} : tFor wi g tb D σ H = wi σ H (fun J H1 => LoopJ J g tb D σ H1) := rfl
/-- a comprehension's turns over J, its list at D -/
def LcJ (J : It) (g : TG) (tt : TT) (te : TE) (vs : List Nat) (σ : L2.St) (H1 : Hp) (Q : VK) (D : Addr) : Prop := ∃ W : Nat → Nat → Hp → Prop, (∃ m, W 0 m (upd H1 D (.lst []))) ∧ ∀ i m H, W i m H →
  (J.stop i H ∧ Q (.ref D) H) ∨ (J.go i H ∧ ∃ Nx : Hp → Prop, (∀ H', Nx H' → ∃ m', m' < m ∧ W (i + 1) m' H') ∧ ∀ x H', J.yld i H x H' → g x (wipe σ vs) H' fun σ2 H2 => wipe σ2 vs = wipe σ vs ∧ tt σ2 H2 fun b H3 =>
    if b = true then te σ2 H3 fun y H4 => ∃ acc, H4 D = some (.lst acc) ∧ acc.length < sizeLine ∧ Nx (upd H4 D (.lst (acc ++ [y]))) else Nx H3)
theorem tLc_eq {wi : TI} {g : TG} {tt : TT} {te : TE} {vs : List Nat} {σ : L2.St} {H : Hp} {Q : VK} : tLc wi g tt te vs σ H Q = wi σ H (fun J H1 => ∀ D, H1 D = none → LcJ J g tt te vs σ H1 Q D) := rfl
section
variable {K : PySem.W.Frag} {a : Addr} {xs : List V} {g : TG} {tb : TS} {D : Ends} {σ : L2.St} {H : Hp}
theorem loop_tup (Pv : Nat → L2.St → Hp → Prop) (h0 : Pv 0 σ H) (hl : ∀ i σ H, Pv i σ H → H a = some (.tup xs))
    (hs : ∀ i x σ H, xs[i]? = some x → Pv i σ H → g x σ H fun σ2 H2 => tb { D with nx := Pv (i + 1), ct := Pv (i + 1), bk := D.nx } σ2 H2) (hd : ∀ σ H, Pv xs.length σ H → D.nx σ H) : LoopJ (Itt K a) g tb D σ H :=
  for_tup (K := K) (a := a) (xs := xs) Pv h0 (fun i σ H _ p => SqT.of (hl i σ H p)) hs hd
theorem loop_list (Pv : Nat → L2.St → Hp → Prop) (h0 : Pv 0 σ H) (hl : ∀ i σ H, Pv i σ H → H a = some (.lst xs))
    (hs : ∀ i x σ H, xs[i]? = some x → Pv i σ H → g x σ H fun σ2 H2 => tb { D with nx := Pv (i + 1), ct := Pv (i + 1), bk := D.nx } σ2 H2) (hd : ∀ σ H, Pv xs.length σ H → D.nx σ H) : LoopJ (Itl K a) g tb D σ H :=
  for_list (K := K) (a := a) (xs := xs) Pv h0 (fun i σ H _ p => SqL.of (hl i σ H p)) hs hd
theorem loop_range {n : Nat} (Pv : Nat → L2.St → Hp → Prop) (h0 : Pv 0 σ H)
    (hs : ∀ (i : Nat) σ H, i < n → Pv i σ H → g (.int (i : Nat)) σ H fun σ2 H2 => tb { D with nx := Pv (i + 1), ct := Pv (i + 1), bk := D.nx } σ2 H2) (hd : ∀ σ H, Pv n σ H → D.nx σ H) : LoopJ (Itr 0 n) g tb D σ H :=
  for_range (lo := 0) (n := n) Pv h0 (fun i σ H hi p => by rw [Int.zero_add]; exact hs i σ H hi p) hd
theorem loop_enum (Pv : Nat → L2.St → Hp → Prop) (h0 : Pv 0 σ H) (hl : ∀ i σ H, Pv i σ H → H a = some (.tup xs))
    (hs : ∀ (i : Nat) x (T : Addr) σ H, xs[i]? = some x → Pv i σ H → H T = none → g (.ref T) σ (upd H T (.tup [.int (i : Nat), x])) fun σ2 H2 => tb { D with nx := Pv (i + 1), ct := Pv (i + 1), bk := D.nx } σ2 H2) (hd : ∀ σ H, Pv xs.length σ H → D.nx σ H) :
    LoopJ (Itet a xs) g tb D σ H := by
  refine ⟨fun i m σ H => Pv i σ H ∧ i ≤ xs.length ∧ m = xs.length - i, ⟨_, h0, Nat.zero_le _, rfl⟩, fun i m σ H ⟨p, hi, hm⟩ => ?_⟩
  by_cases e : i = xs.length
  · subst e
    exact .inl ⟨⟨hl _ σ H p, rfl⟩, hd σ H p⟩
  · have lt : i < xs.length := by omega
    refine .inr ⟨⟨hl _ σ H p, lt⟩, Pv (i + 1), fun σ' H' p' => ⟨_, by omega, p', lt, rfl⟩, ?_⟩
    rintro x H' ⟨T, y, rfl, hT, rfl, hy⟩
    exact hs i y T σ H hy p hT
theorem loop_str {x : Str} (Pv : Nat → L2.St → Hp → Prop) (h0 : Pv 0 σ H)
    (hs : ∀ (i : Nat) c σ H, x.cps.toList[i]? = some c → Pv i σ H → g (.str ⟨#[c]⟩) σ H fun σ2 H2 => tb { D with nx := Pv (i + 1), ct := Pv (i + 1), bk := D.nx } σ2 H2) (hd : ∀ σ H, Pv x.cps.toList.length σ H → D.nx σ H) :
    LoopJ (Its x) g tb D σ H := by
  have el : x.cps.toList.length = x.cps.size := Array.length_toList
  refine ⟨fun i m σ H => Pv i σ H ∧ i ≤ x.cps.size ∧ m = x.cps.size - i, ⟨_, h0, Nat.zero_le _, rfl⟩, fun i m σ H ⟨p, hi, hm⟩ => ?_⟩
  by_cases e : i = x.cps.size
  · subst e
    exact .inl ⟨Nat.le_refl _, hd σ H (by rw [el]; exact p)⟩
  · have lt : i < x.cps.size := by omega
    refine .inr ⟨lt, Pv (i + 1), fun σ' H' p' => ⟨_, by omega, p', lt, rfl⟩, ?_⟩
    rintro v H' ⟨eH, c, hc, rfl⟩
    subst eH
    exact hs i c σ _ (by rw [Array.getElem?_toList]; exact hc) p
variable {tt : TT} {te : TE} {i0 : Nat} {Q : VK} {L : Addr}
theorem wipe_one (σ : L2.St) (x : Option V) : wipe ((wipe σ [i0]).set i0 x) [i0] = wipe σ [i0] := by
  show ((σ.set i0 none).set i0 x).set i0 none = σ.set i0 none
  rw [List.set_set, List.set_set]
/-- [te for i0 in range(n)] -/
theorem lcj_range {n : Nat} (Pv : Nat → Hp → Prop) (h0 : Pv 0 (upd H L (.lst [])))
    (hs : ∀ (i : Nat) H, i < n → Pv i H → te ((σ.set i0 none).set i0 (some (.int (i : Nat)))) H fun y H4 => ∃ acc, H4 L = some (.lst acc) ∧ acc.length < sizeLine ∧ Pv (i + 1) (upd H4 L (.lst (acc ++ [y])))) (hd : ∀ H, Pv n H → Q (.ref L) H) :
    LcJ (Itr 0 n) (gName i0) tYes te [i0] σ H Q L :=
  lc_range (lo := 0) (n := n) (σ := σ) (vs := [i0]) (g := gName i0) (tt := tYes) (te := te) (Qd := fun H => Q (.ref L) H) Pv h0 (fun i H hi p => ⟨wipe_one σ _, by
    rw [Int.zero_add]
    exact hs i H hi p⟩) hd
theorem lcj_tup (Pv : Nat → Hp → Prop) (h0 : Pv 0 (upd H L (.lst []))) (hl : ∀ i H, Pv i H → H a = some (.tup xs))
    (hs : ∀ (i : Nat) x H, xs[i]? = some x → Pv i H → te ((σ.set i0 none).set i0 (some x)) H fun y H4 => ∃ acc, H4 L = some (.lst acc) ∧ acc.length < sizeLine ∧ Pv (i + 1) (upd H4 L (.lst (acc ++ [y])))) (hd : ∀ H, Pv xs.length H → Q (.ref L) H) :
    LcJ (Itt K a) (gName i0) tYes te [i0] σ H Q L :=
  lc_tup (K := K) (a := a) (xs := xs) (σ := σ) (vs := [i0]) (g := gName i0) (tt := tYes) (te := te) (Qd := fun H => Q (.ref L) H) Pv h0 (fun i H _ p => SqT.of (hl i H p)) (fun i x H hx p => ⟨wipe_one σ _, hs i x H hx p⟩) hd
theorem lcj_list (Pv : Nat → Hp → Prop) (h0 : Pv 0 (upd H L (.lst []))) (hl : ∀ i H, Pv i H → SqL K H a xs)
    (hs : ∀ (i : Nat) x H, xs[i]? = some x → Pv i H → te ((σ.set i0 none).set i0 (some x)) H fun y H4 => ∃ acc, H4 L = some (.lst acc) ∧ acc.length < sizeLine ∧ Pv (i + 1) (upd H4 L (.lst (acc ++ [y])))) (hd : ∀ H, Pv xs.length H → Q (.ref L) H) :
    LcJ (Itl K a) (gName i0) tYes te [i0] σ H Q L :=
  lc_list (K := K) (a := a) (xs := xs) (σ := σ) (vs := [i0]) (g := gName i0) (tt := tYes) (te := te) (Qd := fun H => Q (.ref L) H) Pv h0 (fun i H _ p => hl i H p) (fun i x H hx p => ⟨wipe_one σ _, hs i x H hx p⟩) hd
end
/-! contexts -/
theorem cx_prog {CX : CXT} {P : Program} {w : World} {K : PySem.W.Frag} {mg : Str → Option Value} {base : Heap} {N : List Str} {qual : Str} {scope : Scope} {f : Addr} {cd : Value} {A : Around} {outer : List Env} {s : Shared} {H : Hp} {E : XK} :
    (cxOf CX P w K mg base N qual scope f cd A outer s H E).prog = P := rfl
theorem cx_w {CX : CXT} {P : Program} {w : World} {K : PySem.W.Frag} {mg : Str → Option Value} {base : Heap} {N : List Str} {qual : Str} {scope : Scope} {f : Addr} {cd : Value} {A : Around} {outer : List Env} {s : Shared} {H : Hp} {E : XK} :
    (cxOf CX P w K mg base N qual scope f cd A outer s H E).w = w := rfl
/-- nothing is asked of it -/
theorem fn_never {P : Program} {w : World} {K : PySem.W.Frag} {mg : Str → Option Value} {base : Heap} {CX : CXT} {f : Addr} {fd : FuncData} {ps : List Str} {k : Nat} {sp : Sp} (no : ∀ vs H Q E, ¬ sp vs H Q E) : FnOk P w K mg base CX k f fd ps sp :=
  ⟨fun vs H Q E h => absurd h (no vs H Q E), fun A outer s H args us vs Q E _ _ _ _ h => absurd h (no vs H Q E)⟩
/-- an item of a list at a place that is told as an int -/
theorem atI_of {α : Type} {xs : List α} {k : Int} (h0 : 0 ≤ k) (h1 : k < xs.length) : ∃ v, atI xs k = some v ∧ xs[k.toNat]? = some v := by
  have hk : k.toNat < xs.length := by omega
  have e : xs[k.toNat]? = some xs[k.toNat] := List.getElem?_eq_getElem hk
  have z := atI_nat e
  rw [show ((k.toNat : Nat) : Int) = k by omega] at z
  exact ⟨_, z, e⟩
theorem atI_at {α : Type} {xs : List α} {k : Int} {v : α} (h0 : 0 ≤ k) (h : xs[k.toNat]? = some v) : atI xs k = some v := by
  have z := atI_nat h
  rw [show ((k.toNat : Nat) : Int) = k by omega] at z
  exact z
/-- t + u of tuples, whatever of them is empty -/
theorem catA_of {K : PySem.W.Frag} {H : Hp} {a b : Addr} {vs us : List V} {Q : VK} (ha : H a = some (.tup vs)) (hb : H b = some (.tup us)) (hz : vs.length + us.length ≤ sizeLine)
    (h : ∀ r H', Same H H' → H' r = some (.tup (vs ++ us)) → Q (.ref r) H') : rCatA K (.ref a) (.ref b) H Q := by
  refine ⟨a, b, vs, us, rfl, rfl, SqT.of ha, SqT.of hb, hz, fun e => ?_, fun _ e => ?_, fun _ _ p hp => ?_⟩
  · subst e
    exact h b H (Same.refl H) hb
  · subst e
    exact h a H (Same.refl H) (by rw [List.append_nil]; exact ha)
  · exact h p _ (same_new hp _) upd_same
/-- t[lo:hi] of a tuple, the whole of it too -/
theorem slA_of {K : PySem.W.Frag} {H : Hp} {a : Addr} {vs : List V} {lo hi : Option Int} {Q : VK} (ha : H a = some (.tup vs))
    (h : ∀ r H', Same H H' → H' r = some (.tup (cutV vs lo hi)) → Q (.ref r) H') : rSlA K (.ref a) lo hi H Q := by
  refine ⟨a, vs, rfl, SqT.of ha, fun e => ?_, fun _ p hp => h p _ (same_new hp _) upd_same⟩
  have z : cutV vs lo hi = vs := by
    unfold cutV
    rw [e.1, e.2, List.drop_zero, Nat.sub_zero, List.take_length]
  exact h a H (Same.refl H) (by rw [z]; exact ha)
/-- t * k of a tuple -/
theorem repA_of {K : PySem.W.Frag} {H : Hp} {a : Addr} {vs : List V} {k : Int} {Q : VK} (ha : H a = some (.tup vs)) (hn : vs ≠ []) (h0 : 0 ≤ k) (h1 : k ≤ 1000) (hl : vs.length ≤ 1000)
    (h : ∀ r H', Same H H' → H' r = some (.tup (List.replicate k.toNat vs).flatten) → Q (.ref r) H') : rRepA K (.ref a) (.int k) H Q := by
  refine ⟨a, k, vs, rfl, rfl, SqT.of ha, hn, h0, h1, hl, fun e => ?_, fun _ p hp => h p _ (same_new hp _) upd_same⟩
  subst e
  exact h a H (Same.refl H) (by rw [show List.replicate (1 : Int).toNat vs = [vs] from rfl]; simpa using ha)
theorem cutV_to (xs : List V) {k : Int} (h0 : 0 ≤ k) : cutV xs none (some k) = xs.take k.toNat := by
  have e : k = ((k.toNat : Nat) : Int) := by omega
  unfold cutV
  rw [e, HT.sIx_none, HT.sIx_nat, List.drop_zero, Nat.sub_zero, Int.toNat_natCast]
  exact List.take_eq_take_iff.mpr (by omega)
theorem cutV_from (xs : List V) {k : Int} (h0 : 0 ≤ k) : cutV xs (some k) none = xs.drop k.toNat := by
  have e : k = ((k.toNat : Nat) : Int) := by omega
  unfold cutV
  rw [e, HT.sIx_none, HT.sIx_nat, Int.toNat_natCast]
  by_cases c : k.toNat ≤ xs.length
  · rw [Nat.min_eq_left c]
    exact List.take_of_length_le (by rw [List.length_drop]; omega)
  · rw [Nat.min_eq_right (by omega), List.drop_length, List.drop_eq_nil_of_le (by omega), List.take_nil]
theorem cutV_between (xs : List V) {i k : Int} (h0 : 0 ≤ i) (h1 : i ≤ k) : cutV xs (some i) (some k) = (xs.drop i.toNat).take (k.toNat - i.toNat) := by
  have e : k = ((k.toNat : Nat) : Int) := by omega
  have e2 : i = ((i.toNat : Nat) : Int) := by omega
  unfold cutV
  rw [e, e2, HT.sIx_nat, HT.sIx_nat, Int.toNat_natCast, Int.toNat_natCast]
  by_cases c : i.toNat ≤ xs.length
  · rw [Nat.min_eq_left c]
    exact List.take_eq_take_iff.mpr (by rw [List.length_drop]; omega)
  · rw [List.drop_eq_nil_of_le (show xs.length ≤ min i.toNat xs.length by omega), List.drop_eq_nil_of_le (show xs.length ≤ i.toNat by omega), List.take_nil, List.take_nil]
theorem atI_0 {α : Type} {x : α} {l : List α} : atI (x :: l) 0 = some x := atI_at (by decide) rfl
theorem atI_1 {α : Type} {x y : α} {l : List α} : atI (x :: y :: l) 1 = some y := atI_at (by decide) rfl
theorem atI_2 {α : Type} {x y z : α} {l : List α} : atI (x :: y :: z :: l) 2 = some z := atI_at (by decide) rfl
end K4

/-! ### G. Displays of trees -/
namespace K4
open PySem PySem.Spec PyProof.Rows L2
/-- te gives the tree t, from H on -/
def Gv (σ : L2.St) (H : Hp) (te : TE) (t : Tr) : Prop := ∀ H0, Same H H0 → ∀ Q : VK, (∀ v H', Same H0 H' → TrV H' t v → Q v H') → te σ H0 Q
def GvL (σ : L2.St) (H : Hp) (ta : TA) (ts : List Tr) : Prop := ∀ H0, Same H H0 → ∀ Q : List V → Hp → Prop, (∀ vs H', Same H0 H' → TrL H' ts vs → Q vs H') → ta σ H0 Q
section
variable {σ : L2.St} {H : Hp} {te : TE} {ta : TA} {t : Tr} {ts : List Tr}
theorem gv_str {s : Str} : Gv σ H (tC (.str s)) (.w s) := fun H0 _ Q q => q _ H0 (Same.refl H0) (.w s)
theorem gv_var {i : Nat} {v : V} (h : TrV H t v) (e : σ[i]? = some (some v) := by rfl) : Gv σ H (tVar i) t := fun H0 s Q q => ⟨v, e, q v H0 (Same.refl H0) (h.mono s.tup)⟩
theorem gvl_nil : GvL σ H tNil [] := fun H0 _ Q q => q [] H0 (Same.refl H0) .nil
theorem gvl_cons (h : Gv σ H te t) (hr : GvL σ H ta ts) : GvL σ H (tCons te ta) (t :: ts) := fun H0 s Q q =>
  h H0 s _ fun v H1 s1 tv => hr H1 (s.trans s1) _ fun vs H2 s2 tl => q (v :: vs) H2 (s1.trans s2) (.cons (tv.mono s2.tup) tl)
theorem gv_tup (h : GvL σ H ta ts) (hz : ts.length ≤ 1000 := by exact Nat.le_of_ble_eq_true rfl) : Gv σ H (tTup ta) (.t ts) := fun H0 s Q q =>
  h H0 s _ fun vs H1 s1 tl => ⟨Nat.le_of_lt (small20 (by rw [tl.len]; omega)), fun p hp => q _ _ (s1.trans (same_new hp _)) (.t upd_same (tl.mono (Tup.new hp _)))⟩
theorem Gv.same {H1 : Hp} (h : Gv σ H te t) (s : Same H H1) : Gv σ H1 te t := fun H0 s0 => h H0 (s.trans s0)
theorem asg_gv {i : Nat} {D : Ends} (h : Gv σ H te t) (k : ∀ v H', Same H H' → TrV H' t v → D.nx (σ.set i (some v)) H') : tAsg te (gName i) D σ H := h H (Same.refl H) _ k
theorem ret_gv {D : Ends} (h : Gv σ H te t) (k : ∀ v H', Same H H' → TrV H' t v → D.rt v H') : tRet te D σ H := h H (Same.refl H) _ k
/-- a list of trees is laid -/
theorem lst_gv {Q : VK} (h : GvL σ H ta ts) (hz : ts.length ≤ 1000) (k : ∀ p vs H', Same H H' → H' p = some (.lst vs) → H p = none → TrL H' ts vs → Q (.ref p) H') : tLst ta σ H Q :=
  h H (Same.refl H) _ fun vs H1 s1 tl => ⟨Nat.le_of_lt (small20 (by rw [tl.len]; omega)), fun p hp => k p vs _ (s1.trans (same_new hp _)) upd_same (s1.free hp) (tl.mono (Tup.new hp _))⟩
end
/-- len(x), its reading by name (a comprehension's block asks for it) -/
def rLn (K : PySem.W.Frag) : List V → Hp → VK → Prop := fun xs H Q => ∃ x n, xs = [x] ∧ LenV K x H n ∧ Q (.int n) H
theorem call_ln {X : Cx} : CallR X (.builtin "len") (rLn X.K) := call_len
theorem lenT {K : PySem.W.Frag} {H : Hp} {a : Addr} {vs : List V} (h : H a = some (.tup vs)) : LenV K (.ref a) H vs.length := .inr ⟨_, SqT.of h, rfl⟩
theorem lenL {K : PySem.W.Frag} {H : Hp} {a : Addr} {vs : List V} (h : H a = some (.lst vs)) : LenV K (.ref a) H vs.length := .inl ⟨_, SqL.of h, rfl⟩
/-! isinstance with built-in classes -/
theorem isi_of {K : PySem.W.Frag} {H : Hp} {x : V} {tn cn : String} {b : Bool} {Q : VK} (h : TyX K H x (.type tn)) (k : kitB tn cn = some b) (q : Q (.bl b) H) : rIsi K [x, .ty cn] H Q :=
  ⟨x, .ty cn, _, _, b, rfl, .ty cn, h, kit_ty k, q⟩
section
variable {K : PySem.W.Frag} {H : Hp} {Q : VK} {s : Str} {a : Addr} {vs : List V} {i : Int}
theorem isi_w (q : Q (.bl true) H) : rIsi K [.str s, .ty "str"] H Q := isi_of (.base (.str s)) (by decide +kernel) q
theorem isi_t (h : H a = some (.tup vs)) (q : Q (.bl false) H) : rIsi K [.ref a, .ty "str"] H Q := isi_of (.base (.tup h)) (by decide +kernel) q
theorem isi_wt (q : Q (.bl false) H) : rIsi K [.str s, .ty "tuple"] H Q := isi_of (.base (.str s)) (by decide +kernel) q
theorem isi_tt (h : H a = some (.tup vs)) (q : Q (.bl true) H) : rIsi K [.ref a, .ty "tuple"] H Q := isi_of (.base (.tup h)) (by decide +kernel) q
theorem isi_ii (q : Q (.bl true) H) : rIsi K [.int i, .ty "int"] H Q := isi_of (.base (.int i)) (by decide +kernel) q
theorem isi_ib (q : Q (.bl false) H) : rIsi K [.int i, .ty "bool"] H Q := isi_of (.base (.int i)) (by decide +kernel) q
end
/-! displays of constants, their readings by the tree -/
def tGv (t : Tr) : TE := fun _ H Q => ∀ v H', Same H H' → TrV H' t v → Q v H'
def tGvL (ts : List Tr) : TE := fun _ H Q => ∀ p vs H', Same H H' → H p = none → H' p = some (.lst vs) → TrL H' ts vs → Q (.ref p) H'
theorem gv_gv {σ : L2.St} {H : Hp} {t : Tr} : Gv σ H (tGv t) t := fun H0 _ Q q => q
theorem pe_gv {X : Cx} {e : Expr} {te : TE} {t : Tr} (h : PE X e te) (g : ∀ σ H, Gv σ H te t) : PE X e (tGv t) :=
  ⟨fun pins s σ H Q I k => h.run pins s σ H Q I (g σ H H (Same.refl H) Q k)⟩
theorem pe_gvl {X : Cx} {es : List Expr} {ta : TA} {ts : List Tr} {pos : Pos} (h : PA X es ta) (g : ∀ σ H, GvL σ H ta ts) (hz : ts.length ≤ 1000 := by exact Nat.le_of_ble_eq_true rfl) : PE X (.List es pos) (tGvL ts) :=
  ⟨fun pins s σ H Q I k => (pe_lst h).run pins s σ H Q I (lst_gv (g σ H) hz fun p vs H' s e n tl => k p vs H' s n e tl)⟩
end K4

/-! ### T. The text by places (printed by gentext.py) -/
namespace K4
open PySem PySem.Spec PyProof.Rows L2
def top (i : Nat) : Stmt := PySem.Challenge.pw_ownglass_k04_good_and_bad_programs.main.body.getD i (.Pass ⟨0, 0, 0, 0⟩)
abbrev s_is_word : Stmt := top 9
abbrev N_is_word : List Str := ["value"]
theorem scis_word : FnScope ["value"] ["value"] (defScope s_is_word) := ⟨rfl, rfl, rfl, by decide +kernel, rfl, by decide +kernel, by decide +kernel⟩
abbrev s_has_head : Stmt := top 10
abbrev N_has_head : List Str := ["function"]
theorem schas_head : FnScope ["function"] ["function"] (defScope s_has_head) := ⟨rfl, rfl, rfl, by decide +kernel, rfl, by decide +kernel, by decide +kernel⟩
abbrev s_counts_of : Stmt := top 11
abbrev N_counts_of : List Str := ["program", "counts", "function"]
theorem sccounts_of : FnScope ["program", "counts", "function"] ["program"] (defScope s_counts_of) := ⟨rfl, rfl, rfl, by decide +kernel, rfl, by decide +kernel, by decide +kernel⟩
abbrev s_name_fits : Stmt := top 12
abbrev N_name_fits : List Str := ["name", "names", "many", "figures"]
theorem scname_fits : FnScope ["name", "names", "many", "figures"] ["name", "names", "many"] (defScope s_name_fits) := ⟨rfl, rfl, rfl, by decide +kernel, rfl, by decide +kernel, by decide +kernel⟩
abbrev s_parameters_fit : Stmt := top 13
abbrev N_parameters_fit : List Str := ["parameters", "at", "parameter"]
theorem scparameters_fit : FnScope ["parameters", "at", "parameter"] ["parameters"] (defScope s_parameters_fit) := ⟨rfl, rfl, rfl, by decide +kernel, rfl, by decide +kernel, by decide +kernel⟩
abbrev s_body_fits : Stmt := top 14
abbrev N_body_fits : List Str := ["body", "parameters", "counts", "waiting", "expression"]
theorem scbody_fits : FnScope ["body", "parameters", "counts", "waiting", "expression"] ["body", "parameters", "counts"] (defScope s_body_fits) := ⟨rfl, rfl, rfl, by decide +kernel, rfl, by decide +kernel, by decide +kernel⟩
abbrev s_check_program : Stmt := top 15
abbrev N_check_program : List Str := ["value", "counts", "names", "number", "function", "name", "parameters", "body"]
theorem sccheck_program : FnScope ["value", "counts", "names", "number", "function", "name", "parameters", "body"] ["value"] (defScope s_check_program) := ⟨rfl, rfl, rfl, by decide +kernel, rfl, by decide +kernel, by decide +kernel⟩
abbrev s__law_draws : Stmt := top 17
abbrev N__law_draws : List Str := ["_law_script", "_law_many_here", "_law_rests", "_law_draws_here", "_law_k", "_law_cell", "_law_at", "_law_mixed"]
theorem sc_law_draws : FnScope ["_law_script", "_law_many_here", "_law_rests", "_law_draws_here", "_law_k", "_law_cell", "_law_at", "_law_mixed"] ["_law_script", "_law_many_here"] (defScope s__law_draws) := ⟨rfl, rfl, rfl, by decide +kernel, rfl, by decide +kernel, by decide +kernel⟩
abbrev s__law_take : Stmt := top 18
abbrev N__law_take : List Str := ["_law_hand", "_law_many_here", "_law_at", "_law_draws_here"]
theorem sc_law_take : FnScope ["_law_hand", "_law_many_here", "_law_at", "_law_draws_here"] ["_law_hand", "_law_many_here"] (defScope s__law_take) := ⟨rfl, rfl, rfl, by decide +kernel, rfl, by decide +kernel, by decide +kernel⟩
abbrev s__law_value : Stmt := top 19
abbrev N__law_value : List Str := ["_law_hand", "_law_depth", "_law_k"]
theorem sc_law_value : FnScope ["_law_hand", "_law_depth", "_law_k"] ["_law_hand", "_law_depth"] (defScope s__law_value) := ⟨rfl, rfl, rfl, by decide +kernel, rfl, by decide +kernel, by decide +kernel⟩
abbrev s__law_expression : Stmt := top 20
abbrev N__law_expression : List Str := ["_law_hand", "_law_parameters", "_law_calls", "_law_depth", "_law_kind", "_law_parts", "_law_left", "_law_name", "_law_many_here", "_law_k"]
theorem sc_law_expression : FnScope ["_law_hand", "_law_parameters", "_law_calls", "_law_depth", "_law_kind", "_law_parts", "_law_left", "_law_name", "_law_many_here", "_law_k"] ["_law_hand", "_law_parameters", "_law_calls", "_law_depth"] (defScope s__law_expression) := ⟨rfl, rfl, rfl, by decide +kernel, rfl, by decide +kernel, by decide +kernel⟩
abbrev s__law_library : Stmt := top 21
abbrev N__law_library : List Str := ["_law_has", "_law_within", "_law_put", "_law_turn"]
theorem sc_law_library : FnScope ["_law_has", "_law_within", "_law_put", "_law_turn"] [] (defScope s__law_library) := ⟨rfl, rfl, rfl, by decide +kernel, rfl, by decide +kernel, by decide +kernel⟩
abbrev s__law_program : Stmt := top 22
abbrev N__law_program : List Str := ["_law_hand", "_law_inputs", "_law_more", "_law_calls", "_law_functions", "_law_k", "_law_name", "_law_parameters", "_law_main", "_law_one"]
theorem sc_law_program : FnScope ["_law_hand", "_law_inputs", "_law_more", "_law_calls", "_law_functions", "_law_k", "_law_name", "_law_parameters", "_law_main", "_law_one"] ["_law_hand", "_law_inputs"] (defScope s__law_program) := ⟨rfl, rfl, rfl, by decide +kernel, rfl, by decide +kernel, by decide +kernel⟩
abbrev s__law_many : Stmt := top 23
abbrev N__law_many : List Str := ["_law_program_here", "_law_name", "_law_one"]
theorem sc_law_many : FnScope ["_law_program_here", "_law_name", "_law_one"] ["_law_program_here", "_law_name"] (defScope s__law_many) := ⟨rfl, rfl, rfl, by decide +kernel, rfl, by decide +kernel, by decide +kernel⟩
abbrev s__law_special : Stmt := top 24
abbrev N__law_special : List Str := []
theorem sc_law_special : FnScope [] [] (defScope s__law_special) := ⟨rfl, rfl, rfl, by decide +kernel, rfl, by decide +kernel, by decide +kernel⟩
abbrev s__law_expression_good : Stmt := top 25
abbrev N__law_expression_good : List Str := ["_law_program_here", "_law_parameters", "_law_body", "_law_todo", "_law_step", "_law_one", "_law_parts", "_law_many_here"]
theorem sc_law_expression_good : FnScope ["_law_program_here", "_law_parameters", "_law_body", "_law_todo", "_law_step", "_law_one", "_law_parts", "_law_many_here"] ["_law_program_here", "_law_parameters", "_law_body"] (defScope s__law_expression_good) := ⟨rfl, rfl, rfl, by decide +kernel, rfl, by decide +kernel, by decide +kernel⟩
abbrev s__law_name_good : Stmt := top 26
abbrev N__law_name_good : List Str := ["_law_program_here", "_law_at", "_law_name", "_law_one", "_law_digits", "_law_sign"]
theorem sc_law_name_good : FnScope ["_law_program_here", "_law_at", "_law_name", "_law_one", "_law_digits", "_law_sign"] ["_law_program_here", "_law_at"] (defScope s__law_name_good) := ⟨rfl, rfl, rfl, by decide +kernel, rfl, by decide +kernel, by decide +kernel⟩
abbrev s__law_function_good : Stmt := top 27
abbrev N__law_function_good : List Str := ["_law_program_here", "_law_at", "_law_one", "_law_k"]
theorem sc_law_function_good : FnScope ["_law_program_here", "_law_at", "_law_one", "_law_k"] ["_law_program_here", "_law_at"] (defScope s__law_function_good) := ⟨rfl, rfl, rfl, by decide +kernel, rfl, by decide +kernel, by decide +kernel⟩
abbrev s__law_bad_function : Stmt := top 28
abbrev N__law_bad_function : List Str := ["_law_program_here", "_law_at"]
theorem sc_law_bad_function : FnScope ["_law_program_here", "_law_at"] ["_law_program_here"] (defScope s__law_bad_function) := ⟨rfl, rfl, rfl, by decide +kernel, rfl, by decide +kernel, by decide +kernel⟩
abbrev s__law_is_right : Stmt := top 29
abbrev N__law_is_right : List Str := ["_law_program_here", "_law_due", "e"]
theorem sc_law_is_right : FnScope ["_law_program_here", "_law_due", "e"] ["_law_program_here"] (defScope s__law_is_right) := ⟨rfl, rfl, rfl, by decide +kernel, rfl, by decide +kernel, by decide +kernel⟩
abbrev s__law_called : Stmt := top 30
abbrev N__law_called : List Str := ["_law_value_here", "_law_old", "_law_new", "_law_parts", "_law_k", "_law_one"]
theorem sc_law_called : FnScope ["_law_value_here", "_law_old", "_law_new", "_law_parts", "_law_k", "_law_one"] ["_law_value_here", "_law_old", "_law_new"] (defScope s__law_called) := ⟨rfl, rfl, rfl, by decide +kernel, rfl, by decide +kernel, by decide +kernel⟩
abbrev s__law_other_names : Stmt := top 31
abbrev N__law_other_names : List Str := ["_law_hand", "_law_program_here", "_law_old", "_law_new", "_law_k", "_law_digits", "_law_name", "_law_one"]
theorem sc_law_other_names : FnScope ["_law_hand", "_law_program_here", "_law_old", "_law_new", "_law_k", "_law_digits", "_law_name", "_law_one"] ["_law_hand", "_law_program_here"] (defScope s__law_other_names) := ⟨rfl, rfl, rfl, by decide +kernel, rfl, by decide +kernel, by decide +kernel⟩
abbrev s__law_odd : Stmt := top 32
abbrev N__law_odd : List Str := ["_law_hand", "_law_program_here", "_law_words", "_law_kind", "_law_name", "_law_word", "_law_one"]
theorem sc_law_odd : FnScope ["_law_hand", "_law_program_here", "_law_words", "_law_kind", "_law_name", "_law_word", "_law_one"] ["_law_hand", "_law_program_here"] (defScope s__law_odd) := ⟨rfl, rfl, rfl, by decide +kernel, rfl, by decide +kernel, by decide +kernel⟩
abbrev s__law_bent : Stmt := top 33
abbrev N__law_bent : List Str := ["_law_hand", "_law_program_here", "_law_value_here", "_law_depth", "_law_kind", "_law_at"]
theorem sc_law_bent : FnScope ["_law_hand", "_law_program_here", "_law_value_here", "_law_depth", "_law_kind", "_law_at"] ["_law_hand", "_law_program_here", "_law_value_here", "_law_depth"] (defScope s__law_bent) := ⟨rfl, rfl, rfl, by decide +kernel, rfl, by decide +kernel, by decide +kernel⟩
abbrev s__law_wide : Stmt := top 34
abbrev N__law_wide : List Str := ["_law_hand", "_law_letters", "_law_many_here", "_law_parameters", "_law_call", "_law_functions", "_law_k"]
theorem sc_law_wide : FnScope ["_law_hand", "_law_letters", "_law_many_here", "_law_parameters", "_law_call", "_law_functions", "_law_k"] ["_law_hand"] (defScope s__law_wide) := ⟨rfl, rfl, rfl, by decide +kernel, rfl, by decide +kernel, by decide +kernel⟩
abbrev s__law_numbered : Stmt := top 35
abbrev N__law_numbered : List Str := ["_law_hand", "_law_many_here", "_law_functions", "_law_k", "_law_at", "_law_name"]
theorem sc_law_numbered : FnScope ["_law_hand", "_law_many_here", "_law_functions", "_law_k", "_law_at", "_law_name"] ["_law_hand"] (defScope s__law_numbered) := ⟨rfl, rfl, rfl, by decide +kernel, rfl, by decide +kernel, by decide +kernel⟩
abbrev s__law_deep_body : Stmt := top 36
abbrev N__law_deep_body : List Str := ["_law_hand", "_law_inner", "_law_body", "_law_value_here", "_law_k", "_law_kind"]
theorem sc_law_deep_body : FnScope ["_law_hand", "_law_inner", "_law_body", "_law_value_here", "_law_k", "_law_kind"] ["_law_hand", "_law_inner"] (defScope s__law_deep_body) := ⟨rfl, rfl, rfl, by decide +kernel, rfl, by decide +kernel, by decide +kernel⟩
abbrev s_law : Stmt := top 37
abbrev N_law : List Str := ["_law_script", "_law_hand", "_law_program_here", "_law_step", "_law_at", "_law_bent_here", "_law_other", "_law_special_here", "_law_named", "_law_one", "_law_inner"]
theorem sclaw : FnScope ["_law_script", "_law_hand", "_law_program_here", "_law_step", "_law_at", "_law_bent_here", "_law_other", "_law_special_here", "_law_named", "_law_one", "_law_inner"] ["_law_script"] (defScope s_law) := ⟨rfl, rfl, rfl, by decide +kernel, rfl, by decide +kernel, by decide +kernel⟩
abbrev s_init : Stmt := inClass (top 3) 0
theorem scinit : FnScope ["self", "function"] ["self", "function"] (defScope s_init) := ⟨rfl, rfl, rfl, by decide +kernel, rfl, by decide +kernel, by decide +kernel⟩
/-- the special words as the module's dict has them -/
def specKV : List (Key × V) := specK.map fun p => (Sum.inr p.1, V.int p.2)
/-- the addresses of what the top has made -/
structure Fs where
  (cG cT cP cI fi aS : Addr)
  di : FuncData
  (tF tM : Tok)
  f_is_word : Addr
  d_is_word : FuncData
  f_has_head : Addr
  d_has_head : FuncData
  f_counts_of : Addr
  d_counts_of : FuncData
  f_name_fits : Addr
  d_name_fits : FuncData
  f_parameters_fit : Addr
  d_parameters_fit : FuncData
  f_body_fits : Addr
  d_body_fits : FuncData
  f_check_program : Addr
  d_check_program : FuncData
  f__law_draws : Addr
  d__law_draws : FuncData
  f__law_take : Addr
  d__law_take : FuncData
  f__law_value : Addr
  d__law_value : FuncData
  f__law_expression : Addr
  d__law_expression : FuncData
  f__law_library : Addr
  d__law_library : FuncData
  f__law_program : Addr
  d__law_program : FuncData
  f__law_many : Addr
  d__law_many : FuncData
  f__law_special : Addr
  d__law_special : FuncData
  f__law_expression_good : Addr
  d__law_expression_good : FuncData
  f__law_name_good : Addr
  d__law_name_good : FuncData
  f__law_function_good : Addr
  d__law_function_good : FuncData
  f__law_bad_function : Addr
  d__law_bad_function : FuncData
  f__law_is_right : Addr
  d__law_is_right : FuncData
  f__law_called : Addr
  d__law_called : FuncData
  f__law_other_names : Addr
  d__law_other_names : FuncData
  f__law_odd : Addr
  d__law_odd : FuncData
  f__law_bent : Addr
  d__law_bent : FuncData
  f__law_wide : Addr
  d__law_wide : FuncData
  f__law_numbered : Addr
  d__law_numbered : FuncData
  f__law_deep_body : Addr
  d__law_deep_body : FuncData
  f_law : Addr
  d_law : FuncData
/-- what the top has left -/
structure Tx (w : World) (K : PySem.W.Frag) (mg : Str → Option Value) (F : Fs) : Prop where
  F_is_word : Fun K "is_word" "is_word" s_is_word F.f_is_word F.d_is_word
  m_is_word : mg "is_word" = some (.ref F.f_is_word)
  k_is_word : PySem.W.keepIn K (.ref F.f_is_word) = true
  b_is_word : Binds K F.d_is_word ["value"] []
  F_has_head : Fun K "has_head" "has_head" s_has_head F.f_has_head F.d_has_head
  m_has_head : mg "has_head" = some (.ref F.f_has_head)
  k_has_head : PySem.W.keepIn K (.ref F.f_has_head) = true
  b_has_head : Binds K F.d_has_head ["function"] []
  F_counts_of : Fun K "counts_of" "counts_of" s_counts_of F.f_counts_of F.d_counts_of
  m_counts_of : mg "counts_of" = some (.ref F.f_counts_of)
  k_counts_of : PySem.W.keepIn K (.ref F.f_counts_of) = true
  b_counts_of : Binds K F.d_counts_of ["program"] []
  F_name_fits : Fun K "name_fits" "name_fits" s_name_fits F.f_name_fits F.d_name_fits
  m_name_fits : mg "name_fits" = some (.ref F.f_name_fits)
  k_name_fits : PySem.W.keepIn K (.ref F.f_name_fits) = true
  b_name_fits : Binds K F.d_name_fits ["name", "names", "many"] []
  F_parameters_fit : Fun K "parameters_fit" "parameters_fit" s_parameters_fit F.f_parameters_fit F.d_parameters_fit
  m_parameters_fit : mg "parameters_fit" = some (.ref F.f_parameters_fit)
  k_parameters_fit : PySem.W.keepIn K (.ref F.f_parameters_fit) = true
  b_parameters_fit : Binds K F.d_parameters_fit ["parameters"] []
  F_body_fits : Fun K "body_fits" "body_fits" s_body_fits F.f_body_fits F.d_body_fits
  m_body_fits : mg "body_fits" = some (.ref F.f_body_fits)
  k_body_fits : PySem.W.keepIn K (.ref F.f_body_fits) = true
  b_body_fits : Binds K F.d_body_fits ["body", "parameters", "counts"] []
  F_check_program : Fun K "check_program" "check_program" s_check_program F.f_check_program F.d_check_program
  m_check_program : mg "check_program" = some (.ref F.f_check_program)
  k_check_program : PySem.W.keepIn K (.ref F.f_check_program) = true
  b_check_program : Binds K F.d_check_program ["value"] []
  F__law_draws : Fun K "_law_draws" "_law_draws" s__law_draws F.f__law_draws F.d__law_draws
  m__law_draws : mg "_law_draws" = some (.ref F.f__law_draws)
  k__law_draws : PySem.W.keepIn K (.ref F.f__law_draws) = true
  b__law_draws : Binds K F.d__law_draws ["_law_script", "_law_many_here"] []
  F__law_take : Fun K "_law_take" "_law_take" s__law_take F.f__law_take F.d__law_take
  m__law_take : mg "_law_take" = some (.ref F.f__law_take)
  k__law_take : PySem.W.keepIn K (.ref F.f__law_take) = true
  b__law_take : Binds K F.d__law_take ["_law_hand", "_law_many_here"] []
  F__law_value : Fun K "_law_value" "_law_value" s__law_value F.f__law_value F.d__law_value
  m__law_value : mg "_law_value" = some (.ref F.f__law_value)
  k__law_value : PySem.W.keepIn K (.ref F.f__law_value) = true
  b__law_value : Binds K F.d__law_value ["_law_hand", "_law_depth"] []
  F__law_expression : Fun K "_law_expression" "_law_expression" s__law_expression F.f__law_expression F.d__law_expression
  m__law_expression : mg "_law_expression" = some (.ref F.f__law_expression)
  k__law_expression : PySem.W.keepIn K (.ref F.f__law_expression) = true
  b__law_expression : Binds K F.d__law_expression ["_law_hand", "_law_parameters", "_law_calls", "_law_depth"] []
  F__law_library : Fun K "_law_library" "_law_library" s__law_library F.f__law_library F.d__law_library
  m__law_library : mg "_law_library" = some (.ref F.f__law_library)
  k__law_library : PySem.W.keepIn K (.ref F.f__law_library) = true
  b__law_library : Binds K F.d__law_library [] []
  F__law_program : Fun K "_law_program" "_law_program" s__law_program F.f__law_program F.d__law_program
  m__law_program : mg "_law_program" = some (.ref F.f__law_program)
  k__law_program : PySem.W.keepIn K (.ref F.f__law_program) = true
  b__law_program : Binds K F.d__law_program ["_law_hand", "_law_inputs"] []
  F__law_many : Fun K "_law_many" "_law_many" s__law_many F.f__law_many F.d__law_many
  m__law_many : mg "_law_many" = some (.ref F.f__law_many)
  k__law_many : PySem.W.keepIn K (.ref F.f__law_many) = true
  b__law_many : Binds K F.d__law_many ["_law_program_here", "_law_name"] []
  F__law_special : Fun K "_law_special" "_law_special" s__law_special F.f__law_special F.d__law_special
  m__law_special : mg "_law_special" = some (.ref F.f__law_special)
  k__law_special : PySem.W.keepIn K (.ref F.f__law_special) = true
  b__law_special : Binds K F.d__law_special [] []
  F__law_expression_good : Fun K "_law_expression_good" "_law_expression_good" s__law_expression_good F.f__law_expression_good F.d__law_expression_good
  m__law_expression_good : mg "_law_expression_good" = some (.ref F.f__law_expression_good)
  k__law_expression_good : PySem.W.keepIn K (.ref F.f__law_expression_good) = true
  b__law_expression_good : Binds K F.d__law_expression_good ["_law_program_here", "_law_parameters", "_law_body"] []
  F__law_name_good : Fun K "_law_name_good" "_law_name_good" s__law_name_good F.f__law_name_good F.d__law_name_good
  m__law_name_good : mg "_law_name_good" = some (.ref F.f__law_name_good)
  k__law_name_good : PySem.W.keepIn K (.ref F.f__law_name_good) = true
  b__law_name_good : Binds K F.d__law_name_good ["_law_program_here", "_law_at"] []
  F__law_function_good : Fun K "_law_function_good" "_law_function_good" s__law_function_good F.f__law_function_good F.d__law_function_good
  m__law_function_good : mg "_law_function_good" = some (.ref F.f__law_function_good)
  k__law_function_good : PySem.W.keepIn K (.ref F.f__law_function_good) = true
  b__law_function_good : Binds K F.d__law_function_good ["_law_program_here", "_law_at"] []
  F__law_bad_function : Fun K "_law_bad_function" "_law_bad_function" s__law_bad_function F.f__law_bad_function F.d__law_bad_function
  m__law_bad_function : mg "_law_bad_function" = some (.ref F.f__law_bad_function)
  k__law_bad_function : PySem.W.keepIn K (.ref F.f__law_bad_function) = true
  b__law_bad_function : Binds K F.d__law_bad_function ["_law_program_here"] []
  F__law_is_right : Fun K "_law_is_right" "_law_is_right" s__law_is_right F.f__law_is_right F.d__law_is_right
  m__law_is_right : mg "_law_is_right" = some (.ref F.f__law_is_right)
  k__law_is_right : PySem.W.keepIn K (.ref F.f__law_is_right) = true
  b__law_is_right : Binds K F.d__law_is_right ["_law_program_here"] []
  F__law_called : Fun K "_law_called" "_law_called" s__law_called F.f__law_called F.d__law_called
  m__law_called : mg "_law_called" = some (.ref F.f__law_called)
  k__law_called : PySem.W.keepIn K (.ref F.f__law_called) = true
  b__law_called : Binds K F.d__law_called ["_law_value_here", "_law_old", "_law_new"] []
  F__law_other_names : Fun K "_law_other_names" "_law_other_names" s__law_other_names F.f__law_other_names F.d__law_other_names
  m__law_other_names : mg "_law_other_names" = some (.ref F.f__law_other_names)
  k__law_other_names : PySem.W.keepIn K (.ref F.f__law_other_names) = true
  b__law_other_names : Binds K F.d__law_other_names ["_law_hand", "_law_program_here"] []
  F__law_odd : Fun K "_law_odd" "_law_odd" s__law_odd F.f__law_odd F.d__law_odd
  m__law_odd : mg "_law_odd" = some (.ref F.f__law_odd)
  k__law_odd : PySem.W.keepIn K (.ref F.f__law_odd) = true
  b__law_odd : Binds K F.d__law_odd ["_law_hand", "_law_program_here"] []
  F__law_bent : Fun K "_law_bent" "_law_bent" s__law_bent F.f__law_bent F.d__law_bent
  m__law_bent : mg "_law_bent" = some (.ref F.f__law_bent)
  k__law_bent : PySem.W.keepIn K (.ref F.f__law_bent) = true
  b__law_bent : Binds K F.d__law_bent ["_law_hand", "_law_program_here", "_law_value_here", "_law_depth"] []
  F__law_wide : Fun K "_law_wide" "_law_wide" s__law_wide F.f__law_wide F.d__law_wide
  m__law_wide : mg "_law_wide" = some (.ref F.f__law_wide)
  k__law_wide : PySem.W.keepIn K (.ref F.f__law_wide) = true
  b__law_wide : Binds K F.d__law_wide ["_law_hand"] []
  F__law_numbered : Fun K "_law_numbered" "_law_numbered" s__law_numbered F.f__law_numbered F.d__law_numbered
  m__law_numbered : mg "_law_numbered" = some (.ref F.f__law_numbered)
  k__law_numbered : PySem.W.keepIn K (.ref F.f__law_numbered) = true
  b__law_numbered : Binds K F.d__law_numbered ["_law_hand"] []
  F__law_deep_body : Fun K "_law_deep_body" "_law_deep_body" s__law_deep_body F.f__law_deep_body F.d__law_deep_body
  m__law_deep_body : mg "_law_deep_body" = some (.ref F.f__law_deep_body)
  k__law_deep_body : PySem.W.keepIn K (.ref F.f__law_deep_body) = true
  b__law_deep_body : Binds K F.d__law_deep_body ["_law_hand", "_law_inner"] []
  F_law : Fun K "law" "law" s_law F.f_law F.d_law
  m_law : mg "law" = some (.ref F.f_law)
  k_law : PySem.W.keepIn K (.ref F.f_law) = true
  b_law : Binds K F.d_law ["_law_script"] []
  z_len : mg "len" = none
  z_isinstance : mg "isinstance" = none
  z_abs : mg "abs" = none
  z_int : mg "int" = none
  z_str : mg "str" = none
  z_tuple : mg "tuple" = none
  z_list : mg "list" = none
  z_dict : mg "dict" = none
  z_bool : mg "bool" = none
  z_range : mg "range" = none
  z_enumerate : mg "enumerate" = none
  m_FIGURES : mg "FIGURES" = some (.str "0123456789" F.tF)
  m_MOST_PARAMETERS : mg "MOST_PARAMETERS" = some (.int 12 F.tM)
  m_SPECIAL_WORDS : mg "SPECIAL_WORDS" = some (.ref F.aS)
  m_GlassError : mg "GlassError" = some (.ref F.cG)
  m_BadText : mg "BadText" = some (.ref F.cT)
  m_BadProgram : mg "BadProgram" = some (.ref F.cP)
  m_BadInputs : mg "BadInputs" = some (.ref F.cI)
  F_init : Fun K "__init__" "BadProgram.__init__" s_init F.fi F.di
  b_init : Binds K F.di ["self", "function"] []
  oex : OexC K F.cP
  iC : PySem.W.findIn K (.ref F.cP) "__init__" = some (some (.ref F.fi))
  tI : PySem.W.typeIn K (.ref F.fi) = some (.type "function")
  xf : XfC K F.cP
  no_function : PySem.W.findIn K (.ref F.cP) "function" = some none
  kd : KDc w K F.aS specKV
  xc : ExcC K F.cP
  iG : PySem.W.kitOne K (.ref F.cP) (.ref F.cG) = some true
  iT : PySem.W.kitOne K (.ref F.cP) (.ref F.cT) = some false
  iI : PySem.W.kitOne K (.ref F.cP) (.ref F.cI) = some false
  te : PySem.W.exmOne K (.ref F.cP) (.ref F.cP) = some true
end K4

namespace K4
open PySem PySem.Spec PyProof.Rows L2
local macro_rules | `(tactic| walk_at "rd") => `(tactic| simp only [tSeq, tAsg, tVar, tOp, tUn, rU, tTup, tLst, tNil, tCons, tCall, tCallS, tCB, tB, tTest, tAnd, tOr, tNot, tAndV, tOrV, tNotV, tIf, tNext, tDrop, tRet, tRetN, tIfS, tCont, tNever, tSl, tNoPart, tPart, tBM, tBM0, tM1, gName, gSub, gTup, gNil, gCons, tC, rI, rI0, rEq, rNe, rIxL, rIxT, rIxS, rSetL, rAppend, rPop, rIn, rSlS, rSlL, rCat, rIndex, rExtT, tGv, tGvL, rLn, rInK, rIsX, tRev, tXf, tDGet1, tDIn, tDNotIn, sDPut, tDNewK, WE, tFor_eq, tLc_eq, iTup, iList, iRng1, iStr, iEnumT, cx_K, cx_prog, cx_w, List.getElem?_cons_succ, List.getElem?_cons_zero, Option.some.injEq, exists_eq_left', exists_eq_left, exists_and_left, V.ref.injEq, V.int.injEq, V.str.injEq, V.bl.injEq, V.ty.injEq, List.cons.injEq, List.set_cons_zero, List.set_cons_succ, and_assoc, true_and, and_true, List.append_nil, List.map_cons, List.map_nil, Int.sub_self, reduceCtorEq, false_and, and_false, or_false, false_or, exists_false, if_true, if_false, Bool.not_true, Bool.not_false, Bool.false_eq_true, decide_eq_true_eq, Bool.not_eq_true', decide_eq_false_iff_not, Int.zero_add])
local macro_rules | `(tactic| walk_at "gv") => `(tactic| (repeat (first | exact gvl_nil | refine gvl_cons ?_ ?_ | exact gv_str | exact gv_gv | (exact gv_var (by assumption)) | refine gv_tup ?_)))
local macro_rules | `(tactic| walk_at "nx") => `(tactic| simp only [tSeq, List.set_cons_zero, List.set_cons_succ])
local macro_rules | `(tactic| walk_at "exd") => `(tactic| (repeat (first | exact ExD.word _ _ | exact ExD.quote _ _ | exact exdl_nil | refine exdl_cons ?_ ?_ | refine ExD.call ?_)))

section
variable {P : Program} {w : World} {K : PySem.W.Frag} {mg : Str → Option Value} {base : Heap} {F : Fs}
/-- _law_take(hand, n): a number below n; only the hand's place moves -/
def spTake : Sp := fun vs H Q _ => ∃ (x : Hd) (n : Int), vs = [.ref x.g, .int n] ∧ 0 < n ∧ Hand x H ∧
  ∀ (H' : Hp) (k : Int), But x.g H H' → Hand x H' → 0 ≤ k → k < n → Q (.int k) H'
theorem ok_take (T : Tx w K mg F) : FnOk P w K mg base CX0 1 F.f__law_take F.d__law_take ["_law_hand", "_law_many_here"] spTake := by
  refine T.F__law_take.ok sc_law_take (fun vs H Q E h => ?_) (fun cdv A outer s H vs Q E hr h => ?_)
  · obtain ⟨x, n, rfl, _⟩ := h
    rfl
  obtain ⟨x, n, rfl, hn, ⟨h3, h4, p, h2, h1⟩, q⟩ := h
  refine ⟨_, (pss_cons (ps_set (i := 2) sc_law_take.nd rfl (Or.inl rfl) (pe_ix ix_list (pv 0) pe_int (fun _ _ => rfl)))
      (pss_cons (ps_asg (pe_op op_add (pv 2) pe_int) (pg_sub (pv 0) pe_int set_list))
      (pss_cons (ps_set (i := 3) sc_law_take.nd rfl (Or.inl rfl) (pe_ix ix_list (pv 0) pe_int (fun _ _ => rfl)))
      (pss_cons (ps_if (pt_cmpR op_ge (pv 2) (pe_callB call_len rfl T.z_len PySem.boot_len (pa_cons (pv 3) pa_nil)) (nomark _)) (pss_one (ps_ret pe_int)) pss_nil)
      (pss_one (ps_ret (pe_op op_mod (pe_op op_fdiv (pe_callTy call_int1 rfl T.z_int (by decide +kernel) (pa_cons (pe_ix ix_list (pv 3) (pv 2) (fun _ _ => rfl)) pa_nil)) pe_int) (pv 1)))))))), ?_⟩
  rw [show start ["_law_hand", "_law_many_here", "_law_at", "_law_draws_here"] [V.ref x.g, V.int n] = [some (V.ref x.g), some (V.int n), none, none] from rfl]
  walk_at "rd"
  have b1 : But x.g H (upd H x.g (.lst [V.ref x.d, V.int (p + 1)])) := But.upd _
  have e4 : (upd H x.g (.lst [V.ref x.d, V.int (p + 1)])) x.d = some (.lst (x.ns.map V.int)) := by rw [upd_ne h3]; exact h4
  have hh' : Hand x (upd H x.g (.lst [V.ref x.d, V.int (p + 1)])) := ⟨h3, e4, p + 1, by omega, upd_same⟩
  refine ⟨_, SqL.of h1, _, rfl, p, rfl, _, h1, 1, rfl, _, SqL.of upd_same, _, rfl, x.ns.length, .inl ⟨_, SqL.of e4, (List.length_map _).symm⟩, p, rfl, ?_⟩
  by_cases c : (x.ns.length : Int) ≤ p
  · rw [if_pos c]
    exact q _ 0 b1 hh' (Int.le_refl 0) hn
  · rw [if_neg c]
    have hp : p.toNat < x.ns.length := by omega
    refine ⟨x.d, rfl, _, p, rfl, SqL.of e4, V.int x.ns[p.toNat], ?_, .inl ⟨_, rfl, ⟨by decide, by decide⟩, hn, q _ _ b1 hh' (Int.emod_nonneg _ (by omega)) (Int.emod_lt_of_pos _ hn)⟩⟩
    exact atI_at h2 (by rw [List.getElem?_map, List.getElem?_eq_getElem hp]; rfl)
end
end K4

namespace K4
open PySem PySem.Spec PyProof.Rows L2
local macro_rules | `(tactic| walk_at "rd") => `(tactic| simp only [tSeq, tAsg, tVar, tOp, tUn, rU, tTup, tLst, tNil, tCons, tCall, tCallS, tCB, tB, tTest, tAnd, tOr, tNot, tAndV, tOrV, tNotV, tIf, tNext, tDrop, tRet, tRetN, tIfS, tCont, tNever, tSl, tNoPart, tPart, tBM, tBM0, tM1, gName, gSub, gTup, gNil, gCons, tC, rI, rI0, rEq, rNe, rIxL, rIxT, rIxS, rSetL, rAppend, rPop, rIn, rSlS, rSlL, rCat, rIndex, rExtT, tGv, tGvL, rLn, rInK, rIsX, tRev, tXf, tDGet1, tDIn, tDNotIn, sDPut, tDNewK, WE, tFor_eq, tLc_eq, iTup, iList, iRng1, iStr, iEnumT, cx_K, cx_prog, cx_w, List.getElem?_cons_succ, List.getElem?_cons_zero, Option.some.injEq, exists_eq_left', exists_eq_left, exists_and_left, V.ref.injEq, V.int.injEq, V.str.injEq, V.bl.injEq, V.ty.injEq, List.cons.injEq, List.set_cons_zero, List.set_cons_succ, and_assoc, true_and, and_true, List.append_nil, List.map_cons, List.map_nil, Int.sub_self, reduceCtorEq, false_and, and_false, or_false, false_or, exists_false, if_true, if_false, Bool.not_true, Bool.not_false, Bool.false_eq_true, decide_eq_true_eq, Bool.not_eq_true', decide_eq_false_iff_not, Int.zero_add])
local macro_rules | `(tactic| walk_at "gv") => `(tactic| (repeat (first | exact gvl_nil | refine gvl_cons ?_ ?_ | exact gv_str | exact gv_gv | (exact gv_var (by assumption)) | refine gv_tup ?_)))
local macro_rules | `(tactic| walk_at "nx") => `(tactic| simp only [tSeq, List.set_cons_zero, List.set_cons_succ])
local macro_rules | `(tactic| walk_at "exd") => `(tactic| (repeat (first | exact ExD.word _ _ | exact ExD.quote _ _ | exact exdl_nil | refine exdl_cons ?_ ?_ | refine ExD.call ?_)))

/-- one of some words -/
theorem pick {ws : List Str} (h : ws.all okS = true) {k : Int} (h0 : 0 ≤ k) (h1 : k < ws.length) : ∃ s, atI (ws.map V.str) k = some (.str s) ∧ okS s = true ∧ ws[k.toNat]? = some s := by
  have hk : k.toNat < ws.length := by omega
  have e : ws[k.toNat]? = some ws[k.toNat] := List.getElem?_eq_getElem hk
  refine ⟨ws[k.toNat], atI_at h0 (by rw [List.getElem?_map, e]; rfl), ?_, e⟩
  exact List.all_eq_true.mp h _ (List.getElem_mem hk)
/-- the most that a drawn value of depth d weighs -/
def vb : Nat → Nat
  | 0 => 1
  | d + 1 => 1 + 3 * vb d
theorem vb_pos : ∀ d, 1 ≤ vb d
  | 0 => Nat.le_refl _
  | d + 1 => by rw [vb]; omega
def spVal (m : Nat) : Sp := fun vs H Q _ => ∃ (x : Hd) (d : Nat), vs = [.ref x.g, .int d] ∧ d < m ∧ Hand x H ∧
  ∀ (H' : Hp) (v : V) (t : Tr), But x.g H H' → Hand x H' → TrV H' t v → wt t ≤ vb d → Q v H'
section
variable {P : Program} {w : World} {K : PySem.W.Frag} {mg : Str → Option Value} {base : Heap} {F : Fs}
theorem ok_value1 (T : Tx w K mg F) {m : Nat} (G__law_value : FnOk P w K mg base CX0 (m + 1) F.f__law_value F.d__law_value ["_law_hand", "_law_depth"] (spVal m)) :
    FnOk P w K mg base CX0 (m + 2) F.f__law_value F.d__law_value ["_law_hand", "_law_depth"] (spVal (m + 1)) := by
  have G__law_take := ok_take (P := P) (base := base) T
  refine T.F__law_value.ok sc_law_value (fun vs H Q E h => ?_) (fun cdv A outer s H vs Q E hr h => ?_)
  · obtain ⟨x, d, rfl, _⟩ := h
    rfl
  obtain ⟨x, d, rfl, hd, hh, q⟩ := h
  have hr1 := hr
  refine ⟨_, (pss_cons (ps_if (PW.pt (pw_or (pt_cmpR op_eq (pv 1) pe_int (nomark _)) (pw_or1 (pt_cmpR op_eq (pe_call G__law_take (hr.mono (by omega)) rfl T.m__law_take T.k__law_take T.b__law_take .nil pass0 (pa_cons (pv 0) (pa_cons pe_int pa_nil))) pe_int (nomark _))))) (pss_one (ps_ret (pe_ix ix_list (pe_lst (pa_cons pe_str (pa_cons pe_str (pa_cons pe_str (pa_cons pe_str (pa_cons pe_str (pa_cons pe_str (pa_cons pe_str (pa_cons pe_str pa_nil))))))))) (pe_call G__law_take (hr.mono (by omega)) rfl T.m__law_take T.k__law_take T.b__law_take .nil pass0 (pa_cons (pv 0) (pa_cons pe_int pa_nil))) (fun _ _ => rfl)))) pss_nil)
      (pss_one (ps_ret (pe_callTy call_tuple_of rfl T.z_tuple (by decide +kernel) (pa_cons (pe_lc (own := [(("_law_k" : Str), 2)]) (g := gName 2) (tt := tYes) rfl sc_law_value.nd (pi_range1 rfl T.z_range (pa_cons (pe_call G__law_take (hr.mono (by omega)) rfl T.m__law_take T.k__law_take T.b__law_take .nil pass0 (pa_cons (pv 0) (pa_cons pe_int pa_nil))) pa_nil)) (blkOk_by (N := N__law_value) (sc := defScope s__law_value) (by decide +kernel)) (fun _ _ _ _ _ => pg_name (i := 2) sc_law_value.nd rfl (Or.inl rfl)) (fun _ _ _ _ _ => pts_nil) (fun _ _ _ _ _ => (pe_call G__law_value hr1 rfl T.m__law_value T.k__law_value T.b__law_value .nil pass0 (pa_cons (pv 0) (pa_cons (pe_op op_sub (pv 1) pe_int) pa_nil))))) pa_nil))))), ?_⟩
  rw [show start ["_law_hand", "_law_depth", "_law_k"] [V.ref x.g, V.int d] = [some (V.ref x.g), some (V.int d), none] from rfl]
  walk_at "rd"
  have words : ∀ (H0 : Hp) (g0 : But x.g H H0) (h0 : Hand x H0), [V.str (Str.ofString "yes"), V.str (Str.ofString "a"), V.str (Str.ofString "quote"), V.str (Str.ofString "f0"), V.str (Str.ofString "b2"), V.str (Str.ofString "done"), V.str (Str.ofString "spin"), V.str (Str.ofString "x")].length ≤ sizeLine ∧
      ∀ p, H0 p = none → spTake [V.ref x.g, V.int 8] (upd H0 p (HO.lst [V.str (Str.ofString "yes"), V.str (Str.ofString "a"), V.str (Str.ofString "quote"), V.str (Str.ofString "f0"), V.str (Str.ofString "b2"), V.str (Str.ofString "done"), V.str (Str.ofString "spin"), V.str (Str.ofString "x")]))
        (fun y H2 => ∃ x x_1, y = V.int x_1 ∧ SqL K H2 p x ∧ ∃ x_2, atI x x_1 = some x_2 ∧ Q x_2 H2) E0 := by
    intro H0 g0 h0
    refine ⟨by decide, fun p hp => ⟨x, 8, rfl, by decide, h0.new hp _, fun H2 k b2 h2 k0 k1 => ?_⟩⟩
    obtain ⟨z, hz, oz, _⟩ := pick (ws := ["yes", "a", "quote", "f0", "b2", "done", "spin", "x"]) (by decide +kernel) k0 k1
    refine ⟨_, k, rfl, SqL.of (b2 _ _ (h0.free hp).1 upd_same), _, hz, q H2 _ (.w z) (g0.trans ((But.new hp _).trans b2)) h2 (.w z) ?_⟩
    rw [wt_ok oz]
    exact vb_pos d
  refine ⟨rfl, ?_⟩
  by_cases c : (d : Int) = 0
  · rw [if_pos c]
    exact words H (But.refl x.g H) hh
  rw [if_neg c]
  refine ⟨x, 3, rfl, by decide, hh, fun H1 k b1 h1 k0 k1 => ⟨rfl, ?_⟩⟩
  by_cases c2 : V.int k = V.int 0
  · rw [if_pos c2]
    exact words H1 b1 h1
  rw [if_neg c2]
  refine ⟨x, 4, rfl, by decide, h1, fun H2 n b2 h2 n0 n1 => ⟨n, rfl, by omega, by omega, fun L hL => ?_⟩⟩
  refine lcj_range (n := n.toNat) (Grow x H2 L fun t => wt t ≤ vb (d - 1)) (.start h2 hL) ?_ ?_
  · intro i H' hi gr
    walk_at "rd"
    obtain ⟨_, _, _, _, h', _⟩ := id gr
    exact ⟨x, d - 1, by rw [show ((d - 1 : Nat) : Int) = (d : Int) - 1 by omega], by omega, h', fun H3 v t b3 h3 tv tw => gr.more h2 hL (by omega) b3 h3 tv tw⟩
  · rintro H' ⟨ts, vs, el, b', h', eL, tl, rl⟩
    refine ⟨L, rfl, vs, .inl ⟨SqL.of eL, fun p hp => q _ _ (.t ts) (b1.trans (b2.trans (b'.trans (But.new hp _)))) (h'.new hp _) (.t upd_same (tl.mono (Tup.new hp _))) ?_⟩⟩
    have a1 := wtL_all rl
    rw [el] at a1
    rw [wt_t]
    obtain ⟨e, rfl⟩ : ∃ e, d = e + 1 := ⟨d - 1, by omega⟩
    rw [vb]
    have a2 : n.toNat * vb e ≤ 3 * vb e := Nat.mul_le_mul_right _ (by omega)
    simp only [Nat.add_sub_cancel] at a1
    omega
theorem ok_value (T : Tx w K mg F) : ∀ m, FnOk P w K mg base CX0 (m + 1) F.f__law_value F.d__law_value ["_law_hand", "_law_depth"] (spVal m)
  | 0 => fn_never fun vs H Q E h => by obtain ⟨_, _, _, h, _⟩ := h; omega
  | m + 1 => ok_value1 T (ok_value T m)
end
end K4

namespace K4
open PySem PySem.Spec PyProof.Rows L2
local macro_rules | `(tactic| walk_at "rd") => `(tactic| simp only [tSeq, tAsg, tVar, tOp, tUn, rU, tTup, tLst, tNil, tCons, tCall, tCallS, tCB, tB, tTest, tAnd, tOr, tNot, tAndV, tOrV, tNotV, tIf, tNext, tDrop, tRet, tRetN, tIfS, tCont, tNever, tSl, tNoPart, tPart, tBM, tBM0, tM1, gName, gSub, gTup, gNil, gCons, tC, rI, rI0, rEq, rNe, rIxL, rIxT, rIxS, rSetL, rAppend, rPop, rIn, rSlS, rSlL, rCat, rIndex, rExtT, tGv, tGvL, rLn, rInK, rIsX, tRev, tXf, tDGet1, tDIn, tDNotIn, sDPut, tDNewK, WE, tFor_eq, tLc_eq, iTup, iList, iRng1, iStr, iEnumT, cx_K, cx_prog, cx_w, List.getElem?_cons_succ, List.getElem?_cons_zero, Option.some.injEq, exists_eq_left', exists_eq_left, exists_and_left, V.ref.injEq, V.int.injEq, V.str.injEq, V.bl.injEq, V.ty.injEq, List.cons.injEq, List.set_cons_zero, List.set_cons_succ, and_assoc, true_and, and_true, List.append_nil, List.map_cons, List.map_nil, Int.sub_self, reduceCtorEq, false_and, and_false, or_false, false_or, exists_false, if_true, if_false, Bool.not_true, Bool.not_false, Bool.false_eq_true, decide_eq_true_eq, Bool.not_eq_true', decide_eq_false_iff_not, Int.zero_add])
local macro_rules | `(tactic| walk_at "gv") => `(tactic| (repeat (first | exact gvl_nil | refine gvl_cons ?_ ?_ | exact gv_str | exact gv_gv | (exact gv_var (by assumption)) | refine gv_tup ?_)))
local macro_rules | `(tactic| walk_at "nx") => `(tactic| simp only [tSeq, List.set_cons_zero, List.set_cons_succ])
local macro_rules | `(tactic| walk_at "exd") => `(tactic| (repeat (first | exact ExD.word _ _ | exact ExD.quote _ _ | exact exdl_nil | refine exdl_cons ?_ ?_ | refine ExD.call ?_)))

/-- the most that a drawn expression of depth d weighs -/
def eb : Nat → Nat
  | 0 => 15
  | d + 1 => 2 + 3 * eb d
theorem eb_pos : ∀ d, 15 ≤ eb d
  | 0 => Nat.le_refl _
  | d + 1 => by have := eb_pos d; rw [eb]; omega
/-- a list of pairs: a name, how many parts a call of it has -/
def Calls (H : Hp) (ca : Addr) (cs : List V) : Prop := H ca = some (.lst cs) ∧ cs.length ≤ 10 ∧ ∀ c ∈ cs, ∃ (a : Addr) (nm : Str) (k : Nat), c = .ref a ∧ H a = some (.tup [.str nm, .int k]) ∧ okS nm = true ∧ k ≤ 3
theorem Calls.but {H H' : Hp} {ca : Addr} {cs : List V} {g : Addr} (c : Calls H ca cs) (b : But g H H') (n : ca ≠ g) (t : Tup H H') : Calls H' ca cs := by
  obtain ⟨h1, h2, h3⟩ := c
  refine ⟨b _ _ n h1, h2, fun z hz => ?_⟩
  obtain ⟨a, nm, k, e, h, o⟩ := h3 z hz
  exact ⟨a, nm, k, e, t _ _ h, o⟩
def spExpr (m : Nat) : Sp := fun vs H Q _ => ∃ (x : Hd) (pa ca : Addr) (d : Nat) (ps : List Str) (cs : List V), vs = [.ref x.g, .ref pa, .ref ca, .int d] ∧ d < m ∧ Hand x H ∧
  H pa = some (.tup (ps.map V.str)) ∧ ps.all okS = true ∧ ps.length ≤ 10 ∧ ca ≠ x.g ∧ Calls H ca cs ∧
  ∀ (H' : Hp) (v : V) (t : Tr), But x.g H H' → Hand x H' → TrV H' t v → wt t ≤ eb d → ExD d t → Q v H'
section
variable {P : Program} {w : World} {K : PySem.W.Frag} {mg : Str → Option Value} {base : Heap} {F : Fs}
theorem ok_expr1 (T : Tx w K mg F) {m : Nat} (G__law_expression : FnOk P w K mg base CX0 (m + 5) F.f__law_expression F.d__law_expression ["_law_hand", "_law_parameters", "_law_calls", "_law_depth"] (spExpr m)) :
    FnOk P w K mg base CX0 (m + 6) F.f__law_expression F.d__law_expression ["_law_hand", "_law_parameters", "_law_calls", "_law_depth"] (spExpr (m + 1)) := by
  have G__law_take := ok_take (P := P) (base := base) T
  have G__law_value := ok_value (P := P) (base := base) T 3
  refine T.F__law_expression.ok sc_law_expression (fun vs H Q E h => ?_) (fun cdv A outer s H vs Q E hr h => ?_)
  · obtain ⟨x, pa, ca, d, ps, cs, rfl, _⟩ := h
    rfl
  obtain ⟨x, pa, ca, d, ps, cs, rfl, hd, hh, hpa, okp, lp, nca, hc, q⟩ := h
  have hr1 := hr
  refine ⟨_, (pss_cons (ps_set (i := 4) sc_law_expression.nd rfl (Or.inl rfl) (pe_call G__law_take (hr.mono (by omega)) rfl T.m__law_take T.k__law_take T.b__law_take .nil pass0 (pa_cons (pv 0) (pa_cons pe_int pa_nil))))
      (pss_cons (ps_if (PW.pt (pw_or (pt_cmpR op_eq (pv 3) pe_int (nomark _)) (pw_or1 (pt_cmpR op_lt (pv 4) pe_int (nomark _))))) (pss_cons (ps_if (PW.pt (pw_and (pt_cmpR op_gt (pe_callB call_len rfl T.z_len PySem.boot_len (pa_cons (pv 1) pa_nil)) pe_int (nomark _)) (pw_and1 (pt_cmpR op_gt (pe_call G__law_take (hr.mono (by omega)) rfl T.m__law_take T.k__law_take T.b__law_take .nil pass0 (pa_cons (pv 0) (pa_cons pe_int pa_nil))) pe_int (nomark _))))) (pss_one (ps_ret (pe_ix ix_tup (pv 1) (pe_call G__law_take (hr.mono (by omega)) rfl T.m__law_take T.k__law_take T.b__law_take .nil pass0 (pa_cons (pv 0) (pa_cons (pe_callB call_len rfl T.z_len PySem.boot_len (pa_cons (pv 1) pa_nil)) pa_nil))) (fun _ _ => rfl)))) pss_nil)
      (pss_one (ps_ret (pe_tup (pa_cons pe_str (pa_cons (pe_call G__law_value (hr.mono (by omega)) rfl T.m__law_value T.k__law_value T.b__law_value .nil pass0 (pa_cons (pv 0) (pa_cons pe_int pa_nil))) pa_nil)))))) pss_nil)
      (pss_cons (ps_if (pt_cmpR op_lt (pv 4) pe_int (nomark _)) (pss_cons (ps_setLc (i := 5) (own := [(("_law_k" : Str), 9)]) (g := gName 9) (tt := tYes) rfl sc_law_expression.nd rfl rfl (sw_true rfl rfl rfl (by decide +kernel)) (pi_range1 rfl T.z_range (pa_cons pe_int pa_nil)) (blkOk_by (N := N__law_expression) (sc := defScope s__law_expression) (by decide +kernel)) (fun _ _ _ _ _ => pg_name (i := 9) sc_law_expression.nd rfl (Or.inl rfl)) (fun _ _ _ _ _ => pts_nil) (fun _ _ _ _ _ => (pe_call G__law_expression hr1 rfl T.m__law_expression T.k__law_expression T.b__law_expression .nil pass0 (pa_cons (pv 0) (pa_cons (pv 1) (pa_cons (pv 2) (pa_cons (pe_op op_sub (pv 3) pe_int) pa_nil)))))))
      (pss_one (ps_ret (pe_tup (pa_cons pe_str (pa_cons (pe_ix ix_list (pv 5) pe_int (fun _ _ => rfl)) (pa_cons (pe_ix ix_list (pv 5) pe_int (fun _ _ => rfl)) (pa_cons (pe_ix ix_list (pv 5) pe_int (fun _ _ => rfl)) pa_nil)))))))) pss_nil)
      (pss_cons (ps_if (PW.pt (pw_or (pt_cmpR op_eq (pv 4) pe_int (nomark _)) (pw_or1 (pt_cmpR op_eq (pv 4) pe_int (nomark _))))) (pss_cons (ps_set (i := 6) sc_law_expression.nd rfl (Or.inl rfl) (pe_call G__law_expression hr1 rfl T.m__law_expression T.k__law_expression T.b__law_expression .nil pass0 (pa_cons (pv 0) (pa_cons (pv 1) (pa_cons (pv 2) (pa_cons (pe_op op_sub (pv 3) pe_int) pa_nil))))))
      (pss_one (ps_ret (pe_tup (pa_cons pe_str (pa_cons (pv 6) (pa_cons (pe_call G__law_expression hr1 rfl T.m__law_expression T.k__law_expression T.b__law_expression .nil pass0 (pa_cons (pv 0) (pa_cons (pv 1) (pa_cons (pv 2) (pa_cons (pe_op op_sub (pv 3) pe_int) pa_nil))))) pa_nil))))))) pss_nil)
      (pss_cons (ps_if (pt_cmpR op_lt (pv 4) pe_int (nomark _)) (pss_cons (ps_set (i := 6) sc_law_expression.nd rfl (Or.inl rfl) (pe_call G__law_expression hr1 rfl T.m__law_expression T.k__law_expression T.b__law_expression .nil pass0 (pa_cons (pv 0) (pa_cons (pv 1) (pa_cons (pv 2) (pa_cons (pe_op op_sub (pv 3) pe_int) pa_nil))))))
      (pss_one (ps_ret (pe_tup (pa_cons pe_str (pa_cons (pv 6) (pa_cons (pe_call G__law_expression hr1 rfl T.m__law_expression T.k__law_expression T.b__law_expression .nil pass0 (pa_cons (pv 0) (pa_cons (pv 1) (pa_cons (pv 2) (pa_cons (pe_op op_sub (pv 3) pe_int) pa_nil))))) pa_nil))))))) pss_nil)
      (pss_cons (ps_if (pt_cmpR op_eq (pv 4) pe_int (nomark _)) (pss_one (ps_ret (pe_tup (pa_cons pe_str (pa_cons (pe_call G__law_expression hr1 rfl T.m__law_expression T.k__law_expression T.b__law_expression .nil pass0 (pa_cons (pv 0) (pa_cons (pv 1) (pa_cons (pv 2) (pa_cons (pe_op op_sub (pv 3) pe_int) pa_nil))))) pa_nil))))) pss_nil)
      (pss_cons (ps_if (PW.pt (pw_or (pt_cmpR op_lt (pv 4) pe_int (nomark _)) (pw_or1 (pt_cmpR op_eq (pe_callB call_len rfl T.z_len PySem.boot_len (pa_cons (pv 2) pa_nil)) pe_int (nomark _))))) (pss_one (ps_ret (pe_tup (pa_cons (pe_ix ix_list (pe_lst (pa_cons pe_str (pa_cons pe_str pa_nil))) (pe_op op_mod (pv 4) pe_int) (fun _ _ => rfl)) (pa_cons (pe_call G__law_expression hr1 rfl T.m__law_expression T.k__law_expression T.b__law_expression .nil pass0 (pa_cons (pv 0) (pa_cons (pv 1) (pa_cons (pv 2) (pa_cons (pe_op op_sub (pv 3) pe_int) pa_nil))))) pa_nil))))) pss_nil)
      (pss_cons (ps_asg (pe_ix ix_list (pv 2) (pe_call G__law_take (hr.mono (by omega)) rfl T.m__law_take T.k__law_take T.b__law_take .nil pass0 (pa_cons (pv 0) (pa_cons (pe_callB call_len rfl T.z_len PySem.boot_len (pa_cons (pv 2) pa_nil)) pa_nil))) (fun _ _ => rfl)) (pg_tup rfl (pgs_cons (pg_name (i := 7) sc_law_expression.nd rfl (Or.inl rfl)) (pgs_cons (pg_name (i := 8) sc_law_expression.nd rfl (Or.inl rfl)) pgs_nil))))
      (pss_one (ps_ret (pe_op op_catA (pe_tup (pa_cons (pv 7) pa_nil)) (pe_callTy call_tuple_of rfl T.z_tuple (by decide +kernel) (pa_cons (pe_lc (own := [(("_law_k" : Str), 9)]) (g := gName 9) (tt := tYes) rfl sc_law_expression.nd (pi_range1 rfl T.z_range (pa_cons (pv 8) pa_nil)) (blkOk_by (N := N__law_expression) (sc := defScope s__law_expression) (by decide +kernel)) (fun _ _ _ _ _ => pg_name (i := 9) sc_law_expression.nd rfl (Or.inl rfl)) (fun _ _ _ _ _ => pts_nil) (fun _ _ _ _ _ => (pe_call G__law_expression hr1 rfl T.m__law_expression T.k__law_expression T.b__law_expression .nil pass0 (pa_cons (pv 0) (pa_cons (pv 1) (pa_cons (pv 2) (pa_cons (pe_op op_sub (pv 3) pe_int) pa_nil))))))) pa_nil))))))))))))), ?_⟩
  rw [show start ["_law_hand", "_law_parameters", "_law_calls", "_law_depth", "_law_kind", "_law_parts", "_law_left", "_law_name", "_law_many_here", "_law_k"] [V.ref x.g, V.ref pa, V.ref ca, V.int d] = [some (V.ref x.g), some (V.ref pa), some (V.ref ca), some (V.int d), none, none, none, none, none, none] from rfl]
  walk_at "rd"
  have sub : ∀ (H1 : Hp) (b1 : But x.g H H1) (h1 : Hand x H1) (d0 : ¬ (d : Int) = 0) (Q' : VK), (∀ (H2 : Hp) (v : V) (t : Tr), But x.g H1 H2 → Hand x H2 → TrV H2 t v → wt t ≤ eb (d - 1) → ExD (d - 1) t → Q' v H2) →
      spExpr m [V.ref x.g, V.ref pa, V.ref ca, V.int ((d : Int) - 1)] H1 Q' E0 := by
    intro H1 b1 h1 d0 Q' h
    exact ⟨x, pa, ca, d - 1, ps, cs, by rw [show ((d - 1 : Nat) : Int) = (d : Int) - 1 by omega], by omega, h1, hh.tup b1 _ _ hpa, okp, lp, nca, hc.but b1 nca (hh.tup b1), h⟩
  have fin : ∀ (H1 : Hp) (s : Str) (ts : List Tr) (vs : List V) (d0 : ¬ (d : Int) = 0), But x.g H H1 → Hand x H1 → TrL H1 ts vs → okS s = true → ts.length ≤ 3 → (∀ t ∈ ts, wt t ≤ eb (d - 1) ∧ ExD (d - 1) t) →
      (V.str s :: vs).length ≤ sizeLine ∧ ∀ p, H1 p = none → Q (.ref p) (upd H1 p (.tup (V.str s :: vs))) := by
    intro H1 s ts vs d0 b1 h1 tl os l3 al
    refine ⟨Nat.le_of_lt (small20 (by rw [List.length_cons, tl.len]; omega)), fun p hp => ?_⟩
    refine q _ _ (.t (.w s :: ts)) (b1.trans (But.new hp _)) (h1.new hp _) (.t upd_same (.cons (.w s) (tl.mono (Tup.new hp _)))) ?_ ?_
    · have a1 := wtL_all (fun t ht => (al t ht).1)
      obtain ⟨e, rfl⟩ : ∃ e, d = e + 1 := ⟨d - 1, by omega⟩
      rw [wt_t, wtL_cons, wt_ok os, eb]
      have a2 : ts.length * eb e ≤ 3 * eb e := Nat.mul_le_mul_right _ l3
      simp only [Nat.add_sub_cancel] at a1
      omega
    · obtain ⟨e, rfl⟩ : ∃ e, d = e + 1 := ⟨d - 1, by omega⟩
      exact ExD.call fun t ht => (al t ht).2
  refine ⟨x, 12, rfl, by decide, hh, fun H1 k b1 h1 k0 k1 => ⟨rfl, ?_⟩⟩
  have hpa1 := hh.tup b1 _ _ hpa
  have hc1 := hc.but b1 nca (hh.tup b1)
  by_cases c : (d : Int) = 0
  case' neg =>
    rw [if_neg c]
    refine ⟨k, rfl, ?_⟩
    by_cases c2 : k < 2
    case' neg =>
      rw [if_neg c2]
      refine ⟨k, rfl, ?_⟩
      by_cases c4 : k < 4
      · rw [if_pos c4]
        refine ⟨by decide, by decide, fun L hL => ?_⟩
        refine lcj_range (n := 3) (Grow x H1 L fun t => wt t ≤ eb (d - 1) ∧ ExD (d - 1) t) (.start h1 hL) ?_ ?_
        · intro i H' hi gr
          walk_at "rd"
          obtain ⟨_, _, _, b', h', _⟩ := id gr
          exact sub H' (b1.trans b') h' c _ fun H3 v t b3 h3 tv tw te => gr.more h1 hL (by omega) b3 h3 tv ⟨tw, te⟩
        · rintro H' ⟨ts, vs, el, b', h', eL, tl, rl⟩
          have lv := tl.len
          rw [el] at lv
          match ts, vs, el, lv, tl, eL, rl with
          | [t1, t2, t3], [v1, v2, v3], _, _, tl, eL, rl =>
            refine ⟨L, rfl, _, SqL.of eL, v1, rfl, L, rfl, _, SqL.of eL, v2, rfl, L, rfl, _, SqL.of eL, v3, rfl, ?_⟩
            exact fin H' "if" [t1, t2, t3] [v1, v2, v3] c (b1.trans b') h' tl (by decide +kernel) (by show 3 ≤ 3; decide) rl
      rw [if_neg c4]
      have two : ∀ s : Str, okS s = true → spExpr m [V.ref x.g, V.ref pa, V.ref ca, V.int ((d : Int) - 1)] H1 (fun x_2 H1 => spExpr m [V.ref x.g, V.ref pa, V.ref ca, V.int ((d : Int) - 1)] H1 (fun x H1 =>
          [V.str s, x_2, x].length ≤ sizeLine ∧ ∀ p, H1 p = none → Q (V.ref p) (upd H1 p (HO.tup [V.str s, x_2, x]))) E0) E0 := by
        intro s os
        refine sub H1 b1 h1 c _ fun H2 v t b2 h2 tv tw te => ?_
        refine sub H2 (b1.trans b2) h2 c _ fun H3 v' t' b3 h3 tv' tw' te' => ?_
        refine fin H3 s [t, t'] [v, v'] c (b1.trans (b2.trans b3)) h3 (.cons (tv.mono (h2.tup b3)) (.one tv')) os (by show 2 ≤ 3; decide) ?_
        intro y hy
        simp only [List.mem_cons, List.not_mem_nil, or_false] at hy
        rcases hy with rfl | rfl
        · exact ⟨tw, te⟩
        · exact ⟨tw', te'⟩
      have one : ∀ (s : Str) (H2 : Hp) (b2 : But x.g H1 H2) (h2 : Hand x H2), okS s = true → spExpr m [V.ref x.g, V.ref pa, V.ref ca, V.int ((d : Int) - 1)] H2 (fun x H1 =>
          [V.str s, x].length ≤ sizeLine ∧ ∀ p, H1 p = none → Q (V.ref p) (upd H1 p (HO.tup [V.str s, x]))) E0 := by
        intro s H2 b2 h2 os
        refine sub H2 (b1.trans b2) h2 c _ fun H3 v t b3 h3 tv tw te => ?_
        refine fin H3 s [t] [v] c (b1.trans (b2.trans b3)) h3 (.one tv) os (by show 1 ≤ 3; decide) ?_
        intro y hy
        simp only [List.mem_cons, List.not_mem_nil, or_false] at hy
        rw [hy]
        exact ⟨tw, te⟩
      refine ⟨rfl, ?_⟩
      by_cases c5 : V.int k = V.int 4
      · rw [if_pos c5]
        exact two "same" (by decide +kernel)
      rw [if_neg c5]
      refine ⟨rfl, ?_⟩
      by_cases c6 : V.int k = V.int 5
      · rw [if_pos c6]
        exact two "same" (by decide +kernel)
      rw [if_neg c6]
      refine ⟨k, rfl, ?_⟩
      by_cases c7 : k < 8
      · rw [if_pos c7]
        exact two "join" (by decide +kernel)
      rw [if_neg c7]
      refine ⟨rfl, ?_⟩
      by_cases c8 : V.int k = V.int 8
      · rw [if_pos c8]
        exact one "word" H1 (But.refl _ _) h1 (by decide +kernel)
      rw [if_neg c8]
      refine ⟨k, rfl, ?_⟩
      have ht : [V.str (Str.ofString "head"), V.str (Str.ofString "tail")].length ≤ sizeLine := by decide
      have pk := fun (p : Addr) (hp : H1 p = none) => one (H2 := upd H1 p (HO.lst [V.str (Str.ofString "head"), V.str (Str.ofString "tail")])) (b2 := But.new hp _) (h2 := h1.new hp _)
      obtain ⟨z, hz, oz, _⟩ := pick (ws := ["head", "tail"]) (by decide +kernel) (Int.emod_nonneg k (by decide)) (show k % 2 < 2 from Int.emod_lt_of_pos _ (by decide))
      by_cases c9 : k < 11
      · rw [if_pos c9]
        exact ⟨ht, fun p hp => ⟨k, rfl, by decide, _, SqL.of upd_same, _, hz, pk p hp z oz⟩⟩
      rw [if_neg c9]
      refine ⟨cs.length, .inl ⟨_, SqL.of hc1.1, rfl⟩, rfl, ?_⟩
      by_cases c10 : (cs.length : Int) = 0
      · rw [if_pos c10]
        exact ⟨ht, fun p hp => ⟨k, rfl, by decide, _, SqL.of upd_same, _, hz, pk p hp z oz⟩⟩
      rw [if_neg c10]
      refine ⟨cs.length, .inl ⟨_, SqL.of hc1.1, rfl⟩, x, _, rfl, by omega, h1, fun H2 j b2 h2 j0 j1 => ?_⟩
      have hc2 := hc1.but b2 nca (h1.tup b2)
      obtain ⟨cv, ev, mv⟩ := atI_of (xs := cs) j0 j1
      obtain ⟨a, nm, n, rfl, ea, onm, n3⟩ := hc2.2.2 cv (List.mem_of_getElem? mv)
      refine ⟨cs, j, rfl, SqL.of hc2.1, _, ev, a, rfl, _, SqT.of ea, ?_⟩
      refine ⟨rfl, _, _, rfl, _, _, rfl, rfl, by show 1 ≤ sizeLine; decide, fun p hp => ⟨n, rfl, by omega, by omega, fun L hL => ?_⟩⟩
      have bp : But x.g H2 (upd H2 p (.tup [V.str nm])) := But.new hp _
      have h2p := h2.new hp (.tup [V.str nm])
      refine lcj_range (n := n) (Grow x (upd H2 p (.tup [V.str nm])) L fun t => wt t ≤ eb (d - 1) ∧ ExD (d - 1) t) (.start h2p hL) ?_ ?_
      · intro i H' hi gr
        walk_at "rd"
        obtain ⟨_, _, _, b', h', _⟩ := id gr
        exact sub H' (b1.trans (b2.trans (bp.trans b'))) h' c _ fun H3 v t b3 h3 tv tw te => gr.more h2p hL (by omega) b3 h3 tv ⟨tw, te⟩
      · rintro H' ⟨ts, vs, el, b', h', eL, tl, rl⟩
        refine ⟨L, rfl, vs, .inl ⟨SqL.of eL, fun l hl => ?_⟩⟩
        have ep : H' p = some (.tup [V.str nm]) := h2p.tup b' _ _ upd_same
        have ep2 : (upd H' l (.tup vs)) p = some (.tup [V.str nm]) := Tup.new hl _ _ _ ep
        have lv := tl.len
        refine catA_of ep2 upd_same (Nat.le_of_lt (small20 (by rw [lv, List.length_singleton]; omega))) fun r H4 s4 e4 => ?_
        refine q _ _ (.t (.w nm :: ts)) (b1.trans (b2.trans (bp.trans (b'.trans ((But.new hl _).trans s4.but))))) ((h'.new hl _).but s4) (.t e4 (.cons (.w nm) ((tl.mono (Tup.new hl _)).mono s4.tup))) ?_ ?_
        · have a1 := wtL_all (fun t ht => (rl t ht).1)
          obtain ⟨e, rfl⟩ : ∃ e, d = e + 1 := ⟨d - 1, by omega⟩
          rw [wt_t, wtL_cons, wt_ok onm, eb]
          have a2 : ts.length * eb e ≤ 3 * eb e := Nat.mul_le_mul_right _ (by omega)
          simp only [Nat.add_sub_cancel] at a1
          omega
        · obtain ⟨e, rfl⟩ : ∃ e, d = e + 1 := ⟨d - 1, by omega⟩
          exact ExD.call fun t ht => (rl t ht).2
  all_goals first | rw [if_pos c] | rw [if_pos c2]
  all_goals
    refine ⟨ps.length, .inr ⟨_, SqT.of hpa1, (List.length_map _).symm⟩, ?_⟩
    have quoted : ∀ (H2 : Hp), But x.g H H2 → Hand x H2 → spVal 3 [V.ref x.g, V.int 2] H2 (fun x H1 =>
        [V.str (Str.ofString "quote"), x].length ≤ sizeLine ∧ ∀ (p : Addr), H1 p = none → Q (V.ref p) (upd H1 p (HO.tup [V.str (Str.ofString "quote"), x]))) E0 := by
      intro H2 b2 h2
      refine ⟨x, 2, rfl, by decide, h2, fun H3 v t b3 h3 tv tw => ⟨by show 2 ≤ sizeLine; decide, fun p hp => ?_⟩⟩
      refine q _ _ (.t [.w ("quote" : Str), t]) (b2.trans (b3.trans (But.new hp _))) (h3.new hp _) (.t upd_same (.cons (.w _) (.one (tv.mono (Tup.new hp _))))) ?_ (ExD.quote d [t])
      have e := eb_pos d
      rw [wt_t, wtL_cons, wtL_cons, wtL_nil, wt_ok (show okS ("quote" : Str) = true by decide +kernel)]
      have e2 : vb 2 = 13 := rfl
      rw [e2] at tw
      omega
    by_cases c3 : 0 < (ps.length : Int)
    · rw [if_pos c3]
      refine ⟨x, 3, rfl, by decide, h1, fun H2 j b2 h2 j0 j1 => ⟨j, rfl, ?_⟩⟩
      by_cases c4 : 0 < j
      · rw [if_pos c4]
        have hpa2 := h1.tup b2 _ _ hpa1
        refine ⟨ps.length, .inr ⟨_, SqT.of hpa2, (List.length_map _).symm⟩, x, _, rfl, c3, h2, fun H3 i b3 h3 i0 i1 => ?_⟩
        obtain ⟨z, hz, oz, _⟩ := pick okp i0 i1
        refine ⟨_, i, rfl, SqT.of (h2.tup b3 _ _ hpa2), _, hz, q _ _ (.w z) (b1.trans (b2.trans b3)) h3 (.w z) ?_ (ExD.word d z)⟩
        have e := eb_pos d
        rw [wt_ok oz]
        omega
      · rw [if_neg c4]
        exact quoted H2 (b1.trans b2) h2
    · rw [if_neg c3]
      exact quoted H1 b1 h1
theorem ok_expr (T : Tx w K mg F) : ∀ m, FnOk P w K mg base CX0 (m + 5) F.f__law_expression F.d__law_expression ["_law_hand", "_law_parameters", "_law_calls", "_law_depth"] (spExpr m)
  | 0 => fn_never fun vs H Q E h => by obtain ⟨_, _, _, _, _, _, _, h, _⟩ := h; omega
  | m + 1 => ok_expr1 T (ok_expr T m)
end
end K4

namespace K4
open PySem PySem.Spec PyProof.Rows L2
local macro_rules | `(tactic| walk_at "rd") => `(tactic| simp only [tSeq, tAsg, tVar, tOp, tUn, rU, tTup, tLst, tNil, tCons, tCall, tCallS, tCB, tB, tTest, tAnd, tOr, tNot, tAndV, tOrV, tNotV, tIf, tNext, tDrop, tRet, tRetN, tIfS, tCont, tNever, tSl, tNoPart, tPart, tBM, tBM0, tM1, gName, gSub, gTup, gNil, gCons, tC, rI, rI0, rEq, rNe, rIxL, rIxT, rIxS, rSetL, rAppend, rPop, rIn, rSlS, rSlL, rCat, rIndex, rExtT, tGv, tGvL, rLn, rInK, rIsX, tRev, tXf, tDGet1, tDIn, tDNotIn, sDPut, tDNewK, WE, tFor_eq, tLc_eq, iTup, iList, iRng1, iStr, iEnumT, cx_K, cx_prog, cx_w, List.getElem?_cons_succ, List.getElem?_cons_zero, Option.some.injEq, exists_eq_left', exists_eq_left, exists_and_left, V.ref.injEq, V.int.injEq, V.str.injEq, V.bl.injEq, V.ty.injEq, List.cons.injEq, List.set_cons_zero, List.set_cons_succ, and_assoc, true_and, and_true, List.append_nil, List.map_cons, List.map_nil, Int.sub_self, reduceCtorEq, false_and, and_false, or_false, false_or, exists_false, if_true, if_false, Bool.not_true, Bool.not_false, Bool.false_eq_true, decide_eq_true_eq, Bool.not_eq_true', decide_eq_false_iff_not, Int.zero_add])
local macro_rules | `(tactic| walk_at "gv") => `(tactic| (repeat (first | exact gvl_nil | refine gvl_cons ?_ ?_ | exact gv_str | exact gv_gv | (exact gv_var (by assumption)) | refine gv_tup ?_)))
local macro_rules | `(tactic| walk_at "nx") => `(tactic| simp only [tSeq, List.set_cons_zero, List.set_cons_succ])
local macro_rules | `(tactic| walk_at "exd") => `(tactic| (repeat (first | exact ExD.word _ _ | exact ExD.quote _ _ | exact exdl_nil | refine exdl_cons ?_ ?_ | refine ExD.call ?_)))

abbrev wd (s : Str) : Tr := .w s
/-! the shared functions -/
abbrev bHas : Tr := .t [wd "if", .t [wd "same", wd "w", wd "v"], .t [wd "quote", wd "yes"], .t [wd "within", wd "w", wd "v"]]
abbrev tHas : Tr := .t [wd "has", .t [wd "w", wd "v"], bHas]
abbrev bWithin : Tr := .t [wd "if", wd "v", .t [wd "if", .t [wd "has", wd "w", .t [wd "head", wd "v"]], .t [wd "quote", wd "yes"], .t [wd "within", wd "w", .t [wd "tail", wd "v"]]], .t [wd "quote", .t []]]
abbrev tWithin : Tr := .t [wd "within", .t [wd "w", wd "v"], bWithin]
abbrev bPut : Tr := .t [wd "if", wd "l", .t [wd "join", .t [wd "head", wd "l"], .t [wd "put", wd "v", .t [wd "tail", wd "l"]]], .t [wd "join", wd "v", .t [wd "quote", .t []]]]
abbrev tPut : Tr := .t [wd "put", .t [wd "v", wd "l"], bPut]
abbrev bTurn : Tr := .t [wd "if", wd "l", .t [wd "put", .t [wd "head", wd "l"], .t [wd "turn", .t [wd "tail", wd "l"]]], .t [wd "quote", .t []]]
abbrev tTurn : Tr := .t [wd "turn", .t [wd "l"], bTurn]
def spLib : Sp := fun vs H Q _ => vs = [] ∧ ∀ (H' : Hp) (r : Addr) (v1 v2 v3 : V), Same H H' → H' r = some (.lst [v1, v2, v3]) → H r = none → TrV H' (.t [tHas, tWithin]) v1 → TrV H' (.t [tPut, tTurn]) v2 → TrV H' (.t [tPut]) v3 → Q (.ref r) H'
section
variable {P : Program} {w : World} {K : PySem.W.Frag} {mg : Str → Option Value} {base : Heap} {F : Fs}
theorem ok_lib (T : Tx w K mg F) : FnOk P w K mg base CX0 1 F.f__law_library F.d__law_library [] spLib := by
  refine T.F__law_library.ok sc_law_library (fun vs H Q E h => ?_) (fun cdv A outer s H vs Q E hr h => ?_)
  · obtain ⟨rfl, _⟩ := h
    rfl
  obtain ⟨rfl, q⟩ := h
  refine ⟨_, (pss_cons (ps_set (i := 0) sc_law_library.nd rfl (Or.inl rfl) (pe_gv (t := (.t [(.w "has"), (.t [(.w "w"), (.w "v")]), (.t [(.w "if"), (.t [(.w "same"), (.w "w"), (.w "v")]), (.t [(.w "quote"), (.w "yes")]), (.t [(.w "within"), (.w "w"), (.w "v")])])])) (pe_tup (pa_cons pe_str (pa_cons (pe_gv (t := (.t [(.w "w"), (.w "v")])) (pe_tup (pa_cons pe_str (pa_cons pe_str pa_nil))) (fun _ _ => by walk_at "gv")) (pa_cons (pe_gv (t := (.t [(.w "if"), (.t [(.w "same"), (.w "w"), (.w "v")]), (.t [(.w "quote"), (.w "yes")]), (.t [(.w "within"), (.w "w"), (.w "v")])])) (pe_tup (pa_cons pe_str (pa_cons (pe_gv (t := (.t [(.w "same"), (.w "w"), (.w "v")])) (pe_tup (pa_cons pe_str (pa_cons pe_str (pa_cons pe_str pa_nil)))) (fun _ _ => by walk_at "gv")) (pa_cons (pe_gv (t := (.t [(.w "quote"), (.w "yes")])) (pe_tup (pa_cons pe_str (pa_cons pe_str pa_nil))) (fun _ _ => by walk_at "gv")) (pa_cons (pe_gv (t := (.t [(.w "within"), (.w "w"), (.w "v")])) (pe_tup (pa_cons pe_str (pa_cons pe_str (pa_cons pe_str pa_nil)))) (fun _ _ => by walk_at "gv")) pa_nil))))) (fun _ _ => by walk_at "gv")) pa_nil)))) (fun _ _ => by walk_at "gv")))
      (pss_cons (ps_set (i := 1) sc_law_library.nd rfl (Or.inl rfl) (pe_gv (t := (.t [(.w "within"), (.t [(.w "w"), (.w "v")]), (.t [(.w "if"), (.w "v"), (.t [(.w "if"), (.t [(.w "has"), (.w "w"), (.t [(.w "head"), (.w "v")])]), (.t [(.w "quote"), (.w "yes")]), (.t [(.w "within"), (.w "w"), (.t [(.w "tail"), (.w "v")])])]), (.t [(.w "quote"), (.t [])])])])) (pe_tup (pa_cons pe_str (pa_cons (pe_gv (t := (.t [(.w "w"), (.w "v")])) (pe_tup (pa_cons pe_str (pa_cons pe_str pa_nil))) (fun _ _ => by walk_at "gv")) (pa_cons (pe_gv (t := (.t [(.w "if"), (.w "v"), (.t [(.w "if"), (.t [(.w "has"), (.w "w"), (.t [(.w "head"), (.w "v")])]), (.t [(.w "quote"), (.w "yes")]), (.t [(.w "within"), (.w "w"), (.t [(.w "tail"), (.w "v")])])]), (.t [(.w "quote"), (.t [])])])) (pe_tup (pa_cons pe_str (pa_cons pe_str (pa_cons (pe_gv (t := (.t [(.w "if"), (.t [(.w "has"), (.w "w"), (.t [(.w "head"), (.w "v")])]), (.t [(.w "quote"), (.w "yes")]), (.t [(.w "within"), (.w "w"), (.t [(.w "tail"), (.w "v")])])])) (pe_tup (pa_cons pe_str (pa_cons (pe_gv (t := (.t [(.w "has"), (.w "w"), (.t [(.w "head"), (.w "v")])])) (pe_tup (pa_cons pe_str (pa_cons pe_str (pa_cons (pe_gv (t := (.t [(.w "head"), (.w "v")])) (pe_tup (pa_cons pe_str (pa_cons pe_str pa_nil))) (fun _ _ => by walk_at "gv")) pa_nil)))) (fun _ _ => by walk_at "gv")) (pa_cons (pe_gv (t := (.t [(.w "quote"), (.w "yes")])) (pe_tup (pa_cons pe_str (pa_cons pe_str pa_nil))) (fun _ _ => by walk_at "gv")) (pa_cons (pe_gv (t := (.t [(.w "within"), (.w "w"), (.t [(.w "tail"), (.w "v")])])) (pe_tup (pa_cons pe_str (pa_cons pe_str (pa_cons (pe_gv (t := (.t [(.w "tail"), (.w "v")])) (pe_tup (pa_cons pe_str (pa_cons pe_str pa_nil))) (fun _ _ => by walk_at "gv")) pa_nil)))) (fun _ _ => by walk_at "gv")) pa_nil))))) (fun _ _ => by walk_at "gv")) (pa_cons (pe_gv (t := (.t [(.w "quote"), (.t [])])) (pe_tup (pa_cons pe_str (pa_cons (pe_gv (t := (.t [])) (pe_tup pa_nil) (fun _ _ => by walk_at "gv")) pa_nil))) (fun _ _ => by walk_at "gv")) pa_nil))))) (fun _ _ => by walk_at "gv")) pa_nil)))) (fun _ _ => by walk_at "gv")))
      (pss_cons (ps_set (i := 2) sc_law_library.nd rfl (Or.inl rfl) (pe_gv (t := (.t [(.w "put"), (.t [(.w "v"), (.w "l")]), (.t [(.w "if"), (.w "l"), (.t [(.w "join"), (.t [(.w "head"), (.w "l")]), (.t [(.w "put"), (.w "v"), (.t [(.w "tail"), (.w "l")])])]), (.t [(.w "join"), (.w "v"), (.t [(.w "quote"), (.t [])])])])])) (pe_tup (pa_cons pe_str (pa_cons (pe_gv (t := (.t [(.w "v"), (.w "l")])) (pe_tup (pa_cons pe_str (pa_cons pe_str pa_nil))) (fun _ _ => by walk_at "gv")) (pa_cons (pe_gv (t := (.t [(.w "if"), (.w "l"), (.t [(.w "join"), (.t [(.w "head"), (.w "l")]), (.t [(.w "put"), (.w "v"), (.t [(.w "tail"), (.w "l")])])]), (.t [(.w "join"), (.w "v"), (.t [(.w "quote"), (.t [])])])])) (pe_tup (pa_cons pe_str (pa_cons pe_str (pa_cons (pe_gv (t := (.t [(.w "join"), (.t [(.w "head"), (.w "l")]), (.t [(.w "put"), (.w "v"), (.t [(.w "tail"), (.w "l")])])])) (pe_tup (pa_cons pe_str (pa_cons (pe_gv (t := (.t [(.w "head"), (.w "l")])) (pe_tup (pa_cons pe_str (pa_cons pe_str pa_nil))) (fun _ _ => by walk_at "gv")) (pa_cons (pe_gv (t := (.t [(.w "put"), (.w "v"), (.t [(.w "tail"), (.w "l")])])) (pe_tup (pa_cons pe_str (pa_cons pe_str (pa_cons (pe_gv (t := (.t [(.w "tail"), (.w "l")])) (pe_tup (pa_cons pe_str (pa_cons pe_str pa_nil))) (fun _ _ => by walk_at "gv")) pa_nil)))) (fun _ _ => by walk_at "gv")) pa_nil)))) (fun _ _ => by walk_at "gv")) (pa_cons (pe_gv (t := (.t [(.w "join"), (.w "v"), (.t [(.w "quote"), (.t [])])])) (pe_tup (pa_cons pe_str (pa_cons pe_str (pa_cons (pe_gv (t := (.t [(.w "quote"), (.t [])])) (pe_tup (pa_cons pe_str (pa_cons (pe_gv (t := (.t [])) (pe_tup pa_nil) (fun _ _ => by walk_at "gv")) pa_nil))) (fun _ _ => by walk_at "gv")) pa_nil)))) (fun _ _ => by walk_at "gv")) pa_nil))))) (fun _ _ => by walk_at "gv")) pa_nil)))) (fun _ _ => by walk_at "gv")))
      (pss_cons (ps_set (i := 3) sc_law_library.nd rfl (Or.inl rfl) (pe_gv (t := (.t [(.w "turn"), (.t [(.w "l")]), (.t [(.w "if"), (.w "l"), (.t [(.w "put"), (.t [(.w "head"), (.w "l")]), (.t [(.w "turn"), (.t [(.w "tail"), (.w "l")])])]), (.t [(.w "quote"), (.t [])])])])) (pe_tup (pa_cons pe_str (pa_cons (pe_gv (t := (.t [(.w "l")])) (pe_tup (pa_cons pe_str pa_nil)) (fun _ _ => by walk_at "gv")) (pa_cons (pe_gv (t := (.t [(.w "if"), (.w "l"), (.t [(.w "put"), (.t [(.w "head"), (.w "l")]), (.t [(.w "turn"), (.t [(.w "tail"), (.w "l")])])]), (.t [(.w "quote"), (.t [])])])) (pe_tup (pa_cons pe_str (pa_cons pe_str (pa_cons (pe_gv (t := (.t [(.w "put"), (.t [(.w "head"), (.w "l")]), (.t [(.w "turn"), (.t [(.w "tail"), (.w "l")])])])) (pe_tup (pa_cons pe_str (pa_cons (pe_gv (t := (.t [(.w "head"), (.w "l")])) (pe_tup (pa_cons pe_str (pa_cons pe_str pa_nil))) (fun _ _ => by walk_at "gv")) (pa_cons (pe_gv (t := (.t [(.w "turn"), (.t [(.w "tail"), (.w "l")])])) (pe_tup (pa_cons pe_str (pa_cons (pe_gv (t := (.t [(.w "tail"), (.w "l")])) (pe_tup (pa_cons pe_str (pa_cons pe_str pa_nil))) (fun _ _ => by walk_at "gv")) pa_nil))) (fun _ _ => by walk_at "gv")) pa_nil)))) (fun _ _ => by walk_at "gv")) (pa_cons (pe_gv (t := (.t [(.w "quote"), (.t [])])) (pe_tup (pa_cons pe_str (pa_cons (pe_gv (t := (.t [])) (pe_tup pa_nil) (fun _ _ => by walk_at "gv")) pa_nil))) (fun _ _ => by walk_at "gv")) pa_nil))))) (fun _ _ => by walk_at "gv")) pa_nil)))) (fun _ _ => by walk_at "gv")))
      (pss_one (ps_ret (pe_lst (pa_cons (pe_tup (pa_cons (pv 0) (pa_cons (pv 1) pa_nil))) (pa_cons (pe_tup (pa_cons (pv 2) (pa_cons (pv 3) pa_nil))) (pa_cons (pe_tup (pa_cons (pv 2) pa_nil)) pa_nil)))))))))), ?_⟩
  rw [show start ["_law_has", "_law_within", "_law_put", "_law_turn"] [] = [none, none, none, none] from rfl]
  walk_at "nx"
  refine asg_gv (t := tHas) (by walk_at "gv") fun v1 H1 s1 t1 => ?_
  walk_at "nx"
  refine asg_gv (t := tWithin) (by walk_at "gv") fun v2 H2 s2 t2 => ?_
  walk_at "nx"
  refine asg_gv (t := tPut) (by walk_at "gv") fun v3 H3 s3 t3 => ?_
  walk_at "nx"
  refine asg_gv (t := tTurn) (by walk_at "gv") fun v4 H4 s4 t4 => ?_
  walk_at "nx"
  have u1 := ((t1.mono s2.tup).mono s3.tup).mono s4.tup
  have u2 := (t2.mono s3.tup).mono s4.tup
  have u3 := t3.mono s4.tup
  refine lst_gv (ts := [.t [tHas, tWithin], .t [tPut, tTurn], .t [tPut]]) (by walk_at "gv") (by decide) fun p vs H5 s5 e5 n5 tl => ?_
  obtain ⟨a1, r1, rfl, b1, tl⟩ := tl.cons'
  obtain ⟨a2, r2, rfl, b2, tl⟩ := tl.cons'
  obtain ⟨a3, r3, rfl, b3, tl⟩ := tl.cons'
  rw [tl.nil'] at e5
  have s := s1.trans (s2.trans (s3.trans s4))
  exact q H5 p a1 a2 a3 (s.trans s5) e5 (s.free n5) b1 b2 b3
end
end K4

namespace K4
open PySem PySem.Spec PyProof.Rows L2
local macro_rules | `(tactic| walk_at "rd") => `(tactic| simp only [tSeq, tAsg, tVar, tOp, tUn, rU, tTup, tLst, tNil, tCons, tCall, tCallS, tCB, tB, tTest, tAnd, tOr, tNot, tAndV, tOrV, tNotV, tIf, tNext, tDrop, tRet, tRetN, tIfS, tCont, tNever, tSl, tNoPart, tPart, tBM, tBM0, tM1, gName, gSub, gTup, gNil, gCons, tC, rI, rI0, rEq, rNe, rIxL, rIxT, rIxS, rSetL, rAppend, rPop, rIn, rSlS, rSlL, rCat, rIndex, rExtT, tGv, tGvL, rLn, rInK, rIsX, tRev, tXf, tDGet1, tDIn, tDNotIn, sDPut, tDNewK, WE, tFor_eq, tLc_eq, iTup, iList, iRng1, iStr, iEnumT, cx_K, cx_prog, cx_w, List.getElem?_cons_succ, List.getElem?_cons_zero, Option.some.injEq, exists_eq_left', exists_eq_left, exists_and_left, V.ref.injEq, V.int.injEq, V.str.injEq, V.bl.injEq, V.ty.injEq, List.cons.injEq, List.set_cons_zero, List.set_cons_succ, and_assoc, true_and, and_true, List.append_nil, List.map_cons, List.map_nil, Int.sub_self, reduceCtorEq, false_and, and_false, or_false, false_or, exists_false, if_true, if_false, Bool.not_true, Bool.not_false, Bool.false_eq_true, decide_eq_true_eq, Bool.not_eq_true', decide_eq_false_iff_not, Int.zero_add])
local macro_rules | `(tactic| walk_at "gv") => `(tactic| (repeat (first | exact gvl_nil | refine gvl_cons ?_ ?_ | exact gv_str | exact gv_gv | (exact gv_var (by assumption)) | refine gv_tup ?_)))
local macro_rules | `(tactic| walk_at "nx") => `(tactic| simp only [tSeq, List.set_cons_zero, List.set_cons_succ])
local macro_rules | `(tactic| walk_at "exd") => `(tactic| (repeat (first | exact ExD.word _ _ | exact ExD.quote _ _ | exact exdl_nil | refine exdl_cons ?_ ?_ | refine ExD.call ?_)))

/-- a function of a drawn program -/
def FnT (t : Tr) : Prop := ∃ (n : Str) (ps : List Tr) (b : Tr), t = .t [.w n, .t ps, b] ∧ okS n = true ∧ wt t ≤ 440 ∧ ExD 4 b ∧ ps.length ≤ 3
def ProgT (fs : List Tr) : Prop := 2 ≤ fs.length ∧ fs.length ≤ 5 ∧ ∀ f ∈ fs, FnT f
def spSpecial : Sp := fun vs H Q _ => vs = [] ∧ ∀ (H' : Hp) (r : Addr), Same H H' → H' r = some (.lst (spec.map V.str)) → Q (.ref r) H'
def spProgram : Sp := fun vs H Q _ => ∃ (x : Hd) (n : Int), vs = [.ref x.g, .int n] ∧ 0 ≤ n ∧ n ≤ 3 ∧ Hand x H ∧
  ∀ (H' : Hp) (v : V) (fs : List Tr), But x.g H H' → Hand x H' → TrV H' (.t fs) v → ProgT fs → Q v H'
theorem fn_has : FnT tHas := ⟨"has", _, bHas, rfl, by decide +kernel, by decide +kernel, by walk_at "exd", by decide⟩
theorem fn_within : FnT tWithin := ⟨"within", _, bWithin, rfl, by decide +kernel, by decide +kernel, by walk_at "exd", by decide⟩
theorem fn_put : FnT tPut := ⟨"put", _, bPut, rfl, by decide +kernel, by decide +kernel, by walk_at "exd", by decide⟩
theorem fn_turn : FnT tTurn := ⟨"turn", _, bTurn, rfl, by decide +kernel, by decide +kernel, by walk_at "exd", by decide⟩
/-- words as trees -/
def wds (l : List Str) : List Tr := l.map Tr.w
theorem wds_val {H : Hp} : ∀ l : List Str, TrL H (wds l) (l.map V.str)
  | [] => .nil
  | s :: r => .cons (.w s) (wds_val r)
theorem wds_wt : ∀ {l : List Str}, l.all okS = true → wtL (wds l) = l.length
  | [], _ => wtL_nil
  | s :: r, h => by
    simp only [List.all_cons, Bool.and_eq_true] at h
    show wtL (.w s :: wds r) = _
    rw [wtL_cons, wt_ok h.1, wds_wt h.2, List.length_cons]; omega
theorem cut_words (ws : List Str) {k : Int} (h0 : 0 ≤ k) : cutV (ws.map V.str) none (some k) = (ws.take k.toNat).map V.str := by
  rw [cutV_to _ h0, List.map_take]
theorem all_take {α : Type} {p : α → Bool} : ∀ {l : List α} (n : Nat), l.all p = true → (l.take n).all p = true
  | _, 0, _ => by rw [List.take_zero]; rfl
  | [], _ + 1, _ => rfl
  | x :: r, n + 1, h => by
    simp only [List.all_cons, Bool.and_eq_true] at h
    rw [List.take_succ_cons, List.all_cons, h.1, all_take n h.2]; rfl
def PSlots (σ : L2.St) (g : Addr) (n : Int) (am ca fa : Addr) : Prop := ∃ (u1 u2 u3 : Option V), σ = [some (V.ref g), some (V.int n), some (V.ref am), some (V.ref ca), some (V.ref fa), u1, u2, u3, none, none]
/-- what _law_program's loop has made -/
def PLists (H' : Hp) (i : Nat) (fa ca : Addr) (fm : List Tr) (am : Addr) : Prop := ∃ (fs : List Tr) (vs cs : List V), fs.length = i ∧
  H' fa = some (.lst vs) ∧ TrL H' fs vs ∧ (∀ f ∈ fs, FnT f) ∧ Calls H' ca cs ∧ cs.length ≤ 2 + i ∧ TrV H' (.t fm) (.ref am)
section
variable {P : Program} {w : World} {K : PySem.W.Frag} {mg : Str → Option Value} {base : Heap} {F : Fs}
theorem ok_special (T : Tx w K mg F) : FnOk P w K mg base CX0 1 F.f__law_special F.d__law_special [] spSpecial := by
  refine T.F__law_special.ok sc_law_special (fun vs H Q E h => ?_) (fun cdv A outer s H vs Q E hr h => ?_)
  · obtain ⟨rfl, _⟩ := h
    rfl
  obtain ⟨rfl, q⟩ := h
  refine ⟨_, (pss_one (ps_ret (pe_lst (pa_cons pe_str (pa_cons pe_str (pa_cons pe_str (pa_cons pe_str (pa_cons pe_str (pa_cons pe_str (pa_cons pe_str pa_nil)))))))))), ?_⟩
  rw [show start [] [] = [] from rfl]
  walk_at "rd"
  exact ⟨by decide, fun p hp => q _ p (same_new hp _) upd_same⟩
theorem ok_program (T : Tx w K mg F) : FnOk P w K mg base CX0 10 F.f__law_program F.d__law_program ["_law_hand", "_law_inputs"] spProgram := by
  have G__law_take := ok_take (P := P) (base := base) T
  have G__law_library := ok_lib (P := P) (base := base) T
  have G__law_expression := ok_expr (P := P) (base := base) T 4
  refine T.F__law_program.ok sc_law_program (fun vs H Q E h => ?_) (fun cdv A outer s H vs Q E hr h => ?_)
  · obtain ⟨x, n, rfl, _⟩ := h
    rfl
  obtain ⟨x, n, rfl, n0, n4, hh, q⟩ := h
  refine ⟨_, (pss_cons (ps_set (i := 2) sc_law_program.nd rfl (Or.inl rfl) (pe_ix ix_list (pe_call0 G__law_library (hr.mono (by decide)) rfl T.m__law_library T.k__law_library T.b__law_library .nil pass0) (pe_call G__law_take (hr.mono (by decide)) rfl T.m__law_take T.k__law_take T.b__law_take .nil pass0 (pa_cons (pv 0) (pa_cons pe_int pa_nil))) (fun _ _ => rfl)))
      (pss_cons (ps_setLc (i := 3) (own := [(("_law_one" : Str), 9)]) (g := gName 9) (tt := tYes) rfl sc_law_program.nd rfl rfl (sw_true rfl rfl rfl (by decide +kernel)) (pi_tup (pv 2)) (blkOk_by (N := N__law_program) (sc := defScope s__law_program) (by decide +kernel)) (fun _ _ _ _ _ => pg_name (i := 9) sc_law_program.nd rfl (Or.inl rfl)) (fun _ _ _ _ _ => pts_nil) (fun _ _ _ _ _ => (pe_tup (pa_cons (pe_ix (r := rIxT K) ix_tup (pv 9) pe_int (fun _ _ => rfl)) (pa_cons (pe_callB (r := rLn K) call_ln rfl T.z_len PySem.boot_len (pa_cons (pe_ix (r := rIxT K) ix_tup (pv 9) pe_int (fun _ _ => rfl)) pa_nil)) pa_nil)))))
      (pss_cons (ps_set (i := 4) sc_law_program.nd rfl (Or.inl rfl) (pe_lst pa_nil))
      (pss_cons (ps_for PassesOwn.never rfl (pi_range1 rfl T.z_range (pa_cons (pe_call G__law_take (hr.mono (by decide)) rfl T.m__law_take T.k__law_take T.b__law_take .nil pass0 (pa_cons (pv 0) (pa_cons pe_int pa_nil))) pa_nil)) (pg_name (i := 5) sc_law_program.nd rfl (Or.inl rfl)) (pss_cons (ps_set (i := 6) sc_law_program.nd rfl (Or.inl rfl) (pe_ix ix_list (pe_lst (pa_cons pe_str (pa_cons pe_str (pa_cons pe_str pa_nil)))) (pv 5) (fun _ _ => rfl)))
      (pss_cons (ps_set (i := 7) sc_law_program.nd rfl (Or.inl rfl) (pe_callTy call_tuple_of rfl T.z_tuple (by decide +kernel) (pa_cons (pe_slice sl_list (pe_lst (pa_cons pe_str (pa_cons pe_str (pa_cons pe_str pa_nil)))) po_none (po_some (pe_op op_add pe_int (pe_call G__law_take (hr.mono (by decide)) rfl T.m__law_take T.k__law_take T.b__law_take .nil pass0 (pa_cons (pv 0) (pa_cons pe_int pa_nil)))))) pa_nil)))
      (pss_cons (ps_expr (pe_bm PySem.F.plainAttrs_list PySem.F.slot_list_append PySem.F.type_list_append mt_append (pv 4) (pa_cons (pe_tup (pa_cons (pv 6) (pa_cons (pv 7) (pa_cons (pe_call G__law_expression (hr.mono (by decide)) rfl T.m__law_expression T.k__law_expression T.b__law_expression .nil pass0 (pa_cons (pv 0) (pa_cons (pv 7) (pa_cons (pv 3) (pa_cons pe_int pa_nil))))) pa_nil)))) pa_nil)))
      (pss_one (ps_expr (pe_bm PySem.F.plainAttrs_list PySem.F.slot_list_append PySem.F.type_list_append mt_append (pv 3) (pa_cons (pe_tup (pa_cons (pv 6) (pa_cons (pe_callB call_len rfl T.z_len PySem.boot_len (pa_cons (pv 7) pa_nil)) pa_nil))) pa_nil))))))))
      (pss_cons (ps_set (i := 7) sc_law_program.nd rfl (Or.inl rfl) (pe_callTy call_tuple_of rfl T.z_tuple (by decide +kernel) (pa_cons (pe_slice sl_list (pe_lst (pa_cons pe_str (pa_cons pe_str (pa_cons pe_str (pa_cons pe_str pa_nil))))) po_none (po_some (pv 1))) pa_nil)))
      (pss_cons (ps_set (i := 8) sc_law_program.nd rfl (Or.inl rfl) (pe_tup (pa_cons pe_str (pa_cons (pv 7) (pa_cons (pe_call G__law_expression (hr.mono (by decide)) rfl T.m__law_expression T.k__law_expression T.b__law_expression .nil pass0 (pa_cons (pv 0) (pa_cons (pv 7) (pa_cons (pv 3) (pa_cons pe_int pa_nil))))) pa_nil)))))
      (pss_cons (ps_if (pt_cmpR op_eq (pe_call G__law_take (hr.mono (by decide)) rfl T.m__law_take T.k__law_take T.b__law_take .nil pass0 (pa_cons (pv 0) (pa_cons pe_int pa_nil))) pe_int (nomark _)) (pss_one (ps_ret (pe_op op_catA (pe_op op_catA (pe_tup (pa_cons (pv 8) pa_nil)) (pv 2)) (pe_callTy call_tuple_of rfl T.z_tuple (by decide +kernel) (pa_cons (pv 4) pa_nil))))) pss_nil)
      (pss_one (ps_ret (pe_op op_catA (pe_op op_catA (pe_tup (pa_cons (pv 8) pa_nil)) (pe_callTy call_tuple_of rfl T.z_tuple (by decide +kernel) (pa_cons (pv 4) pa_nil))) (pv 2))))))))))), ?_⟩
  rw [show start ["_law_hand", "_law_inputs", "_law_more", "_law_calls", "_law_functions", "_law_k", "_law_name", "_law_parameters", "_law_main", "_law_one"] [V.ref x.g, V.int n] = [some (V.ref x.g), some (V.int n), none, none, none, none, none, none, none, none] from rfl]
  walk_at "rd"
  refine ⟨rfl, fun H1 r1 v1 v2 v3 s1 e1 n1 t1 t2 t3 => ?_⟩
  refine ⟨x, 3, rfl, by decide, hh.but s1, fun H2 k b2 h2 k0 k1 => ?_⟩
  have nr : r1 ≠ x.g := (hh.free n1).1
  have e2 : H2 r1 = some (.lst [v1, v2, v3]) := b2 _ _ nr e1
  have tp := (hh.but s1).tup b2
  obtain ⟨vm, fm, evm, tvm, lfm1, lfm2, okm⟩ : ∃ (vm : V) (fm : List Tr), atI [v1, v2, v3] k = some vm ∧ TrV H2 (.t fm) vm ∧ 1 ≤ fm.length ∧ fm.length ≤ 2 ∧ ∀ f ∈ fm, FnT f := by
    have c : k = 0 ∨ k = 1 ∨ k = 2 := by omega
    rcases c with rfl | rfl | rfl
    · refine ⟨v1, _, rfl, t1.mono tp, by decide, by decide, fun f hf => ?_⟩
      simp only [List.mem_cons, List.not_mem_nil, or_false] at hf
      rcases hf with rfl | rfl
      · exact fn_has
      · exact fn_within
    · refine ⟨v2, _, rfl, t2.mono tp, by decide, by decide, fun f hf => ?_⟩
      simp only [List.mem_cons, List.not_mem_nil, or_false] at hf
      rcases hf with rfl | rfl
      · exact fn_put
      · exact fn_turn
    · refine ⟨v3, _, rfl, t3.mono tp, by decide, by decide, fun f hf => ?_⟩
      simp only [List.mem_cons, List.not_mem_nil, or_false] at hf
      rw [hf]
      exact fn_put
  have b02 : But x.g H H2 := s1.but.trans b2
  obtain ⟨am, vsm, rfl, em, tlm⟩ := tvm.tup
  refine ⟨r1, rfl, _, k, rfl, SqL.of e2, .ref am, evm, am, rfl, ⟨_, SqT.of em⟩, fun ca hca => ?_⟩
  have nca := (h2.free hca).1
  refine lcj_tup (xs := vsm) (fun i H' => ∃ cs, cs.length = i ∧ Same H2 H' ∧ Calls H' ca cs) ?_ ?_ ?_ ?_
  · exact ⟨[], rfl, same_new hca _, upd_same, by decide, fun c h => by simp at h⟩
  · rintro i H' ⟨cs, _, s', _⟩
    exact s' _ _ em
  · rintro i v H' hv ⟨cs, el, s', e', lc, oc⟩
    walk_at "rd"
    obtain ⟨f, hf, tv⟩ := tlm.of hv
    obtain ⟨nm, ps, b, rfl, onm, _, _, l3⟩ := okm f (List.mem_of_getElem? hf)
    obtain ⟨a, us, rfl, ea, tl⟩ := (tv.mono s'.tup).tup
    obtain ⟨w1, us, rfl, q1, tl⟩ := tl.cons'
    obtain ⟨w2, us, rfl, q2, tl⟩ := tl.cons'
    obtain ⟨w3, us, rfl, q3, tl⟩ := tl.cons'
    obtain rfl := tl.nil'
    obtain ⟨a2, us2, rfl, ea2, tl2⟩ := q2.tup
    have hi : i < vsm.length := (List.getElem?_eq_some_iff.mp hv).1
    have lvm := tlm.len
    refine ⟨a, rfl, _, SqT.of ea, w1, rfl, a, rfl, _, SqT.of ea, .ref a2, rfl, ps.length, .inr ⟨_, SqT.of ea2, tl2.len.symm⟩, by show 2 ≤ sizeLine; decide, fun p hp => ?_⟩
    have npc : p ≠ ca := (ne_of_none e' hp).symm
    refine ⟨cs, by rw [upd_ne npc.symm]; exact e', small20 (by omega), cs ++ [.ref p], by rw [List.length_append, el]; rfl, (s'.trans (same_new hp _)).over hca _, upd_same, by rw [List.length_append, List.length_singleton]; omega, fun c hc => ?_⟩
    rcases List.mem_append.mp hc with h | h
    · obtain ⟨b1, nm1, k1, e1, g1, o1⟩ := oc c h
      have n1 : b1 ≠ ca := ne_of g1 e' (fun e => HO.noConfusion e)
      exact ⟨b1, nm1, k1, e1, by rw [upd_ne n1, upd_ne (ne_of_none g1 hp)]; exact g1, o1⟩
    · have e : c = .ref p := by simpa using h
      rw [e]
      exact ⟨p, nm, ps.length, rfl, by rw [upd_ne npc, upd_same, q1.word], onm, l3⟩
  rintro H3 ⟨cs3, l3, s3, c3⟩
  refine ⟨by decide, fun fa hfa => ?_⟩
  have h3 := h2.but s3
  refine ⟨x, 3, rfl, by decide, h3.new hfa _, fun H4 j b4 h4 j0 j1 => ⟨j, rfl, by omega, by omega, ?_⟩⟩
  have nfa := (h3.free hfa).1
  have ncf : ca ≠ fa := by
    intro e
    have z := c3.1
    rw [e, hfa] at z
    cases z
  have b03 : But x.g H H3 := b02.trans s3.but
  have hfree : H fa = none := h3.gone b03 hfa
  have hcree : H ca = none := h2.gone b02 hca
  refine loop_range (n := j.toNat) (fun i σ H' => PSlots σ x.g n am ca fa ∧ But x.g H H' ∧ Hand x H' ∧ PLists H' i fa ca fm am) ?_ ?_ ?_
  · have tp3 : Tup H3 H4 := (Tup.new hfa _).trans ((h3.new hfa _).tup b4)
    refine ⟨⟨none, none, none, rfl⟩, b03.trans ((But.new hfa _).trans b4), h4, [], [], cs3, rfl, b4 _ _ nfa upd_same, .nil, fun f h => by simp at h, ?_, by have := tlm.len; omega, .t (tp3 _ _ (s3 _ _ em)) ((tlm.mono s3.tup).mono tp3)⟩
    refine (c3.but (g := x.g) (But.new hfa _) nca (Tup.new hfa _)).but b4 nca ((h3.new hfa _).tup b4)
  · rintro i σ H' hi ⟨⟨u1, u2, u3, rfl⟩, b', h', fs, vs, cs, el, efa, tl, okf, hc, lc, tm⟩
    walk_at "rd"
    obtain ⟨nm, hz, onm, _⟩ := pick (ws := ["later", "q", "zz"]) (by decide +kernel) (show (0 : Int) ≤ i by omega) (show (i : Int) < 3 by omega)
    refine ⟨by decide, fun p1 hp1 => ⟨_, SqL.of upd_same, _, hz, by decide, fun p2 hp2 => ?_⟩⟩
    generalize eA : upd H' p1 (HO.lst [V.str (Str.ofString "later"), V.str (Str.ofString "q"), V.str (Str.ofString "zz")]) = HA at hp2 ⊢
    have sA : Same H' HA := by rw [← eA]; exact same_new hp1 _
    have nc2 : p2 ≠ x.g := ((h'.but sA).free hp2).1
    refine ⟨x, 3, rfl, by decide, (h'.but sA).new hp2 _, fun HB j2 bB hB j20 j21 => ⟨j2, rfl, _, SqL.of (bB _ _ nc2 upd_same), fun p3 hp3 => ?_⟩⟩
    have bHB : But x.g H' HB := sA.but.trans ((But.new hp2 _).trans bB)
    have ecut : cutV [V.str (Str.ofString "a"), V.str (Str.ofString "b"), V.str (Str.ofString "c")] none (some (1 + j2)) = (List.take (1 + j2).toNat (["a", "b", "c"] : List Str)).map V.str := cut_words ["a", "b", "c"] (by omega)
    rw [ecut]
    generalize eps : List.take (1 + j2).toNat (["a", "b", "c"] : List Str) = ps
    have ops : ps.all okS = true := by rw [← eps]; exact all_take _ (by decide +kernel)
    have lps : ps.length ≤ 3 := by rw [← eps, List.length_take]; exact Nat.min_le_right _ _
    refine ⟨_, .inl ⟨SqL.of upd_same, fun l hl => ?_⟩⟩
    generalize eC : upd HB p3 (HO.lst (ps.map V.str)) = HC at hl ⊢
    have sC : Same HB HC := by rw [← eC]; exact same_new hp3 _
    generalize eD : upd HC l (HO.tup (ps.map V.str)) = HD
    have el2 : HD l = some (.tup (ps.map V.str)) := by rw [← eD]; exact upd_same
    have sD : Same HB HD := sC.trans (by rw [← eD]; exact same_new hl _)
    have bD : But x.g H' HD := bHB.trans sD.but
    have hD := hB.but sD
    have tD : Tup H' HD := h'.tup bD
    have eDfa : HD fa = some (.lst vs) := bD _ _ nfa efa
    refine ⟨.inl ⟨rfl, _, SqL.of eDfa⟩, x, l, ca, 2, ps, cs, rfl, by decide, hD, el2, ops, by omega, nca, hc.but bD nca tD, fun HE v t bE hE tv tw te => ⟨by show 3 ≤ sizeLine; decide, fun p5 hp5 => ?_⟩⟩
    have tE : Tup HD HE := hD.tup bE
    have eEfa : HE fa = some (.lst vs) := bE _ _ nfa eDfa
    have tlE : TrL HE fs vs := (tl.mono tD).mono tE
    have cE := (hc.but bD nca tD).but bE nca tE
    have elE : HE l = some (.tup (ps.map V.str)) := tE _ _ el2
    have n5fa : fa ≠ p5 := ne_of_none eEfa hp5
    refine ⟨vs, by rw [upd_ne n5fa]; exact eEfa, small20 (by have := tl.len; omega), ?_⟩
    generalize eF : upd HE p5 (HO.tup [V.str nm, V.ref l, v]) = HF
    have sF : Same HE HF := by rw [← eF]; exact same_new hp5 _
    have e5 : HF p5 = some (.tup [V.str nm, V.ref l, v]) := by rw [← eF]; exact upd_same
    have eFfa := sF _ _ eEfa
    have tG : Tup HE (upd HF fa (.lst (vs ++ [.ref p5]))) := sF.tup.trans (Tup.lst eFfa _)
    have eFca := sF _ _ cE.1
    have eGca : (upd HF fa (.lst (vs ++ [.ref p5]))) ca = some (.lst cs) := by rw [upd_ne ncf]; exact eFca
    refine ⟨.inl ⟨rfl, _, SqL.of eGca⟩, ps.length, .inr ⟨_, SqT.of (tG _ _ elE), (List.length_map _).symm⟩, by show 2 ≤ sizeLine; decide, fun p6 hp6 => ?_⟩
    have n6ca : ca ≠ p6 := ne_of_none eGca hp6
    have n6fa : fa ≠ p6 := ne_of_none upd_same hp6
    refine ⟨cs, by rw [upd_ne n6ca]; exact eGca, small20 (by omega), ?_⟩
    -- the turn's end
    have bF : But x.g H HF := b'.trans (bD.trans (bE.trans sF.but))
    have hF := hE.but sF
    have sIn : H p6 = none := by
      cases e : H p6 with
      | none => rfl
      | some o =>
        have z6 : p6 ≠ x.g := by
          intro e6
          obtain ⟨_, _, pp, _, hg⟩ := hF
          rw [e6, upd_ne nfa.symm, hg] at hp6
          cases hp6
        have z7 := bF _ _ z6 e
        rw [upd_ne n6fa.symm, z7] at hp6
        cases hp6
    have hG : Hand x (upd HF fa (.lst (vs ++ [.ref p5]))) := hh.over hfree hF _
    have bG : But x.g H (upd HF fa (.lst (vs ++ [.ref p5]))) := bF.over hfree _
    have hI := hG.new hp6 (.tup [V.str nm, V.int ps.length])
    have bI : But x.g H (upd (upd HF fa (.lst (vs ++ [.ref p5]))) p6 (.tup [V.str nm, V.int ps.length])) := bG.trans (But.new hp6 _)
    have tI : Tup HE (upd (upd HF fa (.lst (vs ++ [.ref p5]))) p6 (.tup [V.str nm, V.int ps.length])) := tG.trans (Tup.new hp6 _)
    have eIca : (upd (upd HF fa (.lst (vs ++ [.ref p5]))) p6 (.tup [V.str nm, V.int ps.length])) ca = some (.lst cs) := by rw [upd_ne n6ca]; exact eGca
    have tJ : Tup HE (upd (upd (upd HF fa (.lst (vs ++ [.ref p5]))) p6 (.tup [V.str nm, V.int ps.length])) ca (.lst (cs ++ [.ref p6]))) := tI.trans (Tup.lst eIca _)
    have e5J : (upd (upd (upd HF fa (.lst (vs ++ [.ref p5]))) p6 (.tup [V.str nm, V.int ps.length])) ca (.lst (cs ++ [.ref p6]))) p5 = some (.tup [V.str nm, V.ref l, v]) := by
      have a1 : p5 ≠ fa := n5fa.symm
      have a2 : (upd HF fa (.lst (vs ++ [.ref p5]))) p5 = some (.tup [V.str nm, V.ref l, v]) := by rw [upd_ne a1]; exact e5
      have a3 := Tup.new hp6 (.tup [V.str nm, V.int ps.length]) _ _ a2
      exact Tup.lst eIca _ _ _ a3
    have twF : wt (.t [.w nm, .t (wds ps), t]) ≤ 440 := by
      have e1 : eb 2 = 143 := rfl
      rw [wt_t, wtL_cons, wtL_cons, wtL_cons, wtL_nil, wt_ok onm, wt_t, wds_wt ops]
      omega
    refine ⟨⟨_, _, _, rfl⟩, bI.over hcree _, hh.over hcree hI _, fs ++ [.t [.w nm, .t (wds ps), t]], vs ++ [.ref p5], cs ++ [.ref p6], by rw [List.length_append, el]; rfl, ?_, ?_, ?_, ⟨upd_same, ?_, ?_⟩, ?_, ?_⟩
    · rw [upd_ne ncf.symm, upd_ne n6fa, upd_same]
    · exact (tlE.mono tJ).append (.one (.t e5J (.cons (.w nm) (.cons (.t (tJ _ _ elE) (wds_val ps)) (.one (tv.mono tJ))))))
    · intro f hf
      rcases List.mem_append.mp hf with z | z
      · exact okf f z
      · have e : f = .t [.w nm, .t (wds ps), t] := by simpa using z
        rw [e]
        exact ⟨nm, wds ps, t, rfl, onm, twF, te.mono (by decide), by rw [wds, List.length_map]; exact lps⟩
    · rw [List.length_append, List.length_singleton]; omega
    · intro c hcc
      rcases List.mem_append.mp hcc with z | z
      · obtain ⟨b1, nm1, k1, e1, g1, o1⟩ := cE.2.2 c z
        exact ⟨b1, nm1, k1, e1, tJ _ _ g1, o1⟩
      · have e : c = .ref p6 := by simpa using z
        rw [e]
        exact ⟨p6, nm, ps.length, rfl, by rw [upd_ne n6ca.symm, upd_same], onm, lps⟩
    · rw [List.length_append, List.length_singleton]; omega
    · exact ((tm.mono tD).mono tE).mono tJ
  · rintro σ H' ⟨⟨u1, u2, u3, rfl⟩, b', h', fs, vs, cs, el, efa, tl, okf, hc, lc, tm⟩
    walk_at "rd"
    refine ⟨by decide, fun p1 hp1 => ⟨_, SqL.of upd_same, fun p2 hp2 => ⟨_, .inl ⟨SqL.of upd_same, fun l hl => ?_⟩⟩⟩⟩
    have ecut : cutV [V.str (Str.ofString "x"), V.str (Str.ofString "y"), V.str (Str.ofString "w"), V.str (Str.ofString "v")] none (some n) = (List.take n.toNat (["x", "y", "w", "v"] : List Str)).map V.str := cut_words ["x", "y", "w", "v"] n0
    rw [ecut] at hl ⊢
    have ops : (List.take n.toNat (["x", "y", "w", "v"] : List Str)).all okS = true := all_take _ (by decide +kernel)
    have lps : (List.take n.toNat (["x", "y", "w", "v"] : List Str)).length ≤ 3 := by rw [List.length_take]; omega
    generalize List.take n.toNat (["x", "y", "w", "v"] : List Str) = ps at hl ops lps ⊢
    generalize eA : upd H' p1 (HO.lst [V.str (Str.ofString "x"), V.str (Str.ofString "y"), V.str (Str.ofString "w"), V.str (Str.ofString "v")]) = HA at hp2 hl ⊢
    have sA : Same H' HA := by rw [← eA]; exact same_new hp1 _
    generalize eB : upd HA p2 (HO.lst (ps.map V.str)) = HB at hl ⊢
    have sB : Same H' HB := sA.trans (by rw [← eB]; exact same_new hp2 _)
    generalize eC : upd HB l (HO.tup (ps.map V.str)) = HC
    have sC : Same H' HC := sB.trans (by rw [← eC]; exact same_new hl _)
    have elC : HC l = some (.tup (ps.map V.str)) := by rw [← eC]; exact upd_same
    have hC := h'.but sC
    refine ⟨x, l, ca, 3, ps, cs, rfl, by decide, hC, elC, ops, by omega, nca, hc.but sC.but nca sC.tup, fun HD v t bD hD tv tw te => ⟨by show 3 ≤ sizeLine; decide, fun p hp => ?_⟩⟩
    have tD : Tup HC HD := hC.tup bD
    generalize eE : upd HD p (HO.tup [V.str (Str.ofString "main"), V.ref l, v]) = HE
    have sE : Same HD HE := by rw [← eE]; exact same_new hp _
    have tE : Tup HC HE := tD.trans sE.tup
    have epE : HE p = some (.tup [V.str (Str.ofString "main"), V.ref l, v]) := by rw [← eE]; exact upd_same
    refine ⟨x, 4, rfl, by decide, hD.but sE, fun HF k4 bF hF k40 k41 => ⟨rfl, ?_⟩⟩
    have tF : Tup HC HF := tE.trans ((hD.but sE).tup bF)
    have bHF : But x.g H' HF := sC.but.trans (bD.trans (sE.but.trans bF))
    have okps := ops
    have tmain : TrV HF (.t [.w ("main" : Str), .t (wds ps), t]) (.ref p) := .t ((hD.but sE).tup bF _ _ epE) (.cons (.w _) (.cons (.t (tF _ _ elC) (wds_val ps)) (.one ((tv.mono sE.tup).mono ((hD.but sE).tup bF)))))
    have okmain : FnT (.t [.w ("main" : Str), .t (wds ps), t]) := by
      refine ⟨"main", wds ps, t, rfl, by decide +kernel, ?_, te.mono (by decide), by rw [wds, List.length_map]; exact lps⟩
      have e1 : eb 3 = 431 := rfl
      rw [wt_t, wtL_cons, wtL_cons, wtL_cons, wtL_nil, wt_ok (show okS ("main" : Str) = true by decide +kernel), wt_t, wds_wt ops]
      omega
    have efF : HF fa = some (.lst vs) := bHF _ _ nfa efa
    have tlF : TrL HF fs vs := (tl.mono sC.tup).mono tF
    have tmF : TrV HF (.t fm) (.ref am) := (tm.mono sC.tup).mono tF
    obtain ⟨am', vsF, eam, emF, tlmF⟩ := tmF.tup
    cases eam
    have lvs := tlF.len
    have lvm := tlmF.len
    generalize (Tr.t [.w ("main" : Str), .t (wds ps), t]) = fmain at tmain okmain
    have okall : ∀ f ∈ fmain :: (fm ++ fs), FnT f := by
      intro f hf
      rcases List.mem_cons.mp hf with z | z
      · rw [z]; exact okmain
      · rcases List.mem_append.mp z with z | z
        · exact okm f z
        · exact okf f z
    by_cases c4 : V.int k4 = V.int 0
    · rw [if_pos c4]
      refine ⟨by show 1 ≤ sizeLine; decide, fun q1 hq1 => ?_⟩
      refine catA_of upd_same (Tup.new hq1 _ _ _ emF) (Nat.le_of_lt (small20 (by rw [List.length_singleton]; omega))) fun r1 HG sG eG => ?_
      have sFG : Same HF HG := (same_new hq1 _).trans sG
      refine ⟨_, .inl ⟨SqL.of (sFG _ _ efF), fun l2 hl2 => ?_⟩⟩
      refine catA_of (Tup.new hl2 _ _ _ eG) upd_same (Nat.le_of_lt (small20 (by simp only [List.length_append, List.length_singleton]; omega))) fun r2 HI sI eI => ?_
      have sFI : Same HF HI := sFG.trans ((same_new hl2 _).trans sI)
      refine q HI _ (fmain :: (fm ++ fs)) (b'.trans (bHF.trans sFI.but)) (hF.but sFI) (.t eI ?_) ⟨by rw [List.length_cons, List.length_append]; omega, by rw [List.length_cons, List.length_append]; omega, okall⟩
      exact (TrL.cons (tmain.mono sFI.tup) (tlmF.mono sFI.tup)).append (tlF.mono sFI.tup)
    · rw [if_neg c4]
      refine ⟨by show 1 ≤ sizeLine; decide, fun q1 hq1 => ?_⟩
      have s1 : Same HF (upd HF q1 (.tup [V.ref p])) := same_new hq1 _
      refine ⟨_, .inl ⟨SqL.of (s1 _ _ efF), fun l2 hl2 => ?_⟩⟩
      refine catA_of (Tup.new hl2 _ _ _ upd_same) upd_same (Nat.le_of_lt (small20 (by rw [List.length_singleton]; omega))) fun r1 HG sG eG => ?_
      have sFG : Same HF HG := s1.trans ((same_new hl2 _).trans sG)
      refine catA_of eG (sFG.tup _ _ emF) (Nat.le_of_lt (small20 (by simp only [List.length_append, List.length_singleton]; omega))) fun r2 HI sI eI => ?_
      have sFI : Same HF HI := sFG.trans sI
      refine q HI _ (fmain :: (fs ++ fm)) (b'.trans (bHF.trans sFI.but)) (hF.but sFI) (.t eI ?_) ⟨by rw [List.length_cons, List.length_append]; omega, by rw [List.length_cons, List.length_append]; omega, ?_⟩
      · exact (TrL.cons (tmain.mono sFI.tup) (tlF.mono sFI.tup)).append (tlmF.mono sFI.tup)
      · intro f hf
        refine okall f ?_
        rcases List.mem_cons.mp hf with z | z
        · rw [z]; exact .head _
        · refine .tail _ ?_
          rcases List.mem_append.mp z with z | z
          · exact List.mem_append.mpr (.inr z)
          · exact List.mem_append.mpr (.inl z)
end
end K4

namespace K4
open PySem PySem.Spec PyProof.Rows L2
local macro_rules | `(tactic| walk_at "rd") => `(tactic| simp only [tSeq, tAsg, tVar, tOp, tUn, rU, tTup, tLst, tNil, tCons, tCall, tCallS, tCB, tB, tTest, tAnd, tOr, tNot, tAndV, tOrV, tNotV, tIf, tNext, tDrop, tRet, tRetN, tIfS, tCont, tNever, tSl, tNoPart, tPart, tBM, tBM0, tM1, gName, gSub, gTup, gNil, gCons, tC, rI, rI0, rEq, rNe, rIxL, rIxT, rIxS, rSetL, rAppend, rPop, rIn, rSlS, rSlL, rCat, rIndex, rExtT, tGv, tGvL, rLn, rInK, rIsX, tRev, tXf, tDGet1, tDIn, tDNotIn, sDPut, tDNewK, WE, tFor_eq, tLc_eq, iTup, iList, iRng1, iStr, iEnumT, cx_K, cx_prog, cx_w, List.getElem?_cons_succ, List.getElem?_cons_zero, Option.some.injEq, exists_eq_left', exists_eq_left, exists_and_left, V.ref.injEq, V.int.injEq, V.str.injEq, V.bl.injEq, V.ty.injEq, List.cons.injEq, List.set_cons_zero, List.set_cons_succ, and_assoc, true_and, and_true, List.append_nil, List.map_cons, List.map_nil, Int.sub_self, reduceCtorEq, false_and, and_false, or_false, false_or, exists_false, if_true, if_false, Bool.not_true, Bool.not_false, Bool.false_eq_true, decide_eq_true_eq, Bool.not_eq_true', decide_eq_false_iff_not, Int.zero_add])
local macro_rules | `(tactic| walk_at "gv") => `(tactic| (repeat (first | exact gvl_nil | refine gvl_cons ?_ ?_ | exact gv_str | exact gv_gv | (exact gv_var (by assumption)) | refine gv_tup ?_)))
local macro_rules | `(tactic| walk_at "nx") => `(tactic| simp only [tSeq, List.set_cons_zero, List.set_cons_succ])
local macro_rules | `(tactic| walk_at "exd") => `(tactic| (repeat (first | exact ExD.word _ _ | exact ExD.quote _ _ | exact exdl_nil | refine exdl_cons ?_ ?_ | refine ExD.call ?_)))

/-- what a comprehension over r has made that leaves all else -/
def CInv (H2 : Hp) (L : Addr) (r : List Tr) (i : Nat) (H' : Hp) : Prop := ∃ ts vs, ts.length = i ∧ Same H2 H' ∧ H' L = some (.lst vs) ∧ TrL H' ts vs ∧ wtL ts ≤ wtL (r.take i)
def spCalled (m : Nat) : Sp := fun vs H Q _ => ∃ (v : V) (t : Tr) (n : Nat) (oa na : Addr) (old new : List Str), vs = [v, .ref oa, .ref na] ∧ TrV H t v ∧ ExD n t ∧ n < m ∧ wt t ≤ 1000 ∧ H oa = some (.lst (old.map V.str)) ∧ H na = some (.lst (new.map V.str)) ∧
  old.length = new.length ∧ old.length ≤ 10 ∧ new.all okS = true ∧ ∀ (H' : Hp) (v' : V) (t' : Tr), Same H H' → TrV H' t' v' → wt t' ≤ wt t → Q v' H'
section
variable {P : Program} {w : World} {K : PySem.W.Frag} {mg : Str → Option Value} {base : Heap} {F : Fs}
theorem ok_called1 (T : Tx w K mg F) {m : Nat} (G__law_called : FnOk P w K mg base CX0 (m + 1) F.f__law_called F.d__law_called ["_law_value_here", "_law_old", "_law_new"] (spCalled m)) :
    FnOk P w K mg base CX0 (m + 2) F.f__law_called F.d__law_called ["_law_value_here", "_law_old", "_law_new"] (spCalled (m + 1)) := by
  refine T.F__law_called.ok sc_law_called (fun vs H Q E h => ?_) (fun cdv A outer s H vs Q E hr h => ?_)
  · obtain ⟨v, t, n, oa, na, old, new, rfl, _⟩ := h
    rfl
  obtain ⟨v, t, n, oa, na, old, new, rfl, tv, te, hn, tw, eo, en, ll, l10, okn, q⟩ := h
  have hr1 := hr
  refine ⟨_, (pss_cons (ps_if (pt_val (pe_callB call_isi rfl T.z_isinstance (by decide +kernel) (pa_cons (pv 0) (pa_cons (pe_bltn (v := .ty "str") (u := .type "str") rfl T.z_str (by decide +kernel) rfl) pa_nil)))) (pss_one (ps_ret (pv 0))) pss_nil)
      (pss_cons (ps_if (PW.pt (pw_and (pt_cmpR op_gt (pe_callB call_len rfl T.z_len PySem.boot_len (pa_cons (pv 0) pa_nil)) pe_int (nomark _)) (pw_and1 (pt_cmpR op_eq (pe_ix ix_tup (pv 0) pe_int (fun _ _ => rfl)) pe_str (nomark _))))) (pss_one (ps_ret (pv 0))) pss_nil)
      (pss_cons (ps_set (i := 3) sc_law_called.nd rfl (Or.inl rfl) (pe_callTy call_tuple_of rfl T.z_tuple (by decide +kernel) (pa_cons (pe_lc (own := [(("_law_one" : Str), 5)]) (g := gName 5) (tt := tYes) rfl sc_law_called.nd (pi_tup (pe_slice sl_tupA (pv 0) (po_some pe_int) po_none)) (blkOk_by (N := N__law_called) (sc := defScope s__law_called) (by decide +kernel)) (fun _ _ _ _ _ => pg_name (i := 5) sc_law_called.nd rfl (Or.inl rfl)) (fun _ _ _ _ _ => pts_nil) (fun _ _ _ _ _ => (pe_call G__law_called hr1 rfl T.m__law_called T.k__law_called T.b__law_called .nil pass0 (pa_cons (pv 5) (pa_cons (pv 1) (pa_cons (pv 2) pa_nil)))))) pa_nil)))
      (pss_cons (ps_for PassesOwn.never rfl (pi_range1 rfl T.z_range (pa_cons (pe_callB call_len rfl T.z_len PySem.boot_len (pa_cons (pv 1) pa_nil)) pa_nil)) (pg_name (i := 4) sc_law_called.nd rfl (Or.inl rfl)) (pss_one (ps_if (PW.pt (pw_and (pt_cmpR op_gt (pe_callB call_len rfl T.z_len PySem.boot_len (pa_cons (pv 0) pa_nil)) pe_int (nomark _)) (pw_and1 (pt_cmpR op_eq (pe_ix ix_tup (pv 0) pe_int (fun _ _ => rfl)) (pe_ix ix_list (pv 1) (pv 4) (fun _ _ => rfl)) (nomark _))))) (pss_one (ps_ret (pe_op op_catA (pe_tup (pa_cons (pe_ix ix_list (pv 2) (pv 4) (fun _ _ => rfl)) pa_nil)) (pv 3)))) pss_nil)))
      (pss_one (ps_ret (pe_op op_catA (pe_slice sl_tupA (pv 0) po_none (po_some pe_int)) (pv 3)))))))), ?_⟩
  rw [show start ["_law_value_here", "_law_old", "_law_new", "_law_parts", "_law_k", "_law_one"] [v, V.ref oa, V.ref na] = [some v, some (V.ref oa), some (V.ref na), none, none, none] from rfl]
  walk_at "rd"
  cases t with
  | w z =>
    obtain rfl := tv.word
    refine isi_w ?_
    walk_at "rd"
    exact q H _ (.w z) (Same.refl H) (.w z) (Nat.le_refl _)
  | t l =>
    obtain ⟨a, us, rfl, ea, tl⟩ := tv.tup
    refine isi_t ea ?_
    walk_at "rd"
    have shape : ∃ z r, l = .w z :: r ∧ (z = ("quote" : Str) ∨ (0 < n ∧ ∀ y ∈ r, ExD (n - 1) y)) := by
      cases n with
      | zero =>
        rcases te with ⟨s, e⟩ | ⟨r, e⟩
        · cases e
        · cases e
          exact ⟨_, r, rfl, .inl rfl⟩
      | succ n =>
        rcases te with ⟨s, e⟩ | ⟨r, e⟩ | ⟨s, r, e, h⟩
        · cases e
        · cases e
          exact ⟨_, r, rfl, .inl rfl⟩
        · cases e
          exact ⟨s, r, rfl, .inr ⟨by omega, h⟩⟩
    obtain ⟨z, r, rfl, hz⟩ := shape
    obtain ⟨v0, us, rfl, tv0, tlr⟩ := tl.cons'
    obtain rfl := tv0.word
    have lus := tlr.len
    have wr : wtL r ≤ 1000 := by rw [wt_t, wtL_cons] at tw; omega
    have wl := wtL_len r
    refine ⟨_, lenT ea, ?_⟩
    rw [if_pos (show (0 : Int) < ((V.str z :: us).length : Nat) by rw [List.length_cons]; omega)]
    refine ⟨_, SqT.of ea, V.str z, atI_0, rfl, ?_⟩
    by_cases c : V.str z = V.str (Str.ofString "quote")
    · rw [if_pos c]
      exact q H _ _ (Same.refl H) tv (Nat.le_refl _)
    rw [if_neg c]
    obtain ⟨n0, hr0⟩ : 0 < n ∧ ∀ y ∈ r, ExD (n - 1) y := by
      rcases hz with h | h
      · exact absurd (by rw [h]) c
      · exact h
    refine slA_of ea fun a1 H1 s1 e1 => ?_
    rw [cutV_from _ (by decide)] at e1
    have e1' : H1 a1 = some (.tup us) := e1
    refine ⟨a1, rfl, ⟨_, SqT.of e1'⟩, fun L hL => ?_⟩
    have tlr1 := tlr.mono s1.tup
    refine lcj_tup (xs := us) (CInv H1 L r) ?_ ?_ ?_ ?_
    · exact ⟨[], [], rfl, same_new hL _, upd_same, .nil, by rw [wtL_nil]; omega⟩
    · rintro i H' ⟨ts, vs, _, s', _⟩
      exact s' _ _ e1'
    · rintro i v H' hv ⟨ts, vs, el, s', eL, tls, wts⟩
      walk_at "rd"
      obtain ⟨t, ht, tv1⟩ := tlr1.of hv
      have sH' : Same H H' := s1.trans s'
      refine ⟨v, t, n - 1, oa, na, old, new, rfl, tv1.mono s'.tup, hr0 t (List.mem_of_getElem? ht), by omega, by have := wtL_get ht; omega, sH' _ _ eo, sH' _ _ en, ll, l10, okn, fun H2 v' t' s2 tv2 tw2 => ?_⟩
      have e2 := s2 _ _ eL
      have lv := tls.len
      have hi : i < us.length := (List.getElem?_eq_some_iff.mp hv).1
      refine ⟨vs, e2, small20 (by omega), ts ++ [t'], vs ++ [v'], by rw [List.length_append, el]; rfl, (s'.trans s2).over hL _, upd_same, ((tls.mono s2.tup).mono (Tup.lst e2 _)).append (.one (tv2.mono (Tup.lst e2 _))), ?_⟩
      have wa := wtL_at ht
      have e3 : r.take (i + 1) = r.take i ++ [t] := by rw [List.take_succ, ht]; rfl
      rw [wtL_append, e3, wtL_append, wtL_cons, wtL_nil, wtL_cons, wtL_nil]
      omega
    rintro H2 ⟨ts, vs, el, s2, eL, tls, wts⟩
    have lv := tls.len
    have wts' : wtL ts ≤ wtL r := Nat.le_trans wts (wtL_take r us.length)
    refine ⟨L, rfl, vs, .inl ⟨SqL.of eL, fun l hl => ?_⟩⟩
    have s2' : Same H (upd H2 l (.tup vs)) := (s1.trans s2).trans (same_new hl _)
    have eo2 := s2' _ _ eo
    have en2 := s2' _ _ en
    have ea2 := s2' _ _ ea
    have tls2 : TrL (upd H2 l (.tup vs)) ts vs := tls.mono (Tup.new hl _)
    have el2 : (upd H2 l (.tup vs)) l = some (.tup vs) := upd_same
    generalize upd H2 l (.tup vs) = H3 at s2' eo2 en2 ea2 tls2 el2 ⊢
    refine ⟨_, lenL eo2, by omega, by rw [List.length_map]; omega, ?_⟩
    refine loop_range (n := ((old.map V.str).length : Int).toNat) (fun i σ H' => (∃ u, σ = [some (V.ref a), some (V.ref oa), some (V.ref na), some (V.ref l), u, none]) ∧ H' = H3) ⟨⟨_, rfl⟩, rfl⟩ ?_ ?_
    · rintro i σ H' hi ⟨⟨u, rfl⟩, rfl⟩
      walk_at "rd"
      have hi' : i < old.length := by simpa using hi
      refine ⟨_, lenT ea2, ?_⟩
      rw [if_pos (show (0 : Int) < ((V.str z :: us).length : Nat) by rw [List.length_cons]; omega)]
      have eoi : old[i]? = some old[i] := List.getElem?_eq_getElem hi'
      have hin : i < new.length := by omega
      have eni : new[i]? = some new[i] := List.getElem?_eq_getElem hin
      refine ⟨_, SqT.of ea2, V.str z, atI_0, _, SqL.of eo2, V.str old[i], atI_nat (by rw [List.getElem?_map, eoi]; rfl), rfl, ?_⟩
      by_cases c2 : V.str z = V.str old[i]
      · rw [if_pos c2]
        refine ⟨_, SqL.of en2, V.str new[i], atI_nat (by rw [List.getElem?_map, eni]; rfl), by show 1 ≤ sizeLine; decide, fun p hp => ?_⟩
        refine catA_of upd_same (Tup.new hp _ _ _ el2) (Nat.le_of_lt (small20 (by rw [List.length_singleton]; omega))) fun r1 H4 s4 e4 => ?_
        have okn1 : okS new[i] = true := List.all_eq_true.mp okn _ (List.getElem_mem hin)
        refine q H4 _ (.t (.w new[i] :: ts)) (s2'.trans ((same_new hp _).trans s4)) (.t e4 (.cons (.w _) ((tls2.mono (Tup.new hp _)).mono s4.tup))) ?_
        have := wt_pos (.w z)
        rw [wt_t, wt_t, wtL_cons, wtL_cons, wt_ok okn1]
        omega
      · rw [if_neg c2]
        exact ⟨_, rfl⟩
    · rintro σ H' ⟨⟨u, rfl⟩, rfl⟩
      walk_at "rd"
      refine slA_of ea2 fun a4 H4 s4 e4 => ?_
      rw [cutV_to _ (by decide)] at e4
      have e4' : H4 a4 = some (.tup [V.str z]) := e4
      refine catA_of e4' (s4 _ _ el2) (Nat.le_of_lt (small20 (by rw [List.length_singleton]; omega))) fun r1 H5 s5 e5 => ?_
      refine q H5 _ (.t (.w z :: ts)) (s2'.trans (s4.trans s5)) (.t e5 (.cons (.w _) ((tls2.mono s4.tup).mono s5.tup))) ?_
      rw [wt_t, wt_t, wtL_cons, wtL_cons]
      omega
theorem ok_called (T : Tx w K mg F) : ∀ m, FnOk P w K mg base CX0 (m + 1) F.f__law_called F.d__law_called ["_law_value_here", "_law_old", "_law_new"] (spCalled m)
  | 0 => fn_never fun vs H Q E h => by obtain ⟨_, _, n, _, _, _, _, _, _, _, h, _⟩ := h; omega
  | m + 1 => ok_called1 T (ok_called T m)
end
end K4

namespace K4
open PySem PySem.Spec PyProof.Rows L2
local macro_rules | `(tactic| walk_at "rd") => `(tactic| simp only [tSeq, tAsg, tVar, tOp, tUn, rU, tTup, tLst, tNil, tCons, tCall, tCallS, tCB, tB, tTest, tAnd, tOr, tNot, tAndV, tOrV, tNotV, tIf, tNext, tDrop, tRet, tRetN, tIfS, tCont, tNever, tSl, tNoPart, tPart, tBM, tBM0, tM1, gName, gSub, gTup, gNil, gCons, tC, rI, rI0, rEq, rNe, rIxL, rIxT, rIxS, rSetL, rAppend, rPop, rIn, rSlS, rSlL, rCat, rIndex, rExtT, tGv, tGvL, rLn, rInK, rIsX, tRev, tXf, tDGet1, tDIn, tDNotIn, sDPut, tDNewK, WE, tFor_eq, tLc_eq, iTup, iList, iRng1, iStr, iEnumT, cx_K, cx_prog, cx_w, List.getElem?_cons_succ, List.getElem?_cons_zero, Option.some.injEq, exists_eq_left', exists_eq_left, exists_and_left, V.ref.injEq, V.int.injEq, V.str.injEq, V.bl.injEq, V.ty.injEq, List.cons.injEq, List.set_cons_zero, List.set_cons_succ, and_assoc, true_and, and_true, List.append_nil, List.map_cons, List.map_nil, Int.sub_self, reduceCtorEq, false_and, and_false, or_false, false_or, exists_false, if_true, if_false, Bool.not_true, Bool.not_false, Bool.false_eq_true, decide_eq_true_eq, Bool.not_eq_true', decide_eq_false_iff_not, Int.zero_add])
local macro_rules | `(tactic| walk_at "gv") => `(tactic| (repeat (first | exact gvl_nil | refine gvl_cons ?_ ?_ | exact gv_str | exact gv_gv | (exact gv_var (by assumption)) | refine gv_tup ?_)))
local macro_rules | `(tactic| walk_at "nx") => `(tactic| simp only [tSeq, List.set_cons_zero, List.set_cons_succ])
local macro_rules | `(tactic| walk_at "exd") => `(tactic| (repeat (first | exact ExD.word _ _ | exact ExD.quote _ _ | exact exdl_nil | refine exdl_cons ?_ ?_ | refine ExD.call ?_)))

theorem str_app (a b : Str) : (a ++ b).length = a.length + b.length := by
  show (a.cps ++ b.cps).size = _
  rw [Array.size_append]; rfl
theorem num_len {i : Int} (h0 : 0 ≤ i) (h1 : i < 100) : 0 < (Str.ofString (toString i)).length ∧ (Str.ofString (toString i)).length ≤ 2 := by
  have h : ∀ n : Fin 100, 0 < (Str.ofString (toString ((n.val : Nat) : Int))).length ∧ (Str.ofString (toString ((n.val : Nat) : Int))).length ≤ 2 := by decide +kernel
  have z := h ⟨i.toNat, by omega⟩
  have e : (((⟨i.toNat, by omega⟩ : Fin 100).val : Nat) : Int) = i := by show ((i.toNat : Nat) : Int) = i; omega
  rw [e] at z
  exact z
theorem num_log {i : Int} (h0 : 0 ≤ i) (h1 : i < 100) : i.natAbs.log2 < 1920 := by
  have h : i.natAbs < 2 ^ 1920 := Nat.lt_of_lt_of_le (show i.natAbs < 2 ^ 7 by omega) (Nat.pow_le_pow_right (by decide) (by decide))
  by_cases e : i.natAbs = 0
  · rw [e]; decide
  · exact (Nat.log2_lt e).mpr h
theorem flat_words : ∀ l : List Str, (l.map V.str).all flatV = true
  | [] => rfl
  | s :: r => by rw [List.map_cons, List.all_cons, flat_words r]; rfl
/-- a function with any body -/
def Fn2 (t : Tr) : Prop := ∃ (n : Str) (ps : List Tr) (b : Tr), t = .t [.w n, .t ps, b] ∧ okS n = true ∧ wt t ≤ 440
def Prog2 (fs : List Tr) : Prop := 2 ≤ fs.length ∧ fs.length ≤ 5 ∧ ∀ f ∈ fs, Fn2 f
def OSlots (σ : L2.St) (g pa oa na : Addr) : Prop := ∃ (u1 u2 u3 : Option V), σ = [some (V.ref g), some (V.ref pa), some (V.ref oa), some (V.ref na), u1, u2, u3, none]
def ONew (H' : Hp) (i : Nat) (na : Addr) : Prop := ∃ new : List Str, H' na = some (.lst (new.map V.str)) ∧ new.length = i ∧ new.all okS = true
def OInv (H2 : Hp) (L : Addr) (i : Nat) (H' : Hp) : Prop := ∃ ts vs, ts.length = i ∧ Same H2 H' ∧ H' L = some (.lst vs) ∧ TrL H' ts vs ∧ ∀ t ∈ ts, Fn2 t
def OldI (H2 : Hp) (L : Addr) (fs : List Tr) (i : Nat) (H' : Hp) : Prop := ∃ old : List Str, old.length = i ∧ Same H2 H' ∧ H' L = some (.lst (old.map V.str)) ∧ ∀ (j : Nat) f, j < i → fs[j]? = some f → ∃ (n : Str) (ps : List Tr) (b : Tr), f = .t [.w n, .t ps, b] ∧ old[j]? = some n
def spOther : Sp := fun vs H Q _ => ∃ (x : Hd) (pa : Addr) (fs : List Tr), vs = [.ref x.g, .ref pa] ∧ Hand x H ∧ TrV H (.t fs) (.ref pa) ∧ ProgT fs ∧
  ∀ (H' : Hp) (v : V) (fs' : List Tr), But x.g H H' → Hand x H' → TrV H' (.t fs') v → Prog2 fs' → Q v H'
section
variable {P : Program} {w : World} {K : PySem.W.Frag} {mg : Str → Option Value} {base : Heap} {F : Fs}
theorem ok_other (T : Tx w K mg F) : FnOk P w K mg base CX0 7 F.f__law_other_names F.d__law_other_names ["_law_hand", "_law_program_here"] spOther := by
  have G__law_take := ok_take (P := P) (base := base) T
  have G__law_called := ok_called (P := P) (base := base) T 5
  refine T.F__law_other_names.ok sc_law_other_names (fun vs H Q E h => ?_) (fun cdv A outer s H vs Q E hr h => ?_)
  · obtain ⟨x, pa, fs, rfl, _⟩ := h
    rfl
  obtain ⟨x, pa, fs, rfl, hh, tp, ⟨lf2, lf5, okf⟩, q⟩ := h
  refine ⟨_, (pss_cons (ps_set (i := 2) sc_law_other_names.nd rfl (Or.inr rfl) (pe_lc (own := [(("_law_one" : Str), 7)]) (g := gName 7) (tt := tYes) rfl sc_law_other_names.nd (pi_tup (pv 1)) (blkOk_by (N := N__law_other_names) (sc := defScope s__law_other_names) (by decide +kernel)) (fun _ _ _ _ _ => pg_name (i := 7) sc_law_other_names.nd rfl (Or.inl rfl)) (fun _ _ _ _ _ => pts_nil) (fun _ _ _ _ _ => (pe_ix (r := rIxT K) ix_tup (pv 7) pe_int (fun _ _ => rfl)))))
      (pss_cons (ps_set (i := 3) sc_law_other_names.nd rfl (Or.inr rfl) (pe_lst pa_nil))
      (pss_cons (ps_for PassesOwn.never rfl (pi_range1 rfl T.z_range (pa_cons (pe_callB call_len rfl T.z_len PySem.boot_len (pa_cons (pv 1) pa_nil)) pa_nil)) (pg_name (i := 4) sc_law_other_names.nd rfl (Or.inl rfl)) (pss_cons (ps_set (i := 5) sc_law_other_names.nd rfl (Or.inl rfl) (pe_callTy call_str_int rfl T.z_str (by decide +kernel) (pa_cons (pe_op op_mod (pe_callTy call_int1 rfl T.z_int (by decide +kernel) (pa_cons (pe_op op_add (pv 4) (pe_call G__law_take (hr.mono (by decide)) rfl T.m__law_take T.k__law_take T.b__law_take .nil pass0 (pa_cons (pv 0) (pa_cons pe_int pa_nil)))) pa_nil)) (pe_callB call_len rfl T.z_len PySem.boot_len (pa_cons (pv 1) pa_nil))) pa_nil)))
      (pss_cons (ps_set (i := 6) sc_law_other_names.nd rfl (Or.inl rfl) (pe_ix ix_list (pe_lst (pa_cons (pe_ix ix_list (pv 2) (pv 4) (fun _ _ => rfl)) (pa_cons (pe_op op_add_str pe_str (pv 5)) (pa_cons (pe_op op_add_str pe_str (pe_ix ix_str pe_str (pv 4) (fun _ _ => rfl))) (pa_cons (pe_op op_add_str (pe_op op_add_str pe_str (pv 5)) pe_str) (pa_cons pe_str pa_nil)))))) (pe_call G__law_take (hr.mono (by decide)) rfl T.m__law_take T.k__law_take T.b__law_take .nil pass0 (pa_cons (pv 0) (pa_cons pe_int pa_nil))) (fun _ _ => rfl)))
      (pss_cons (ps_if (PW.pt (pw_or (pt_cmpR op_in_seq (pv 6) (pv 3) (by with_unfolding_all rfl)) (pw_or1 (PW.pt (pw_and (pt_cmpR op_in_seq (pv 6) (pv 2) (by with_unfolding_all rfl)) (pw_and1 (pt_cmpR op_ne (pv 6) (pe_ix ix_list (pv 2) (pv 4) (fun _ _ => rfl)) (nomark _)))))))) (pss_one (ps_set (i := 6) sc_law_other_names.nd rfl (Or.inl rfl) (pe_ix ix_list (pv 2) (pv 4) (fun _ _ => rfl)))) pss_nil)
      (pss_one (ps_expr (pe_bm PySem.F.plainAttrs_list PySem.F.slot_list_append PySem.F.type_list_append mt_append (pv 3) (pa_cons (pv 6) pa_nil))))))))
      (pss_one (ps_ret (pe_callTy call_tuple_of rfl T.z_tuple (by decide +kernel) (pa_cons (pe_lc (own := [(("_law_k" : Str), 4)]) (g := gName 4) (tt := tYes) rfl sc_law_other_names.nd (pi_range1 rfl T.z_range (pa_cons (pe_callB call_len rfl T.z_len PySem.boot_len (pa_cons (pv 1) pa_nil)) pa_nil)) (blkOk_by (N := N__law_other_names) (sc := defScope s__law_other_names) (by decide +kernel)) (fun _ _ _ _ _ => pg_name (i := 4) sc_law_other_names.nd rfl (Or.inl rfl)) (fun _ _ _ _ _ => pts_nil) (fun _ _ _ _ _ => (pe_tup (pa_cons (pe_ix (r := rIxL K) ix_list (pv 3) (pv 4) (fun _ _ => rfl)) (pa_cons (pe_ix (r := rIxT K) ix_tup (pe_ix (r := rIxT K) ix_tup (pv 1) (pv 4) (fun _ _ => rfl)) pe_int (fun _ _ => rfl)) (pa_cons (pe_call G__law_called (hr.mono (by decide)) rfl T.m__law_called T.k__law_called T.b__law_called .nil pass0 (pa_cons (pe_ix (r := rIxT K) ix_tup (pe_ix (r := rIxT K) ix_tup (pv 1) (pv 4) (fun _ _ => rfl)) pe_int (fun _ _ => rfl)) (pa_cons (pv 2) (pa_cons (pv 3) pa_nil)))) pa_nil)))))) pa_nil))))))), ?_⟩
  rw [show start ["_law_hand", "_law_program_here", "_law_old", "_law_new", "_law_k", "_law_digits", "_law_name", "_law_one"] [V.ref x.g, V.ref pa] = [some (V.ref x.g), some (V.ref pa), none, none, none, none, none, none] from rfl]
  obtain ⟨pa', us, e, ep, tl⟩ := tp.tup
  cases e
  have lu := tl.len
  walk_at "rd"
  refine ⟨⟨_, SqT.of ep⟩, fun oa hoa => ?_⟩
  refine lcj_tup (xs := us) (OldI H oa fs) ?_ ?_ ?_ ?_
  · exact ⟨[], rfl, same_new hoa _, upd_same, fun j f h => by omega⟩
  · rintro i H' ⟨old, _, s', _⟩
    exact s' _ _ ep
  · rintro i v H' hv ⟨old, el, s', eL, ho⟩
    walk_at "rd"
    obtain ⟨f, hf, tv⟩ := tl.of hv
    obtain ⟨n, ps, b, rfl, _⟩ := okf f (List.mem_of_getElem? hf)
    obtain ⟨a, vs, rfl, ea, tl2⟩ := (tv.mono s'.tup).tup
    obtain ⟨w1, vs, rfl, q1, tl2⟩ := tl2.cons'
    obtain rfl := q1.word
    have hi : i < us.length := (List.getElem?_eq_some_iff.mp hv).1
    refine ⟨a, rfl, _, SqT.of ea, _, atI_0, old.map V.str, eL, small20 (by rw [List.length_map]; omega), old ++ [n], by rw [List.length_append, el]; rfl, s'.over hoa _, by rw [upd_same, List.map_append]; rfl, fun j f hj hf' => ?_⟩
    by_cases c : j = i
    · subst c
      rw [hf] at hf'
      cases hf'
      exact ⟨n, ps, b, rfl, by rw [List.getElem?_append_right (by omega), el, Nat.sub_self]; rfl⟩
    · obtain ⟨n', ps', b', e1, e2⟩ := ho j f (by omega) hf'
      exact ⟨n', ps', b', e1, by rw [List.getElem?_append_left (by omega)]; exact e2⟩
  rintro H1 ⟨old, lo, s1, eo, ho⟩
  have noa := (hh.free hoa).1
  refine ⟨by decide, fun na hna => ?_⟩
  have h1 := hh.but s1
  have nna := (h1.free hna).1
  have non : oa ≠ na := ne_of_none eo hna
  have ep1 : (upd H1 na (.lst [])) pa = some (.tup us) := Tup.new hna _ _ _ (s1 _ _ ep)
  refine ⟨_, lenT ep1, by omega, by omega, ?_⟩
  have okold : old.all okS = true := by
    refine List.all_eq_true.mpr fun z hz => ?_
    obtain ⟨j, hj, e⟩ := List.mem_iff_getElem.mp hz
    have hj' : j < fs.length := by omega
    obtain ⟨n, ps, b, e1, e2⟩ := ho j fs[j] (by omega) (List.getElem?_eq_getElem hj')
    obtain ⟨n', ps', b', e3, on, _⟩ := okf _ (List.getElem_mem hj')
    rw [e1] at e3
    cases e3
    rw [List.getElem?_eq_getElem hj] at e2
    cases e2
    rw [← e]; exact on
  refine loop_range (n := (us.length : Int).toNat) (fun i σ H' => OSlots σ x.g pa oa na ∧ But x.g H1 H' ∧ Hand x H' ∧ ONew H' i na) ?_ ?_ ?_
  · exact ⟨⟨_, _, _, rfl⟩, But.new hna _, h1.new hna _, [], upd_same, rfl, rfl⟩
  · rintro i σ H' hi ⟨⟨u1, u2, u3, rfl⟩, b', h', new, en, ln, okn⟩
    walk_at "rd"
    have hi' : i < us.length := by omega
    have eo' : H' oa = some (.lst (old.map V.str)) := b' _ _ noa eo
    have ep' : H' pa = some (.tup us) := h1.tup b' _ _ (s1 _ _ ep)
    refine ⟨x, 2, rfl, by decide, h', fun H2 k b2 h2 k0 k1 => ?_⟩
    have eo2 : H2 oa = some (.lst (old.map V.str)) := b2 _ _ noa eo'
    have ep2 : H2 pa = some (.tup us) := h'.tup b2 _ _ ep'
    have pos : (0 : Int) < us.length := by omega
    have d0 := Int.emod_nonneg ((i : Int) + k) (show (us.length : Int) ≠ 0 by omega)
    have d1 := Int.emod_lt_of_pos ((i : Int) + k) pos
    have nl := num_len d0 (show ((i : Int) + k) % (us.length : Int) < 100 by omega)
    have nlog := num_log d0 (show ((i : Int) + k) % (us.length : Int) < 100 by omega)
    have hio : i < old.length := by omega
    have eoi : old[i]? = some old[i] := List.getElem?_eq_getElem hio
    have oki : okS old[i] = true := List.all_eq_true.mp okold _ (List.getElem_mem hio)
    have e8 : (Str.ofString "abcdefgh").cps.toList = [97, 98, 99, 100, 101, 102, 103, 104] := by decide +kernel
    obtain ⟨ch, hch, _⟩ := atI_of (xs := (Str.ofString "abcdefgh").cps.toList) (show (0 : Int) ≤ i by omega) (by rw [e8]; show (i : Int) < 8; omega)
    generalize eds : Str.ofString (toString (((i : Int) + k) % (us.length : Int))) = ds at nl
    have lf : (Str.ofString "f").length = 1 := by decide +kernel
    have lx : (Str.ofString "x").length = 1 := by decide +kernel
    have l1 : ({ cps := #[ch] } : Str).length = 1 := rfl
    have sz : 100 ≤ sizeLine := by decide
    have aoi : atI (old.map V.str) (i : Int) = some (V.str old[i]) := atI_nat (by rw [List.getElem?_map, eoi]; rfl)
    refine ⟨k, rfl, us.length, lenT ep2, pos, nlog, _, SqL.of eo2, V.str old[i], aoi, ?_⟩
    rw [eds]
    refine ⟨by omega, by decide +kernel, ch, hch, by omega, by omega, by rw [str_app]; omega, by show 5 ≤ sizeLine; decide, fun p hp => ?_⟩
    have okl : ([old[i], Str.ofString "f" ++ ds, Str.ofString "f" ++ { cps := #[ch] }, Str.ofString "f" ++ ds ++ Str.ofString "x", Str.ofString "f"] : List Str).all okS = true := by
      have a1 : okS (Str.ofString "f" ++ ds) = true := okS_of (by rw [str_app]; omega) (by rw [str_app]; omega)
      have a2 : okS (Str.ofString "f" ++ { cps := #[ch] }) = true := okS_of (by rw [str_app]; omega) (by rw [str_app]; omega)
      have a3 : okS (Str.ofString "f" ++ ds ++ Str.ofString "x") = true := okS_of (by rw [str_app, str_app]; omega) (by rw [str_app, str_app]; omega)
      have a4 : okS (Str.ofString "f") = true := by decide +kernel
      simp only [List.all_cons, List.all_nil, oki, a1, a2, a3, a4, Bool.and_self]
    refine ⟨x, 5, rfl, by decide, h2.new hp _, fun H3 j b3 h3 j0 j1 => ?_⟩
    obtain ⟨nm, hz, onm, _⟩ := pick okl j0 j1
    have np := (h2.free hp).1
    have b23 : But x.g H2 H3 := (But.new hp _).trans b3
    have en3 : H3 na = some (.lst (new.map V.str)) := b23 _ _ nna (b2 _ _ nna en)
    have eo3 : H3 oa = some (.lst (old.map V.str)) := b23 _ _ noa eo2
    have app : ∀ z : Str, okS z = true → tyV K "list" (V.ref na) H3 ∧ ∃ x_1, H3 na = some (HO.lst x_1) ∧ x_1.length < sizeLine ∧
        OSlots [some (V.ref x.g), some (V.ref pa), some (V.ref oa), some (V.ref na), some (V.int i), some (V.str ds), some (V.str z), none] x.g pa oa na ∧ But x.g H1 (upd H3 na (HO.lst (x_1 ++ [V.str z]))) ∧ Hand x (upd H3 na (HO.lst (x_1 ++ [V.str z]))) ∧ ONew (upd H3 na (HO.lst (x_1 ++ [V.str z]))) (i + 1) na := by
      intro z oz
      refine ⟨.inl ⟨rfl, _, SqL.of en3⟩, _, en3, small20 (by rw [List.length_map]; omega), ⟨_, _, _, rfl⟩, (b'.trans (b2.trans b23)).over hna _, h1.over hna h3 _, new ++ [z], by rw [upd_same, List.map_append]; rfl, by rw [List.length_append, ln]; rfl, ?_⟩
      rw [List.all_append, okn, List.all_cons, oz]; rfl
    refine ⟨_, j, rfl, SqL.of (b3 _ _ np upd_same), _, hz, _, .inl (SqL.of en3), rfl, flat_words new, ?_⟩
    by_cases c1 : inV (V.str nm) (new.map V.str) = true
    · rw [if_pos c1]
      exact ⟨_, SqL.of eo3, V.str old[i], aoi, app _ oki⟩
    rw [if_neg c1]
    refine ⟨_, .inl (SqL.of eo3), rfl, flat_words old, ?_⟩
    by_cases c2 : inV (V.str nm) (old.map V.str) = true
    · rw [if_pos c2]
      refine ⟨_, SqL.of eo3, V.str old[i], aoi, rfl, ?_⟩
      by_cases c3 : V.str nm = V.str old[i]
      · rw [if_neg (fun h => h c3)]
        exact app _ onm
      · rw [if_pos c3]
        exact ⟨_, SqL.of eo3, V.str old[i], aoi, app _ oki⟩
    · rw [if_neg c2]
      exact app _ onm
  · rintro σ H' ⟨⟨u1, u2, u3, rfl⟩, b', h', new, en, ln, okn⟩
    walk_at "rd"
    have eo' : H' oa = some (.lst (old.map V.str)) := b' _ _ noa eo
    have tp' : Tup H H' := s1.tup.trans (h1.tup b')
    have ep' : H' pa = some (.tup us) := tp' _ _ ep
    have tl' : TrL H' fs us := tl.mono tp'
    refine ⟨_, lenT ep', by omega, by omega, fun L hL => ?_⟩
    refine lcj_range (n := (us.length : Int).toNat) (OInv H' L) ⟨[], [], rfl, same_new hL _, upd_same, .nil, fun t h => by simp at h⟩ ?_ ?_
    · rintro i H2 hi ⟨ts, vs, el, s2, eL, tls, okt⟩
      walk_at "rd"
      have hi' : i < us.length := by omega
      have hif : i < fs.length := by omega
      have efi : fs[i]? = some fs[i] := List.getElem?_eq_getElem hif
      obtain ⟨n, ps, b, e1, on, wf, xb, l3⟩ := okf _ (List.getElem_mem hif)
      obtain ⟨v, hv, tv⟩ := tl'.get efi
      rw [e1] at tv wf
      obtain ⟨a, ws, rfl, ea, tl2⟩ := (tv.mono s2.tup).tup
      obtain ⟨w1, ws, rfl, q1, tl2⟩ := tl2.cons'
      obtain ⟨w2, ws, rfl, q2, tl2⟩ := tl2.cons'
      obtain ⟨w3, ws, rfl, q3, tl2⟩ := tl2.cons'
      have hin : i < new.length := by omega
      have eni : new[i]? = some new[i] := List.getElem?_eq_getElem hin
      have oni : okS new[i] = true := List.all_eq_true.mp okn _ (List.getElem_mem hin)
      have en2 := s2 _ _ en
      have eo2 := s2 _ _ eo'
      have ep2 := s2 _ _ ep'
      have api : atI us (i : Int) = some (.ref a) := atI_nat hv
      have wf2 : wt b + 3 ≤ 440 := by
        have := wt_pos (.w n)
        have := wt_pos (.t ps)
        rw [wt_t, wtL_cons, wtL_cons, wtL_cons, wtL_nil] at wf
        omega
      refine ⟨_, SqL.of en2, V.str new[i], atI_nat (by rw [List.getElem?_map, eni]; rfl), _, SqT.of ep2, .ref a, api, a, rfl, _, SqT.of ea, w2, atI_1, _, SqT.of ep2, .ref a, api, a, rfl, _, SqT.of ea, w3, atI_2, ?_⟩
      refine ⟨w3, b, 4, oa, na, old, new, rfl, q3, xb, by decide, by omega, eo2, en2, by omega, by omega, okn, fun H3 v' t' s3 tv3 tw3 => ⟨by show 3 ≤ sizeLine; decide, fun p hp => ?_⟩⟩
      have eL3 : (upd H3 p (.tup [V.str new[i], w2, v'])) L = some (.lst vs) := by
        rw [upd_ne (ne_of_none (s3 _ _ eL) hp)]; exact s3 _ _ eL
      have t3 : Tup H2 (upd H3 p (.tup [V.str new[i], w2, v'])) := s3.tup.trans (Tup.new hp _)
      have npL : p ≠ L := (ne_of_none (s3 _ _ eL) hp).symm
      have t4 : Tup H2 (upd (upd H3 p (.tup [V.str new[i], w2, v'])) L (.lst (vs ++ [.ref p]))) := t3.trans (Tup.lst eL3 _)
      have lv := tls.len
      refine ⟨vs, eL3, small20 (by omega), ts ++ [.t [.w new[i], .t ps, t']], vs ++ [.ref p], by rw [List.length_append, el]; rfl, (s2.trans (s3.trans (same_new hp _))).over hL _, upd_same, (tls.mono t4).append (.one ?_), ?_⟩
      · refine .t (by rw [upd_ne npL, upd_same]) (.cons (.w _) (.cons (q2.mono t4) (.one (tv3.mono ((Tup.new hp _).trans (Tup.lst eL3 _))))))
      · intro f hf
        rcases List.mem_append.mp hf with z | z
        · exact okt f z
        · have e : f = .t [.w new[i], .t ps, t'] := by simpa using z
          rw [e]
          refine ⟨_, ps, t', rfl, oni, ?_⟩
          rw [wt_t, wtL_cons, wtL_cons, wtL_cons, wtL_nil] at wf
          rw [wt_t, wtL_cons, wtL_cons, wtL_cons, wtL_nil, wt_ok oni]
          have := wt_pos (.w n)
          omega
    · rintro H2 ⟨ts, vs, el, s2, eL, tls, okt⟩
      refine ⟨L, rfl, vs, .inl ⟨SqL.of eL, fun p hp => ?_⟩⟩
      refine q _ _ ts (s1.but.trans (b'.trans (s2.but.trans (But.new hp _)))) ((h'.but s2).new hp _) (.t upd_same (tls.mono (Tup.new hp _))) ⟨by omega, by omega, okt⟩
end
end K4

namespace K4
open PySem PySem.Spec PyProof.Rows L2
local macro_rules | `(tactic| walk_at "rd") => `(tactic| simp only [tSeq, tAsg, tVar, tOp, tUn, rU, tTup, tLst, tNil, tCons, tCall, tCallS, tCB, tB, tTest, tAnd, tOr, tNot, tAndV, tOrV, tNotV, tIf, tNext, tDrop, tRet, tRetN, tIfS, tCont, tNever, tSl, tNoPart, tPart, tBM, tBM0, tM1, gName, gSub, gTup, gNil, gCons, tC, rI, rI0, rEq, rNe, rIxL, rIxT, rIxS, rSetL, rAppend, rPop, rIn, rSlS, rSlL, rCat, rIndex, rExtT, tGv, tGvL, rLn, rInK, rIsX, tRev, tXf, tDGet1, tDIn, tDNotIn, sDPut, tDNewK, WE, tFor_eq, tLc_eq, iTup, iList, iRng1, iStr, iEnumT, cx_K, cx_prog, cx_w, List.getElem?_cons_succ, List.getElem?_cons_zero, Option.some.injEq, exists_eq_left', exists_eq_left, exists_and_left, V.ref.injEq, V.int.injEq, V.str.injEq, V.bl.injEq, V.ty.injEq, List.cons.injEq, List.set_cons_zero, List.set_cons_succ, and_assoc, true_and, and_true, List.append_nil, List.map_cons, List.map_nil, Int.sub_self, reduceCtorEq, false_and, and_false, or_false, false_or, exists_false, if_true, if_false, Bool.not_true, Bool.not_false, Bool.false_eq_true, decide_eq_true_eq, Bool.not_eq_true', decide_eq_false_iff_not, Int.zero_add])
local macro_rules | `(tactic| walk_at "gv") => `(tactic| (repeat (first | exact gvl_nil | refine gvl_cons ?_ ?_ | exact gv_str | exact gv_gv | (exact gv_var (by assumption)) | refine gv_tup ?_)))
local macro_rules | `(tactic| walk_at "nx") => `(tactic| simp only [tSeq, List.set_cons_zero, List.set_cons_succ])
local macro_rules | `(tactic| walk_at "exd") => `(tactic| (repeat (first | exact ExD.word _ _ | exact ExD.quote _ _ | exact exdl_nil | refine exdl_cons ?_ ?_ | refine ExD.call ?_)))

def NInv (H2 : Hp) (L : Addr) (i : Nat) (H' : Hp) : Prop := ∃ old : List Str, old.length = i ∧ Same H2 H' ∧ H' L = some (.lst (old.map V.str)) ∧ old.all okS = true
def spOdd : Sp := fun vs H Q _ => ∃ (x : Hd) (pa : Addr) (fs : List Tr), vs = [.ref x.g, .ref pa] ∧ Hand x H ∧ TrV H (.t fs) (.ref pa) ∧ Prog2 fs ∧
  ∀ (H' : Hp) (v : V) (t : Tr), But x.g H H' → Hand x H' → TrV H' t v → wt t ≤ 20 → Q v H'
theorem pickT {H : Hp} {ts : List Tr} {vs : List V} {k : Int} (h : TrL H ts vs) (h0 : 0 ≤ k) (h1 : k < ts.length) : ∃ v t, atI vs k = some v ∧ TrV H t v ∧ ts[k.toNat]? = some t := by
  have hk : k.toNat < ts.length := by omega
  have e := List.getElem?_eq_getElem hk
  obtain ⟨v, hv, tv⟩ := h.get e
  exact ⟨v, _, atI_at h0 hv, tv, e⟩
theorem flat_rep {α : Type} (a : α) : ∀ n : Nat, (List.replicate n [a]).flatten = List.replicate n a
  | 0 => rfl
  | n + 1 => by rw [List.replicate_succ, List.replicate_succ, List.flatten_cons, flat_rep a n]; rfl
section
variable {P : Program} {w : World} {K : PySem.W.Frag} {mg : Str → Option Value} {base : Heap} {F : Fs}
theorem ok_odd (T : Tx w K mg F) : FnOk P w K mg base CX0 2 F.f__law_odd F.d__law_odd ["_law_hand", "_law_program_here"] spOdd := by
  have G__law_take := ok_take (P := P) (base := base) T
  have G__law_special := ok_special (P := P) (base := base) T
  refine T.F__law_odd.ok sc_law_odd (fun vs H Q E h => ?_) (fun cdv A outer s H vs Q E hr h => ?_)
  · obtain ⟨x, pa, fs, rfl, _⟩ := h
    rfl
  obtain ⟨x, pa, fs, rfl, hh, tp, ⟨lf2, lf5, okf⟩, q⟩ := h
  refine ⟨_, (pss_cons (ps_set (i := 2) sc_law_odd.nd rfl (Or.inl rfl) (pe_lst (pa_cons pe_str (pa_cons pe_str (pa_cons pe_str (pa_cons pe_str (pa_cons pe_str (pa_cons pe_str (pa_cons pe_str (pa_cons pe_str (pa_cons pe_str (pa_cons pe_str (pa_cons pe_str (pa_cons pe_str (pa_cons pe_str (pa_cons pe_str (pa_cons pe_str (pa_cons pe_str (pa_cons pe_str pa_nil)))))))))))))))))))
      (pss_cons (ps_set (i := 3) sc_law_odd.nd rfl (Or.inl rfl) (pe_call G__law_take (hr.mono (by decide)) rfl T.m__law_take T.k__law_take T.b__law_take .nil pass0 (pa_cons (pv 0) (pa_cons pe_int pa_nil))))
      (pss_cons (ps_if (pt_cmpR op_lt (pv 3) pe_int (nomark _)) (pss_one (ps_ret (pe_ix ix_list (pv 2) (pe_call G__law_take (hr.mono (by decide)) rfl T.m__law_take T.k__law_take T.b__law_take .nil pass0 (pa_cons (pv 0) (pa_cons (pe_callB call_len rfl T.z_len PySem.boot_len (pa_cons (pv 2) pa_nil)) pa_nil))) (fun _ _ => rfl)))) pss_nil)
      (pss_cons (ps_if (pt_cmpR op_eq (pv 3) pe_int (nomark _)) (pss_one (ps_ret (pe_ix ix_list (pe_gvl (ts := [(.t []), (.t [(.w "x")]), (.t [(.t [(.w "a")]), (.w "x")]), (.t [(.w "quote"), (.t [(.w "a")])]), (.t [(.w "quote")]), (.t [(.w "quote"), (.w "a"), (.w "b")])]) (pa_cons (pe_gv (t := (.t [])) (pe_tup pa_nil) (fun _ _ => by walk_at "gv")) (pa_cons (pe_gv (t := (.t [(.w "x")])) (pe_tup (pa_cons pe_str pa_nil)) (fun _ _ => by walk_at "gv")) (pa_cons (pe_gv (t := (.t [(.t [(.w "a")]), (.w "x")])) (pe_tup (pa_cons (pe_gv (t := (.t [(.w "a")])) (pe_tup (pa_cons pe_str pa_nil)) (fun _ _ => by walk_at "gv")) (pa_cons pe_str pa_nil))) (fun _ _ => by walk_at "gv")) (pa_cons (pe_gv (t := (.t [(.w "quote"), (.t [(.w "a")])])) (pe_tup (pa_cons pe_str (pa_cons (pe_gv (t := (.t [(.w "a")])) (pe_tup (pa_cons pe_str pa_nil)) (fun _ _ => by walk_at "gv")) pa_nil))) (fun _ _ => by walk_at "gv")) (pa_cons (pe_gv (t := (.t [(.w "quote")])) (pe_tup (pa_cons pe_str pa_nil)) (fun _ _ => by walk_at "gv")) (pa_cons (pe_gv (t := (.t [(.w "quote"), (.w "a"), (.w "b")])) (pe_tup (pa_cons pe_str (pa_cons pe_str (pa_cons pe_str pa_nil)))) (fun _ _ => by walk_at "gv")) pa_nil)))))) (fun _ _ => by walk_at "gv")) (pe_call G__law_take (hr.mono (by decide)) rfl T.m__law_take T.k__law_take T.b__law_take .nil pass0 (pa_cons (pv 0) (pa_cons pe_int pa_nil))) (fun _ _ => rfl)))) pss_nil)
      (pss_cons (ps_set (i := 4) sc_law_odd.nd rfl (Or.inl rfl) (pe_ix ix_list (pe_lc (own := [(("_law_one" : Str), 6)]) (g := gName 6) (tt := tYes) rfl sc_law_odd.nd (pi_tup (pv 1)) (blkOk_by (N := N__law_odd) (sc := defScope s__law_odd) (by decide +kernel)) (fun _ _ _ _ _ => pg_name (i := 6) sc_law_odd.nd rfl (Or.inl rfl)) (fun _ _ _ _ _ => pts_nil) (fun _ _ _ _ _ => (pe_ix (r := rIxT K) ix_tup (pv 6) pe_int (fun _ _ => rfl)))) (pe_call G__law_take (hr.mono (by decide)) rfl T.m__law_take T.k__law_take T.b__law_take .nil pass0 (pa_cons (pv 0) (pa_cons (pe_callB call_len rfl T.z_len PySem.boot_len (pa_cons (pv 1) pa_nil)) pa_nil))) (fun _ _ => rfl)))
      (pss_cons (ps_if (pt_cmpR op_eq (pv 3) pe_int (nomark _)) (pss_one (ps_ret (pe_op op_catA (pe_tup (pa_cons (pv 4) pa_nil)) (pe_slice sl_tupA (pe_gv (t := (.t [(.w "x"), (.w "x"), (.w "x")])) (pe_tup (pa_cons pe_str (pa_cons pe_str (pa_cons pe_str pa_nil)))) (fun _ _ => by walk_at "gv")) po_none (po_some (pe_call G__law_take (hr.mono (by decide)) rfl T.m__law_take T.k__law_take T.b__law_take .nil pass0 (pa_cons (pv 0) (pa_cons pe_int pa_nil)))))))) pss_nil)
      (pss_cons (ps_set (i := 5) sc_law_odd.nd rfl (Or.inl rfl) (pe_ix ix_list (pe_call0 G__law_special (hr.mono (by decide)) rfl T.m__law_special T.k__law_special T.b__law_special .nil pass0) (pe_call G__law_take (hr.mono (by decide)) rfl T.m__law_take T.k__law_take T.b__law_take .nil pass0 (pa_cons (pv 0) (pa_cons pe_int pa_nil))) (fun _ _ => rfl)))
      (pss_one (ps_ret (pe_op op_catA (pe_tup (pa_cons (pv 5) pa_nil)) (pe_op op_repA (pe_gv (t := (.t [(.t [(.w "quote"), (.t [])])])) (pe_tup (pa_cons (pe_gv (t := (.t [(.w "quote"), (.t [])])) (pe_tup (pa_cons pe_str (pa_cons (pe_gv (t := (.t [])) (pe_tup pa_nil) (fun _ _ => by walk_at "gv")) pa_nil))) (fun _ _ => by walk_at "gv")) pa_nil)) (fun _ _ => by walk_at "gv")) (pe_call G__law_take (hr.mono (by decide)) rfl T.m__law_take T.k__law_take T.b__law_take .nil pass0 (pa_cons (pv 0) (pa_cons pe_int pa_nil)))))))))))))), ?_⟩
  rw [show start ["_law_hand", "_law_program_here", "_law_words", "_law_kind", "_law_name", "_law_word", "_law_one"] [V.ref x.g, V.ref pa] = [some (V.ref x.g), some (V.ref pa), none, none, none, none, none] from rfl]
  obtain ⟨pa', us, e, ep, tl⟩ := tp.tup
  cases e
  have lu := tl.len
  walk_at "rd"
  refine ⟨by show 17 ≤ sizeLine; decide, fun p hp => ⟨x, 5, rfl, by decide, hh.new hp _, fun H1 k b1 h1 k0 k1 => ⟨k, rfl, ?_⟩⟩⟩
  have b01 : But x.g H H1 := (But.new hp _).trans b1
  have t01 := hh.tup b01
  have ep1 := t01 _ _ ep
  have tl1 := tl.mono t01
  have n1 := (hh.free hp).1
  by_cases c : k < 2
  · rw [if_pos c]
    refine ⟨17, lenL (b1 _ _ n1 upd_same), x, 17, rfl, by decide, h1, fun H2 j b2 h2 j0 j1 => ?_⟩
    obtain ⟨z, hz, oz, _⟩ := pick (ws := ["x", "a", "v", "f0", "f1", "f01", "f99", "main", "zz", "quote", "if", "head", "join", "put", "same", "word", "tail"]) (by decide +kernel) j0 j1
    exact ⟨_, j, rfl, SqL.of (b2 _ _ n1 (b1 _ _ n1 upd_same)), _, hz, q H2 _ (.w z) (b01.trans b2) h2 (.w z) (by rw [wt_ok oz]; decide)⟩
  rw [if_neg c]
  refine ⟨rfl, ?_⟩
  by_cases c2 : V.int k = V.int 2
  · rw [if_pos c2]
    intro l vs H2 s2 l1 e2 tl2
    have nl := (h1.free l1).1
    refine ⟨x, 6, rfl, by decide, h1.but s2, fun H3 j b3 h3 j0 j1 => ?_⟩
    have tl3 := tl2.mono ((h1.but s2).tup b3)
    obtain ⟨v, t, hv, tv, et⟩ := pickT tl3 j0 j1
    refine ⟨_, j, rfl, SqL.of (b3 _ _ nl e2), v, hv, q H3 v t (b01.trans (s2.but.trans b3)) h3 tv (Nat.le_trans (wtL_get et) (by decide +kernel))⟩
  rw [if_neg c2]
  refine ⟨⟨_, SqT.of ep1⟩, fun L hL => ?_⟩
  refine lcj_tup (xs := us) (NInv H1 L) ?_ ?_ ?_ ?_
  · exact ⟨[], rfl, same_new hL _, upd_same, rfl⟩
  · rintro i H' ⟨old, el, s', _⟩
    exact s' _ _ ep1
  · rintro i v H' hv ⟨old, el, s', eL, ho⟩
    walk_at "rd"
    obtain ⟨f, hf, tv⟩ := tl1.of hv
    obtain ⟨n, ps, b, rfl, on, _⟩ := okf f (List.mem_of_getElem? hf)
    obtain ⟨a, vs, rfl, ea, tl2⟩ := (tv.mono s'.tup).tup
    obtain ⟨w1, vs, rfl, q1, tl2⟩ := tl2.cons'
    obtain rfl := q1.word
    have hi : i < us.length := (List.getElem?_eq_some_iff.mp hv).1
    refine ⟨a, rfl, _, SqT.of ea, _, atI_0, old.map V.str, eL, small20 (by rw [List.length_map]; omega), old ++ [n], by rw [List.length_append, el]; rfl, s'.over hL _, by rw [upd_same, List.map_append]; rfl, ?_⟩
    rw [List.all_append, ho, List.all_cons, on]; rfl
  rintro H2 ⟨old, lo, s2, eo, ho⟩
  have h2 := h1.but s2
  have nL := (h1.free hL).1
  refine ⟨_, lenT (s2 _ _ ep1), x, us.length, rfl, by omega, h2, fun H3 j b3 h3 j0 j1 => ?_⟩
  obtain ⟨nm, hz, onm, _⟩ := pick ho j0 (show j < old.length by omega)
  refine ⟨L, rfl, _, j, rfl, SqL.of (b3 _ _ nL eo), V.str nm, hz, rfl, ?_⟩
  have b03 : But x.g H H3 := b01.trans (s2.but.trans b3)
  by_cases c3 : V.int k = V.int 3
  · rw [if_pos c3]
    refine ⟨by show 1 ≤ sizeLine; decide, fun p2 hp2 v H4 s4 tv => ?_⟩
    obtain ⟨a, vs, rfl, ea, tlv⟩ := tv.tup
    have s34 : Same H3 H4 := (same_new hp2 _).trans s4
    refine ⟨x, 4, rfl, by decide, h3.but s34, fun H5 i b5 h5 i0 i1 => ⟨i, rfl, ?_⟩⟩
    have t45 := (h3.but s34).tup b5
    refine slA_of (t45 _ _ ea) fun r H6 s6 er => ?_
    rw [cutV_to _ i0] at er
    have e1 : H6 p2 = some (.tup [V.str nm]) := s6 _ _ (t45 _ _ (s4 _ _ upd_same))
    refine catA_of e1 er (Nat.le_of_lt (small20 (by rw [List.length_take, List.length_singleton]; omega))) fun r2 H7 s7 er2 => ?_
    have tl7 := ((tlv.mono t45).mono s6.tup).mono s7.tup
    refine q H7 _ (.t (.w nm :: List.take i.toNat [.w "x", .w "x", .w "x"])) (b03.trans (s34.but.trans (b5.trans (s6.trans s7).but))) ((h5.but s6).but s7) (.t er2 (.cons (.w nm) (tl7.take _))) ?_
    have := wtL_take [Tr.w "x", .w "x", .w "x"] i.toNat
    have z : wtL [Tr.w "x", .w "x", .w "x"] = 3 := by decide +kernel
    rw [wt_t, wtL_cons, wt_ok onm]
    omega
  · rw [if_neg c3]
    refine ⟨rfl, fun H4 l s4 el => ?_⟩
    have h4 := h3.but s4
    refine ⟨x, 7, rfl, by decide, h4, fun H5 i b5 h5 i0 i1 => ?_⟩
    have nl : l ≠ x.g := by
      intro e
      obtain ⟨_, _, pp, _, hg⟩ := h4
      rw [← e, el] at hg
      cases hg
    obtain ⟨sw, hz2, osw, _⟩ := pick (ws := spec) (by decide +kernel) i0 i1
    refine ⟨l, rfl, _, i, rfl, SqL.of (b5 _ _ nl el), V.str sw, hz2, by show 1 ≤ sizeLine; decide, fun p3 hp3 v H6 s6 tv => ?_⟩
    obtain ⟨a, vs, rfl, ea, tlv⟩ := tv.tup
    have s56 : Same H5 H6 := (same_new hp3 _).trans s6
    have h6 := h5.but s56
    refine ⟨x, 5, rfl, by decide, h6, fun H7 o b7 h7 o0 o1 => ?_⟩
    have t67 := h6.tup b7
    obtain ⟨v1, vs, rfl, tv1, tlv⟩ := tlv.cons'
    obtain rfl := tlv.nil'
    refine repA_of (t67 _ _ ea) (fun e => nomatch e) o0 (by omega) (by show 1 ≤ 1000; decide) fun r H8 s8 er => ?_
    rw [flat_rep] at er
    have e1 : H8 p3 = some (.tup [V.str sw]) := s8 _ _ (t67 _ _ (s6 _ _ upd_same))
    refine catA_of e1 er (Nat.le_of_lt (small20 (by rw [List.length_replicate, List.length_singleton]; omega))) fun r2 H9 s9 er2 => ?_
    have tv9 := ((tv1.mono t67).mono s8.tup).mono s9.tup
    refine q H9 _ (.t (.w sw :: List.replicate o.toNat (.t [.w "quote", .t []]))) (b03.trans (s4.but.trans (b5.trans (s56.but.trans (b7.trans (s8.trans s9).but))))) ((h7.but s8).but s9) (.t er2 (.cons (.w sw) (TrL.rep tv9 _))) ?_
    rw [wt_t, wtL_cons, wt_ok osw, wtL_rep _ (by decide +kernel)]
    omega
end
end K4

namespace K4
open PySem PySem.Spec PyProof.Rows L2
local macro_rules | `(tactic| walk_at "rd") => `(tactic| simp only [tSeq, tAsg, tVar, tOp, tUn, rU, tTup, tLst, tNil, tCons, tCall, tCallS, tCB, tB, tTest, tAnd, tOr, tNot, tAndV, tOrV, tNotV, tIf, tNext, tDrop, tRet, tRetN, tIfS, tCont, tNever, tSl, tNoPart, tPart, tBM, tBM0, tM1, gName, gSub, gTup, gNil, gCons, tC, rI, rI0, rEq, rNe, rIxL, rIxT, rIxS, rSetL, rAppend, rPop, rIn, rSlS, rSlL, rCat, rIndex, rExtT, tGv, tGvL, rLn, rInK, rIsX, tRev, tXf, tDGet1, tDIn, tDNotIn, sDPut, tDNewK, WE, tFor_eq, tLc_eq, iTup, iList, iRng1, iStr, iEnumT, cx_K, cx_prog, cx_w, List.getElem?_cons_succ, List.getElem?_cons_zero, Option.some.injEq, exists_eq_left', exists_eq_left, exists_and_left, V.ref.injEq, V.int.injEq, V.str.injEq, V.bl.injEq, V.ty.injEq, List.cons.injEq, List.set_cons_zero, List.set_cons_succ, and_assoc, true_and, and_true, List.append_nil, List.map_cons, List.map_nil, Int.sub_self, reduceCtorEq, false_and, and_false, or_false, false_or, exists_false, if_true, if_false, Bool.not_true, Bool.not_false, Bool.false_eq_true, decide_eq_true_eq, Bool.not_eq_true', decide_eq_false_iff_not, Int.zero_add])
local macro_rules | `(tactic| walk_at "gv") => `(tactic| (repeat (first | exact gvl_nil | refine gvl_cons ?_ ?_ | exact gv_str | exact gv_gv | (exact gv_var (by assumption)) | refine gv_tup ?_)))
local macro_rules | `(tactic| walk_at "nx") => `(tactic| simp only [tSeq, List.set_cons_zero, List.set_cons_succ])
local macro_rules | `(tactic| walk_at "exd") => `(tactic| (repeat (first | exact ExD.word _ _ | exact ExD.quote _ _ | exact exdl_nil | refine exdl_cons ?_ ?_ | refine ExD.call ?_)))

def spBent (m : Nat) : Sp := fun vs H Q _ => ∃ (x : Hd) (pa : Addr) (fs : List Tr) (v : V) (t : Tr) (d : Nat), vs = [.ref x.g, .ref pa, v, .int d] ∧ d < m ∧ Hand x H ∧ TrV H (.t fs) (.ref pa) ∧ Prog2 fs ∧ TrV H t v ∧ wt t ≤ 3000 ∧
  ∀ (H' : Hp) (v' : V) (t' : Tr), But x.g H H' → Hand x H' → TrV H' t' v' → wt t' ≤ 2 * wt t + 20 → Q v' H'
section
variable {P : Program} {w : World} {K : PySem.W.Frag} {mg : Str → Option Value} {base : Heap} {F : Fs}
theorem ok_bent1 (T : Tx w K mg F) {m : Nat} (G__law_bent : FnOk P w K mg base CX0 (m + 2) F.f__law_bent F.d__law_bent ["_law_hand", "_law_program_here", "_law_value_here", "_law_depth"] (spBent m)) :
    FnOk P w K mg base CX0 (m + 3) F.f__law_bent F.d__law_bent ["_law_hand", "_law_program_here", "_law_value_here", "_law_depth"] (spBent (m + 1)) := by
  have G__law_take := ok_take (P := P) (base := base) T
  have G__law_odd := ok_odd (P := P) (base := base) T
  refine T.F__law_bent.ok sc_law_bent (fun vs H Q E h => ?_) (fun cdv A outer s H vs Q E hr h => ?_)
  · obtain ⟨x, pa, fs, v, t, d, rfl, _⟩ := h
    rfl
  obtain ⟨x, pa, fs, v, t, d, rfl, hd, hh, tp, pf, tv, tw, q⟩ := h
  have hr1 := hr
  refine ⟨_, (pss_cons (ps_set (i := 4) sc_law_bent.nd rfl (Or.inl rfl) (pe_call G__law_take (hr.mono (by omega)) rfl T.m__law_take T.k__law_take T.b__law_take .nil pass0 (pa_cons (pv 0) (pa_cons pe_int pa_nil))))
      (pss_cons (ps_if (PW.pt (pw_or (pt_val (pe_callB call_isi rfl T.z_isinstance (by decide +kernel) (pa_cons (pv 2) (pa_cons (pe_bltn (v := .ty "str") (u := .type "str") rfl T.z_str (by decide +kernel) rfl) pa_nil)))) (pw_or (pt_cmpR op_eq (pv 4) pe_int (nomark _)) (pw_or (pt_cmpR op_eq (pe_callB call_len rfl T.z_len PySem.boot_len (pa_cons (pv 2) pa_nil)) pe_int (nomark _)) (pw_or1 (pt_cmpR op_eq (pv 3) pe_int (nomark _))))))) (pss_one (ps_ret (pe_call G__law_odd (hr.mono (by omega)) rfl T.m__law_odd T.k__law_odd T.b__law_odd .nil pass0 (pa_cons (pv 0) (pa_cons (pv 1) pa_nil))))) pss_nil)
      (pss_cons (ps_set (i := 5) sc_law_bent.nd rfl (Or.inl rfl) (pe_call G__law_take (hr.mono (by omega)) rfl T.m__law_take T.k__law_take T.b__law_take .nil pass0 (pa_cons (pv 0) (pa_cons (pe_callB call_len rfl T.z_len PySem.boot_len (pa_cons (pv 2) pa_nil)) pa_nil))))
      (pss_cons (ps_if (pt_cmpR op_eq (pv 4) pe_int (nomark _)) (pss_one (ps_ret (pe_op op_catA (pe_slice sl_tupA (pv 2) po_none (po_some (pv 5))) (pe_slice sl_tupA (pv 2) (po_some (pe_op op_add (pv 5) pe_int)) po_none)))) pss_nil)
      (pss_cons (ps_if (pt_cmpR op_eq (pv 4) pe_int (nomark _)) (pss_one (ps_ret (pe_op op_catA (pe_op op_catA (pe_slice sl_tupA (pv 2) po_none (po_some (pv 5))) (pe_tup (pa_cons (pe_call G__law_odd (hr.mono (by omega)) rfl T.m__law_odd T.k__law_odd T.b__law_odd .nil pass0 (pa_cons (pv 0) (pa_cons (pv 1) pa_nil))) pa_nil))) (pe_slice sl_tupA (pv 2) (po_some (pv 5)) po_none)))) pss_nil)
      (pss_cons (ps_if (pt_cmpR op_eq (pv 4) pe_int (nomark _)) (pss_one (ps_ret (pe_op op_catA (pe_op op_catA (pe_slice sl_tupA (pv 2) po_none (po_some (pv 5))) (pe_slice sl_tupA (pv 2) (po_some (pv 5)) (po_some (pe_op op_add (pv 5) pe_int)))) (pe_slice sl_tupA (pv 2) (po_some (pv 5)) po_none)))) pss_nil)
      (pss_one (ps_ret (pe_op op_catA (pe_op op_catA (pe_slice sl_tupA (pv 2) po_none (po_some (pv 5))) (pe_tup (pa_cons (pe_call G__law_bent hr1 rfl T.m__law_bent T.k__law_bent T.b__law_bent .nil pass0 (pa_cons (pv 0) (pa_cons (pv 1) (pa_cons (pe_ix ix_tup (pv 2) (pv 5) (fun _ _ => rfl)) (pa_cons (pe_op op_sub (pv 3) pe_int) pa_nil))))) pa_nil))) (pe_slice sl_tupA (pv 2) (po_some (pe_op op_add (pv 5) pe_int)) po_none)))))))))), ?_⟩
  rw [show start ["_law_hand", "_law_program_here", "_law_value_here", "_law_depth", "_law_kind", "_law_at"] [V.ref x.g, V.ref pa, v, V.int d] = [some (V.ref x.g), some (V.ref pa), some v, some (V.int d), none, none] from rfl]
  walk_at "rd"
  refine ⟨x, 8, rfl, by decide, hh, fun H1 k b1 h1 k0 k1 => ?_⟩
  have t01 := hh.tup b1
  have odd : ∀ (t : Tr), spOdd [V.ref x.g, V.ref pa] H1 Q E0 := fun t =>
    ⟨x, pa, fs, rfl, h1, tp.mono t01, pf, fun H2 v2 t2 b2 h2 tv2 tw2 => q H2 v2 t2 (b1.trans b2) h2 tv2 (by omega)⟩
  cases t with
  | w z =>
    obtain rfl := tv.word
    refine isi_w ?_
    walk_at "rd"
    exact odd (.w z)
  | t l =>
  obtain ⟨a, vs, rfl, ea, tl⟩ := tv.tup
  refine isi_t (t01 _ _ ea) ?_
  walk_at "rd"
  have ea1 := t01 _ _ ea
  have tl1 := tl.mono t01
  have lv := tl.len
  have lw := wtL_len l
  have wl : wt (.t l) = 1 + wtL l := wt_t l
  refine ⟨rfl, ?_⟩
  by_cases c : k = 0
  · rw [if_pos c]; exact odd (.w "")
  rw [if_neg c]
  refine ⟨_, lenT ea1, rfl, ?_⟩
  by_cases c2 : (vs.length : Int) = 0
  · rw [if_pos c2]; exact odd (.w "")
  rw [if_neg c2]
  refine ⟨rfl, ?_⟩
  by_cases c3 : (d : Int) = 0
  · rw [if_pos c3]; exact odd (.w "")
  rw [if_neg c3]
  refine ⟨_, lenT ea1, x, vs.length, rfl, by omega, h1, fun H2 j b2 h2 j0 j1 => ⟨rfl, ?_⟩⟩
  have t12 := h1.tup b2
  have b02 := b1.trans b2
  have ea2 := t12 _ _ ea1
  have tl2 := tl1.mono t12
  have tp2 := (tp.mono t01).mono t12
  have j0' : 0 ≤ j + 1 := by omega
  have en : (j + 1).toNat = j.toNat + 1 := by omega
  have hj : j.toNat < l.length := by omega
  have ej : l[j.toNat]? = some l[j.toNat] := List.getElem?_eq_getElem hj
  generalize l[j.toNat] = t1 at ej
  have wa := wtL_at ej
  have wsp := wtL_split l j.toNat
  have ll1 : (List.take j.toNat vs).length ≤ vs.length := by rw [List.length_take]; exact Nat.min_le_right _ _
  have ll2 : (List.drop j.toNat vs).length ≤ vs.length := by rw [List.length_drop]; omega
  have ll3 : (List.drop (j.toNat + 1) vs).length ≤ vs.length := by rw [List.length_drop]; omega
  by_cases c4 : k = 1
  · rw [if_pos c4]
    refine ⟨j, rfl, slA_of ea2 fun r3 H3 s3 e3 => ⟨j, rfl, slA_of (s3 _ _ ea2) fun r4 H4 s4 e4 => ?_⟩⟩
    rw [cutV_to _ j0] at e3
    rw [cutV_from _ j0', en] at e4
    refine catA_of (s4 _ _ e3) e4 (Nat.le_of_lt (small20 (by omega))) fun r5 H5 s5 e5 => ?_
    have s25 := s3.trans (s4.trans s5)
    have tl5 := tl2.mono s25.tup
    refine q H5 _ (.t (l.take j.toNat ++ l.drop (j.toNat + 1))) (b02.trans s25.but) (h2.but s25) (.t e5 ((tl5.take _).append (tl5.drop _))) ?_
    rw [wt_t, wtL_append, wl]; omega
  rw [if_neg c4]
  refine ⟨rfl, ?_⟩
  by_cases c5 : k = 2
  · rw [if_pos c5]
    refine ⟨j, rfl, slA_of ea2 fun r3 H3 s3 e3 => ?_⟩
    rw [cutV_to _ j0] at e3
    refine ⟨x, pa, fs, rfl, h2.but s3, tp2.mono s3.tup, pf, fun H4 v4 t4 b4 h4 tv4 tw4 => ⟨by show 1 ≤ sizeLine; decide, fun p hp => ?_⟩⟩
    have t34 := (h2.but s3).tup b4
    have n4 := same_new hp (.tup [v4])
    refine catA_of (n4 _ _ (t34 _ _ e3)) upd_same (Nat.le_of_lt (small20 (by rw [List.length_singleton]; omega))) fun r5 H5 s5 e5 => ⟨j, rfl, slA_of (s5 _ _ (n4 _ _ (t34 _ _ (s3 _ _ ea2)))) fun r6 H6 s6 e6 => ?_⟩
    rw [cutV_from _ j0] at e6
    refine catA_of (s6 _ _ e5) e6 (Nat.le_of_lt (small20 (by rw [List.length_append, List.length_singleton]; omega))) fun r7 H7 s7 e7 => ?_
    have s47 := n4.trans (s5.trans (s6.trans s7))
    have tl7 := ((tl2.mono s3.tup).mono t34).mono s47.tup
    refine q H7 _ (.t ((l.take j.toNat ++ [t4]) ++ l.drop j.toNat)) (b02.trans (s3.but.trans (b4.trans s47.but))) (h4.but s47) (.t e7 (((tl7.take _).append (.one (tv4.mono s47.tup))).append (tl7.drop _))) ?_
    rw [wt_t, wtL_append, wtL_append, wtL_cons, wtL_nil, wl]; omega
  rw [if_neg c5]
  refine ⟨rfl, ?_⟩
  by_cases c6 : k = 3
  · rw [if_pos c6]
    refine ⟨j, rfl, slA_of ea2 fun r3 H3 s3 e3 => ⟨j, rfl, j, rfl, slA_of (s3 _ _ ea2) fun r4 H4 s4 e4 => ?_⟩⟩
    rw [cutV_to _ j0] at e3
    rw [cutV_between _ j0 (by omega), en, show j.toNat + 1 - j.toNat = 1 by omega] at e4
    have ll4 : ((vs.drop j.toNat).take 1).length ≤ 1 := by rw [List.length_take]; exact Nat.min_le_left _ _
    refine catA_of (s4 _ _ e3) e4 (Nat.le_of_lt (small20 (by omega))) fun r5 H5 s5 e5 => ⟨j, rfl, slA_of (s5 _ _ (s4 _ _ (s3 _ _ ea2))) fun r6 H6 s6 e6 => ?_⟩
    rw [cutV_from _ j0] at e6
    refine catA_of (s6 _ _ e5) e6 (Nat.le_of_lt (small20 (by rw [List.length_append]; omega))) fun r7 H7 s7 e7 => ?_
    have s27 := s3.trans (s4.trans (s5.trans (s6.trans s7)))
    have tl7 := tl2.mono s27.tup
    have w1 := wtL_take (l.drop j.toNat) 1
    refine q H7 _ (.t ((l.take j.toNat ++ (l.drop j.toNat).take 1) ++ l.drop j.toNat)) (b02.trans s27.but) (h2.but s27) (.t e7 (((tl7.take _).append ((tl7.drop _).take 1)).append (tl7.drop _))) ?_
    rw [wt_t, wtL_append, wtL_append, wl]; omega
  rw [if_neg c6]
  refine ⟨j, rfl, slA_of ea2 fun r3 H3 s3 e3 => ?_⟩
  rw [cutV_to _ j0] at e3
  obtain ⟨v1, hv1, tv1⟩ := (tl2.mono s3.tup).get ej
  refine ⟨_, j, rfl, SqT.of (s3 _ _ ea2), v1, atI_at j0 hv1, ?_⟩
  refine ⟨x, pa, fs, v1, t1, d - 1, by rw [show ((d - 1 : Nat) : Int) = (d : Int) - 1 by omega], by omega, h2.but s3, tp2.mono s3.tup, pf, tv1, by omega, fun H4 v4 t4 b4 h4 tv4 tw4 => ⟨by show 1 ≤ sizeLine; decide, fun p hp => ?_⟩⟩
  have t34 := (h2.but s3).tup b4
  have n4 := same_new hp (.tup [v4])
  refine catA_of (n4 _ _ (t34 _ _ e3)) upd_same (Nat.le_of_lt (small20 (by rw [List.length_singleton]; omega))) fun r5 H5 s5 e5 => ⟨j, rfl, slA_of (s5 _ _ (n4 _ _ (t34 _ _ (s3 _ _ ea2)))) fun r6 H6 s6 e6 => ?_⟩
  rw [cutV_from _ j0', en] at e6
  refine catA_of (s6 _ _ e5) e6 (Nat.le_of_lt (small20 (by rw [List.length_append, List.length_singleton]; omega))) fun r7 H7 s7 e7 => ?_
  have s47 := n4.trans (s5.trans (s6.trans s7))
  have tl7 := ((tl2.mono s3.tup).mono t34).mono s47.tup
  refine q H7 _ (.t ((l.take j.toNat ++ [t4]) ++ l.drop (j.toNat + 1))) (b02.trans (s3.but.trans (b4.trans s47.but))) (h4.but s47) (.t e7 (((tl7.take _).append (.one (tv4.mono s47.tup))).append (tl7.drop _))) ?_
  rw [wt_t, wtL_append, wtL_append, wtL_cons, wtL_nil, wl]; omega
theorem ok_bent (T : Tx w K mg F) : ∀ m, FnOk P w K mg base CX0 (m + 2) F.f__law_bent F.d__law_bent ["_law_hand", "_law_program_here", "_law_value_here", "_law_depth"] (spBent m)
  | 0 => fn_never fun vs H Q E h => by obtain ⟨_, _, _, _, _, d, _, h, _⟩ := h; omega
  | m + 1 => ok_bent1 T (ok_bent T m)
end
end K4

namespace K4
open PySem PySem.Spec PyProof.Rows L2
local macro_rules | `(tactic| walk_at "rd") => `(tactic| simp only [tSeq, tAsg, tVar, tOp, tUn, rU, tTup, tLst, tNil, tCons, tCall, tCallS, tCB, tB, tTest, tAnd, tOr, tNot, tAndV, tOrV, tNotV, tIf, tNext, tDrop, tRet, tRetN, tIfS, tCont, tNever, tSl, tNoPart, tPart, tBM, tBM0, tM1, gName, gSub, gTup, gNil, gCons, tC, rI, rI0, rEq, rNe, rIxL, rIxT, rIxS, rSetL, rAppend, rPop, rIn, rSlS, rSlL, rCat, rIndex, rExtT, tGv, tGvL, rLn, rInK, rIsX, tRev, tXf, tDGet1, tDIn, tDNotIn, sDPut, tDNewK, WE, tFor_eq, tLc_eq, iTup, iList, iRng1, iStr, iEnumT, cx_K, cx_prog, cx_w, List.getElem?_cons_succ, List.getElem?_cons_zero, Option.some.injEq, exists_eq_left', exists_eq_left, exists_and_left, V.ref.injEq, V.int.injEq, V.str.injEq, V.bl.injEq, V.ty.injEq, List.cons.injEq, List.set_cons_zero, List.set_cons_succ, and_assoc, true_and, and_true, List.append_nil, List.map_cons, List.map_nil, Int.sub_self, reduceCtorEq, false_and, and_false, or_false, false_or, exists_false, if_true, if_false, Bool.not_true, Bool.not_false, Bool.false_eq_true, decide_eq_true_eq, Bool.not_eq_true', decide_eq_false_iff_not, Int.zero_add])
local macro_rules | `(tactic| walk_at "gv") => `(tactic| (repeat (first | exact gvl_nil | refine gvl_cons ?_ ?_ | exact gv_str | exact gv_gv | (exact gv_var (by assumption)) | refine gv_tup ?_)))
local macro_rules | `(tactic| walk_at "nx") => `(tactic| simp only [tSeq, List.set_cons_zero, List.set_cons_succ])
local macro_rules | `(tactic| walk_at "exd") => `(tactic| (repeat (first | exact ExD.word _ _ | exact ExD.quote _ _ | exact exdl_nil | refine exdl_cons ?_ ?_ | refine ExD.call ?_)))

theorem cutT {H : Hp} {l : List Tr} {vs : List V} (lo hi : Option Int) (h : TrL H l vs) : ∃ l', TrL H l' (cutV vs lo hi) ∧ wtL l' ≤ wtL l ∧ l'.length ≤ l.length := by
  unfold cutV
  refine ⟨_, (h.drop _).take _, Nat.le_trans (wtL_take _ _) (wtL_drop _ _), ?_⟩
  rw [List.length_take, List.length_drop]; omega
theorem wide_tail {K : PySem.W.Frag} {x : Hd} {HB : Hp} {vp vc : V} {par call : Tr} {Q : VK} (tvp : TrV HB par vp) (tvc : TrV HB call vc) (wp : wt par ≤ 100) (wc : wt call ≤ 100) (hB : Hand x HB)
    (q : ∀ (H' : Hp) (v : V) (t : Tr), But x.g HB H' → Hand x H' → TrV H' t v → wt t ≤ 2000 → Q v H') :
    ∀ (v : V) (H' : Hp), Same HB H' → TrV H' (Tr.t [Tr.w "main", Tr.t [Tr.w "a"], Tr.w "a"]) v →
      [V.str "a", vc].length ≤ sizeLine ∧ ∀ (p : Addr), H' p = none →
        spTake [V.ref x.g, V.int 2] (upd H' p (HO.lst [V.str "a", vc])) (fun y H2 => ∃ x_1 x_2, y = V.int x_2 ∧ SqL K H2 p x_1 ∧ ∃ x_3, atI x_1 x_2 = some x_3 ∧
          [V.str "f1", vp, x_3].length ≤ sizeLine ∧ ∀ (p : Addr), H2 p = none → [v, V.ref p].length ≤ sizeLine ∧ ∀ (p_1 : Addr), upd H2 p (HO.tup [V.str "f1", vp, x_3]) p_1 = none →
            ∃ x_4 x_5, upd (upd H2 p (HO.tup [V.str "f1", vp, x_3])) p_1 (HO.tup [v, V.ref p]) p_1 = some (HO.tup [x_4, x_5]) ∧
              ∀ (p_2 : Addr), upd (upd H2 p (HO.tup [V.str "f1", vp, x_3])) p_1 (HO.tup [v, V.ref p]) p_2 = none → [V.ref p_1, V.ref p_2].length ≤ sizeLine ∧
                ∀ (p_3 : Addr), upd (upd (upd H2 p (HO.tup [V.str "f1", vp, x_3])) p_1 (HO.tup [v, V.ref p])) p_2 (HO.tup [x_5, x_4]) p_3 = none →
                  spTake [V.ref x.g, V.int 2] (upd (upd (upd (upd H2 p (HO.tup [V.str "f1", vp, x_3])) p_1 (HO.tup [v, V.ref p])) p_2 (HO.tup [x_5, x_4])) p_3 (HO.lst [V.ref p_1, V.ref p_2]))
                    (fun y H2 => ∃ x x_6, y = V.int x_6 ∧ SqL K H2 p_3 x ∧ ∃ x_7, atI x x_6 = some x_7 ∧ Q x_7 H2) E0) E0 := by
  intro v H1 s1 tv
  have h1 := hB.but s1
  refine ⟨by show 2 ≤ sizeLine; decide, fun p hp => ⟨x, 2, rfl, by decide, h1.new hp _, fun H2 k b2 h2 k0 k1 => ?_⟩⟩
  have t12 : Tup H1 H2 := (Tup.new hp _).trans ((h1.new hp _).tup b2)
  have n1 := (h1.free hp).1
  have oa : okS "a" = true := by decide +kernel
  have of1 : okS "f1" = true := by decide +kernel
  obtain ⟨v3, t3, hv3, tv3, tw3⟩ : ∃ (v3 : V) (t3 : Tr), atI [V.str "a", vc] k = some v3 ∧ TrV H2 t3 v3 ∧ wt t3 ≤ 100 := by
    have c : k = 0 ∨ k = 1 := by omega
    rcases c with rfl | rfl
    · exact ⟨_, .w "a", rfl, .w _, by rw [wt_ok oa]; decide⟩
    · exact ⟨_, call, rfl, (tvc.mono s1.tup).mono t12, wc⟩
  have s2 : ∀ a o, a ≠ x.g → H1 a = some o → H2 a = some o := fun a o n e => b2 a o n (same_new hp _ _ _ e)
  refine ⟨_, k, rfl, SqL.of (b2 _ _ n1 upd_same), v3, hv3, by show 3 ≤ sizeLine; decide, fun p3 hp3 => ⟨by show 2 ≤ sizeLine; decide, fun p4 hp4 => ?_⟩⟩
  have par2 := (tvp.mono s1.tup).mono t12
  have tv2 := tv.mono t12
  generalize eH3 : upd H2 p3 (HO.tup [V.str "f1", vp, v3]) = H3 at hp4 ⊢
  have s23 : Same H2 H3 := by rw [← eH3]; exact same_new hp3 _
  have e3 : H3 p3 = some (.tup [V.str "f1", vp, v3]) := by rw [← eH3]; exact upd_same
  have fn3 : TrV H3 (.t [.w "f1", par, t3]) (.ref p3) := .t e3 (.cons (.w _) (.cons (par2.mono s23.tup) (.one (tv3.mono s23.tup))))
  refine ⟨_, _, upd_same, fun p5 hp5 => ⟨by show 2 ≤ sizeLine; decide, fun p6 hp6 => ?_⟩⟩
  generalize eH4 : upd H3 p4 (HO.tup [v, V.ref p3]) = H4 at hp5 hp6 ⊢
  have s34 : Same H3 H4 := by rw [← eH4]; exact same_new hp4 _
  have e4 : H4 p4 = some (.tup [v, V.ref p3]) := by rw [← eH4]; exact upd_same
  generalize eH5 : upd H4 p5 (HO.tup [V.ref p3, v]) = H5 at hp6 ⊢
  have s45 : Same H4 H5 := by rw [← eH5]; exact same_new hp5 _
  have e5 : H5 p5 = some (.tup [V.ref p3, v]) := by rw [← eH5]; exact upd_same
  have h5 := ((h2.but s23).but s34).but s45
  have n6 := (h5.free hp6).1
  refine ⟨x, 2, rfl, by decide, h5.new hp6 _, fun H7 j b7 h7 j0 j1 => ?_⟩
  have s57 : Tup H5 H7 := (Tup.new hp6 _).trans ((h5.new hp6 _).tup b7)
  have tm7 := ((tv2.mono (s23.trans (s34.trans s45)).tup)).mono s57
  have fn7 := (fn3.mono (s34.trans s45).tup).mono s57
  have b07 : But x.g HB H7 := s1.but.trans ((But.new hp _).trans (b2.trans ((s23.trans (s34.trans s45)).but.trans ((But.new hp6 _).trans b7))))
  have wf : wt (.t [.w "f1", par, t3]) ≤ 300 := by
    rw [wt_t, wtL_cons, wtL_cons, wtL_cons, wtL_nil, wt_ok of1]; omega
  have wm : wt (Tr.t [Tr.w "main", Tr.t [Tr.w "a"], Tr.w "a"]) ≤ 10 := by decide +kernel
  have c : j = 0 ∨ j = 1 := by omega
  rcases c with rfl | rfl
  · exact ⟨_, 0, rfl, SqL.of (b7 _ _ n6 upd_same), _, rfl, q H7 _ (.t [_, _]) b07 h7 (.t (s57 _ _ (s45 _ _ e4)) (.cons tm7 (.one fn7))) (by rw [wt_t, wtL_cons, wtL_cons, wtL_nil]; omega)⟩
  · exact ⟨_, 1, rfl, SqL.of (b7 _ _ n6 upd_same), _, rfl, q H7 _ (.t [_, _]) b07 h7 (.t (s57 _ _ e5) (.cons fn7 (.one tm7))) (by rw [wt_t, wtL_cons, wtL_cons, wtL_nil]; omega)⟩
theorem ixN_of {n : Nat} {k : Int} (h0 : 0 ≤ k) (h1 : k < n) : ixN n k = some k.toNat := by
  unfold ixN
  rw [if_pos h0, if_pos h1]
theorem wtL_set {n : Nat} {l : List Tr} {t : Tr} (i : Nat) (h : ∀ x ∈ l, wt x ≤ n) (ht : wt t ≤ n) : ∀ x ∈ l.set i t, wt x ≤ n := fun x hx => by
  rcases List.mem_or_eq_of_mem_set hx with h' | h'
  · exact h x h'
  · rw [h']; exact ht
def NSlots (σ : L2.St) (g : Addr) (n : Int) (fa : Addr) : Prop := ∃ u : Option V, σ = [some (V.ref g), some (V.int n), some (V.ref fa), u, none, none]
def DSlots (σ : L2.St) (g : Addr) (v0 bv vv : V) : Prop := ∃ u1 u2 : Option V, σ = [some (V.ref g), some v0, some bv, some vv, u1, u2]
def DInv (x : Hd) (v0 : V) (H : Hp) (i : Nat) (σ : L2.St) (H' : Hp) : Prop := ∃ (bv vv : V) (bt vt : Tr), DSlots σ x.g v0 bv vv ∧ But x.g H H' ∧ Hand x H' ∧ TrV H' bt bv ∧ TrV H' vt vv ∧ wt bt ≤ 20 + 3 * i ∧ wt vt ≤ 1 + i
def spMade : Sp := fun vs H Q _ => ∃ (x : Hd), vs = [.ref x.g] ∧ Hand x H ∧
  ∀ (H' : Hp) (v : V) (t : Tr), But x.g H H' → Hand x H' → TrV H' t v → wt t ≤ 2000 → Q v H'
def spDeep : Sp := fun vs H Q _ => ∃ (x : Hd) (v0 : V) (t0 : Tr), vs = [.ref x.g, v0] ∧ Hand x H ∧ TrV H t0 v0 ∧ wt t0 ≤ 20 ∧
  ∀ (H' : Hp) (v : V) (t : Tr), But x.g H H' → Hand x H' → TrV H' t v → wt t ≤ 2000 → Q v H'
section
variable {P : Program} {w : World} {K : PySem.W.Frag} {mg : Str → Option Value} {base : Heap} {F : Fs}
theorem ok_wide (T : Tx w K mg F) : FnOk P w K mg base CX0 2 F.f__law_wide F.d__law_wide ["_law_hand"] spMade := by
  have G__law_take := ok_take (P := P) (base := base) T
  refine T.F__law_wide.ok sc_law_wide (fun vs H Q E h => ?_) (fun cdv A outer s H vs Q E hr h => ?_)
  · obtain ⟨x, rfl, _⟩ := h
    rfl
  obtain ⟨x, rfl, hh, q⟩ := h
  refine ⟨_, (pss_cons (ps_set (i := 1) sc_law_wide.nd rfl (Or.inr rfl) pe_str)
      (pss_cons (ps_set (i := 2) sc_law_wide.nd rfl (Or.inl rfl) (pe_op op_add pe_int (pe_call G__law_take (hr.mono (by decide)) rfl T.m__law_take T.k__law_take T.b__law_take .nil pass0 (pa_cons (pv 0) (pa_cons pe_int pa_nil)))))
      (pss_cons (ps_set (i := 3) sc_law_wide.nd rfl (Or.inl rfl) (pe_callTy call_tuple_of rfl T.z_tuple (by decide +kernel) (pa_cons (pe_lc (own := [(("_law_k" : Str), 6)]) (g := gName 6) (tt := tYes) rfl sc_law_wide.nd (pi_range1 rfl T.z_range (pa_cons (pv 2) pa_nil)) (blkOk_by (N := N__law_wide) (sc := defScope s__law_wide) (by decide +kernel)) (fun _ _ _ _ _ => pg_name (i := 6) sc_law_wide.nd rfl (Or.inl rfl)) (fun _ _ _ _ _ => pts_nil) (fun _ _ _ _ _ => (pe_ix ix_str (pv 1) (pv 6) (fun _ _ => rfl)))) pa_nil)))
      (pss_cons (ps_set (i := 4) sc_law_wide.nd rfl (Or.inl rfl) (pe_op op_catA (pe_gv (t := (.t [(.w "f1")])) (pe_tup (pa_cons pe_str pa_nil)) (fun _ _ => by walk_at "gv")) (pe_slice sl_tupA (pv 3) po_none (po_some (pe_op op_sub (pv 2) (pe_call G__law_take (hr.mono (by decide)) rfl T.m__law_take T.k__law_take T.b__law_take .nil pass0 (pa_cons (pv 0) (pa_cons pe_int pa_nil))))))))
      (pss_cons (ps_if (pt_cmpR op_eq (pe_call G__law_take (hr.mono (by decide)) rfl T.m__law_take T.k__law_take T.b__law_take .nil pass0 (pa_cons (pv 0) (pa_cons pe_int pa_nil))) pe_int (nomark _)) (pss_one (ps_set (i := 3) sc_law_wide.nd rfl (Or.inl rfl) (pe_op op_catA (pe_slice sl_tupA (pv 3) po_none (po_some (pe_un un_neg pe_int))) (pe_tup (pa_cons (pe_ix ix_list (pe_lst (pa_cons pe_str (pa_cons pe_str (pa_cons pe_str pa_nil)))) (pe_call G__law_take (hr.mono (by decide)) rfl T.m__law_take T.k__law_take T.b__law_take .nil pass0 (pa_cons (pv 0) (pa_cons pe_int pa_nil))) (fun _ _ => rfl)) pa_nil))))) pss_nil)
      (pss_cons (ps_set (i := 5) sc_law_wide.nd rfl (Or.inl rfl) (pe_tup (pa_cons (pe_gv (t := (.t [(.w "main"), (.t [(.w "a")]), (.w "a")])) (pe_tup (pa_cons pe_str (pa_cons (pe_gv (t := (.t [(.w "a")])) (pe_tup (pa_cons pe_str pa_nil)) (fun _ _ => by walk_at "gv")) (pa_cons pe_str pa_nil)))) (fun _ _ => by walk_at "gv")) (pa_cons (pe_tup (pa_cons pe_str (pa_cons (pv 3) (pa_cons (pe_ix ix_list (pe_lst (pa_cons pe_str (pa_cons (pv 4) pa_nil))) (pe_call G__law_take (hr.mono (by decide)) rfl T.m__law_take T.k__law_take T.b__law_take .nil pass0 (pa_cons (pv 0) (pa_cons pe_int pa_nil))) (fun _ _ => rfl)) pa_nil)))) pa_nil))))
      (pss_one (ps_ret (pe_ix ix_list (pe_lst (pa_cons (pv 5) (pa_cons (pe_rev rfl (pv 5)) pa_nil))) (pe_call G__law_take (hr.mono (by decide)) rfl T.m__law_take T.k__law_take T.b__law_take .nil pass0 (pa_cons (pv 0) (pa_cons pe_int pa_nil))) (fun _ _ => rfl)))))))))), ?_⟩
  rw [show start ["_law_hand", "_law_letters", "_law_many_here", "_law_parameters", "_law_call", "_law_functions", "_law_k"] [V.ref x.g] = [some (V.ref x.g), none, none, none, none, none, none] from rfl]
  walk_at "rd"
  refine ⟨x, 3, rfl, by decide, hh, fun H1 k b1 h1 k0 k1 => ⟨k, rfl, by omega, by omega, fun L hL => ?_⟩⟩
  have nL := (h1.free hL).1
  refine lcj_range (n := (11 + k).toNat) (NInv H1 L) ⟨[], rfl, same_new hL _, upd_same, rfl⟩ ?_ ?_
  · rintro i H' hi ⟨old, el, s', eL, ho⟩
    walk_at "rd"
    have e8 : (Str.ofString "abcdeghijklmnop").cps.toList = [97, 98, 99, 100, 101, 103, 104, 105, 106, 107, 108, 109, 110, 111, 112] := by decide +kernel
    obtain ⟨ch, hch, _⟩ := atI_of (xs := (Str.ofString "abcdeghijklmnop").cps.toList) (show (0 : Int) ≤ i by omega) (by rw [e8]; show (i : Int) < 15; omega)
    refine ⟨by decide +kernel, ch, hch, old.map V.str, eL, small20 (by rw [List.length_map]; omega), old ++ [⟨#[ch]⟩], by rw [List.length_append, el]; rfl, s'.over hL _, by rw [upd_same, List.map_append]; rfl, ?_⟩
    rw [List.all_append, ho, List.all_cons]; rfl
  rintro H2 ⟨ws, lw, s2, eL, ow⟩
  have h2 := h1.but s2
  have b02 := b1.trans s2.but
  refine ⟨L, rfl, ws.map V.str, .inl ⟨SqL.of eL, fun l hl v H3 s3 tv => ?_⟩⟩
  have s23 : Same H2 H3 := (same_new hl _).trans s3
  have el3 : H3 l = some (.tup (ws.map V.str)) := s3 _ _ upd_same
  obtain ⟨av, uv, rfl, eav, tlv⟩ := tv.tup
  have h3 := h2.but s23
  refine ⟨x, 2, rfl, by decide, h3, fun H4 j b4 h4 j0 j1 => ⟨j, rfl, ?_⟩⟩
  have t34 := h3.tup b4
  have el4 := t34 _ _ el3
  have lwm : (ws.map V.str).length = ws.length := List.length_map _
  refine slA_of el4 fun r H5 s5 e5 => ?_
  obtain ⟨l5, tl5, wl5, ll5⟩ := cutT none (some (11 + k - j)) (wds_val (H := H5) ws)
  have lwd : (wds ws).length = ws.length := List.length_map _
  have wwd := wds_wt ow
  have lcut := tl5.len
  have luv := tlv.len
  refine catA_of (s5 _ _ (t34 _ _ eav)) e5 (Nat.le_of_lt (small20 (by rw [luv]; show 1 + _ ≤ _; omega))) fun rc H6 s6 e6 => ?_
  have s46 := s5.trans s6
  have call6 : TrV H6 (.t ([.w "f1"] ++ l5)) (.ref rc) := .t e6 (((tlv.mono t34).mono s46.tup).append (tl5.mono s6.tup))
  have h6 := h4.but s46
  have b06 : But x.g H H6 := b02.trans (s23.but.trans (b4.trans s46.but))
  refine ⟨x, 3, rfl, by decide, h6, fun H7 i b7 h7 i0 i1 => ⟨rfl, ?_⟩⟩
  have t67 := h6.tup b7
  have el7 := t67 _ _ (s46 _ _ el4)
  have call7 := call6.mono t67
  have wcall : wt (.t ([.w "f1"] ++ l5)) ≤ 100 := by
    rw [wt_t, wtL_append, wtL_cons, wtL_nil, wt_ok (show okS "f1" = true by decide +kernel)]; omega
  have b07 := b06.trans b7
  by_cases c : V.int i = V.int 0
  · rw [if_pos c]
    refine slA_of el7 fun r8 H8 s8 e8 => ?_
    obtain ⟨l8, tl8, wl8, ll8⟩ := cutT none (some (-1)) (wds_val (H := H8) ws)
    have lcut8 := tl8.len
    refine ⟨by show 3 ≤ sizeLine; decide, fun p9 hp9 => ?_⟩
    generalize eH9 : upd H8 p9 (HO.lst [V.str (Str.ofString "a"), V.str (Str.ofString "head"), V.str (Str.ofString "f1")]) = H9
    have e9 : H9 p9 = some (.lst [V.str (Str.ofString "a"), V.str (Str.ofString "head"), V.str (Str.ofString "f1")]) := by rw [← eH9]; exact upd_same
    have s89 : Same H8 H9 := by rw [← eH9]; exact same_new hp9 _
    have s79 := s8.trans s89
    have h9 := h7.but s79
    have n9 := ((h7.but s8).free hp9).1
    refine ⟨x, 3, rfl, by decide, h9, fun HA o bA hA o0 o1 => ?_⟩
    obtain ⟨pz, hz, opz, _⟩ := pick (ws := ["a", "head", "f1"]) (by decide +kernel) o0 o1
    have tA := h9.tup bA
    refine ⟨_, o, rfl, SqL.of (bA _ _ n9 e9), V.str pz, hz, by show 1 ≤ sizeLine; decide, fun pB hpB => ?_⟩
    refine catA_of (Tup.new hpB _ _ _ (tA _ _ (s89 _ _ e8))) upd_same (Nat.le_of_lt (small20 (by rw [List.length_singleton]; omega))) fun rB HB sB eB => ?_
    have sAB := (same_new hpB (.tup [V.str pz])).trans sB
    have par : TrV HB (.t (l8 ++ [.w pz])) (.ref rB) := .t eB ((((tl8.mono s89.tup).mono tA).mono sAB.tup).append (.one (.w pz)))
    have wpar : wt (.t (l8 ++ [.w pz])) ≤ 100 := by
      rw [wt_t, wtL_append, wtL_cons, wtL_nil, wt_ok opz]; omega
    have callB := ((call7.mono s79.tup).mono tA).mono sAB.tup
    have hB := hA.but sAB
    have b0B := b07.trans (s79.but.trans (bA.trans sAB.but))
    exact wide_tail par callB wpar (by omega) hB fun H' v t b' h' tv tw => q H' v t (b0B.trans b') h' tv tw
  · rw [if_neg c]
    refine wide_tail (.t el7 (wds_val ws)) call7 (by rw [wt_t]; omega) (by omega) h7 fun H' v t b' h' tv tw => q H' v t (b07.trans b') h' tv tw
theorem ok_numbered (T : Tx w K mg F) : FnOk P w K mg base CX0 2 F.f__law_numbered F.d__law_numbered ["_law_hand"] spMade := by
  have G__law_take := ok_take (P := P) (base := base) T
  refine T.F__law_numbered.ok sc_law_numbered (fun vs H Q E h => ?_) (fun cdv A outer s H vs Q E hr h => ?_)
  · obtain ⟨x, rfl, _⟩ := h
    rfl
  obtain ⟨x, rfl, hh, q⟩ := h
  refine ⟨_, (pss_cons (ps_set (i := 1) sc_law_numbered.nd rfl (Or.inl rfl) (pe_op op_add pe_int (pe_call G__law_take (hr.mono (by decide)) rfl T.m__law_take T.k__law_take T.b__law_take .nil pass0 (pa_cons (pv 0) (pa_cons pe_int pa_nil)))))
      (pss_cons (ps_set (i := 2) sc_law_numbered.nd rfl (Or.inl rfl) (pe_lst pa_nil))
      (pss_cons (ps_for PassesOwn.never rfl (pi_range1 rfl T.z_range (pa_cons (pv 1) pa_nil)) (pg_name (i := 3) sc_law_numbered.nd rfl (Or.inl rfl)) (pss_one (ps_expr (pe_bm PySem.F.plainAttrs_list PySem.F.slot_list_append PySem.F.type_list_append mt_append (pv 2) (pa_cons (pe_tup (pa_cons (pe_op op_add_str pe_str (pe_callTy call_str_int rfl T.z_str (by decide +kernel) (pa_cons (pe_op op_sub (pe_op op_sub (pv 1) pe_int) (pv 3)) pa_nil))) (pa_cons (pe_gv (t := (.t [])) (pe_tup pa_nil) (fun _ _ => by walk_at "gv")) (pa_cons (pe_gv (t := (.t [(.w "quote"), (.t [])])) (pe_tup (pa_cons pe_str (pa_cons (pe_gv (t := (.t [])) (pe_tup pa_nil) (fun _ _ => by walk_at "gv")) pa_nil))) (fun _ _ => by walk_at "gv")) pa_nil)))) pa_nil)))))
      (pss_cons (ps_set (i := 4) sc_law_numbered.nd rfl (Or.inl rfl) (pe_call G__law_take (hr.mono (by decide)) rfl T.m__law_take T.k__law_take T.b__law_take .nil pass0 (pa_cons (pv 0) (pa_cons (pv 1) pa_nil))))
      (pss_cons (ps_set (i := 5) sc_law_numbered.nd rfl (Or.inl rfl) (pe_ix ix_list (pe_lst (pa_cons (pe_op op_add_str pe_str (pe_callTy call_str_int rfl T.z_str (by decide +kernel) (pa_cons (pv 1) pa_nil))) (pa_cons (pe_op op_add_str pe_str (pe_callTy call_str_int rfl T.z_str (by decide +kernel) (pa_cons (pv 4) pa_nil))) (pa_cons (pe_op op_add_str pe_str (pe_callTy call_str_int rfl T.z_str (by decide +kernel) (pa_cons (pv 4) pa_nil))) (pa_cons (pe_op op_add_str pe_str (pe_callTy call_str_int rfl T.z_str (by decide +kernel) (pa_cons (pe_op op_sub (pv 1) pe_int) pa_nil))) (pa_cons pe_str pa_nil)))))) (pe_call G__law_take (hr.mono (by decide)) rfl T.m__law_take T.k__law_take T.b__law_take .nil pass0 (pa_cons (pv 0) (pa_cons pe_int pa_nil))) (fun _ _ => rfl)))
      (pss_cons (ps_asg (pe_tup (pa_cons (pv 5) (pa_cons (pe_gv (t := (.t [])) (pe_tup pa_nil) (fun _ _ => by walk_at "gv")) (pa_cons (pe_gv (t := (.t [(.w "f0")])) (pe_tup (pa_cons pe_str pa_nil)) (fun _ _ => by walk_at "gv")) pa_nil)))) (pg_sub (pv 2) (pv 4) set_list))
      (pss_one (ps_ret (pe_callTy call_tuple_of rfl T.z_tuple (by decide +kernel) (pa_cons (pv 2) pa_nil)))))))))), ?_⟩
  rw [show start ["_law_hand", "_law_many_here", "_law_functions", "_law_k", "_law_at", "_law_name"] [V.ref x.g] = [some (V.ref x.g), none, none, none, none, none] from rfl]
  walk_at "rd"
  refine ⟨x, 14, rfl, by decide, hh, fun H1 k b1 h1 k0 k1 => ⟨k, rfl, by decide, fun fa hfa => ⟨by omega, by omega, ?_⟩⟩⟩
  have nfa := (h1.free hfa).1
  have lf : (Str.ofString "f").length = 1 := by decide +kernel
  have lf0 : (Str.ofString "f0").length = 2 := by decide +kernel
  have sz : 100 ≤ sizeLine := by decide
  have num : ∀ i : Int, 0 ≤ i → i < 100 → i.natAbs.log2 < 1920 ∧ (Str.ofString "f").length + (Str.ofString (toString i)).length ≤ sizeLine ∧ okS (Str.ofString "f" ++ Str.ofString (toString i)) = true := by
    intro i h0 h1
    have a1 := num_len h0 h1
    exact ⟨num_log h0 h1, by omega, okS_of (by rw [str_app]; omega) (by rw [str_app]; omega)⟩
  refine loop_range (n := (1 + k).toNat) (fun i σ H' => NSlots σ x.g (1 + k) fa ∧ Grow x H1 fa (fun t => wt t ≤ 10) i H') ⟨⟨_, rfl⟩, Grow.start h1 hfa⟩ ?_ ?_
  · rintro i σ H' hi ⟨⟨u1, rfl⟩, gr⟩
    walk_at "rd"
    obtain ⟨ts, vs, el, b', h', efa, tl, rl⟩ := id gr
    obtain ⟨n1, n2, n3⟩ := num (1 + k - 1 - (i : Int)) (by omega) (by omega)
    refine ⟨.inl ⟨rfl, _, SqL.of efa⟩, n1, n2, ?_⟩
    intro v2 H3 s3 tv2 v3 H4 s4 tv3
    refine ⟨by show 3 ≤ sizeLine; decide, fun p hp => ?_⟩
    have s45 := same_new hp (.tup [V.str (Str.ofString "f" ++ Str.ofString (toString (1 + k - 1 - (i : Int)))), v2, v3])
    obtain ⟨acc, e1, e2, e3⟩ := gr.more h1 hfa (by omega) (s3.trans (s4.trans s45)).but (((h'.but s3).but s4).but s45) (.t (l := [.w _, .t [], .t [.w "quote", .t []]]) upd_same (.cons (.w _) (.cons (tv2.mono (s4.trans s45).tup) (.one (tv3.mono s45.tup))))) (by
      rw [wt_t, wtL_cons, wt_ok n3]
      have z : wtL [Tr.t [], Tr.t [Tr.w "quote", Tr.t []]] = 4 := by decide +kernel
      rw [z]; decide)
    exact ⟨acc, e1, e2, ⟨_, rfl⟩, e3⟩
  · rintro σ H' ⟨⟨u1, rfl⟩, ts, vs, el, b', h', efa, tl, rl⟩
    walk_at "rd"
    refine ⟨x, 1 + k, rfl, by omega, h', fun H2 j b2 h2 j0 j1 => ?_⟩
    obtain ⟨m1, m2, m3⟩ := num (1 + k) (by omega) (by omega)
    obtain ⟨n1, n2, n3⟩ := num j (by omega) (by omega)
    obtain ⟨o1, o2, o3⟩ := num (1 + k - 1) (by omega) (by omega)
    have a1 := num_len j0 (show j < 100 by omega)
    have n4 : okS (Str.ofString "f0" ++ Str.ofString (toString j)) = true := okS_of (by rw [str_app]; omega) (by rw [str_app]; omega)
    refine ⟨m1, m2, j, rfl, n1, by omega, j, rfl, n1, n2, o1, o2, by show 5 ≤ sizeLine; decide, fun p hp => ?_⟩
    refine ⟨x, 5, rfl, by decide, h2.new hp _, fun H3 i b3 h3 i0 i1 => ?_⟩
    obtain ⟨nm, hz, onm, _⟩ := pick (ws := [Str.ofString "f" ++ Str.ofString (toString (1 + k)), Str.ofString "f0" ++ Str.ofString (toString j), Str.ofString "f" ++ Str.ofString (toString j), Str.ofString "f" ++ Str.ofString (toString (1 + k - 1)), "f00"]) (by
      have a4 : okS "f00" = true := by decide +kernel
      simp only [List.all_cons, List.all_nil, m3, n4, n3, o3, a4, Bool.and_self]) i0 i1
    have np := (h2.free hp).1
    refine ⟨_, i, rfl, SqL.of (b3 _ _ np upd_same), V.str nm, hz, ?_⟩
    intro v2 H4 s4 tv2 v3 H5 s5 tv3
    refine ⟨by show 3 ≤ sizeLine; decide, fun p5 hp5 => ?_⟩
    have b23 : But x.g H' H3 := b2.trans ((But.new hp _).trans b3)
    have s56 := same_new hp5 (.tup [V.str nm, v2, v3])
    have s36 := s4.trans (s5.trans s56)
    have b26 := b23.trans s36.but
    have h6 := h3.but s36
    have ef6 := b26 _ _ nfa efa
    have tl6 := tl.mono (h'.tup b26)
    have lv := tl.len
    refine ⟨vs, j, rfl, ef6, j.toNat, ixN_of j0 (by omega), vs.set j.toNat (.ref p5), .inl ⟨SqL.of upd_same, fun l hl => ?_⟩⟩
    have t7 : Tup _ _ := Tup.lst ef6 (.lst (vs.set j.toNat (.ref p5)))
    have t8 := Tup.new hl (.tup (vs.set j.toNat (.ref p5)))
    have tn : TrV _ (.t [.w nm, .t [], .t [.w "f0"]]) (.ref p5) := .t upd_same (.cons (.w nm) (.cons (tv2.mono (s5.trans s56).tup) (.one (tv3.mono s56.tup))))
    have tl8 := TrL.set ((tn.mono t7).mono t8) j.toNat ((tl6.mono t7).mono t8)
    have hl1 : H1 fa = none := hfa
    have b17 := (b'.trans b26).over hfa (.lst (vs.set j.toNat (.ref p5)))
    have h7 := h1.over hfa h6 (.lst (vs.set j.toNat (.ref p5)))
    refine q _ _ (.t (ts.set j.toNat (.t [.w nm, .t [], .t [.w "f0"]]))) (b1.trans (b17.trans (But.new hl _))) (h7.new hl _) (.t upd_same tl8) ?_
    have z : ∀ y ∈ ts.set j.toNat (.t [.w nm, .t [], .t [.w "f0"]]), wt y ≤ 10 := wtL_set _ rl (by
      rw [wt_t, wtL_cons, wt_ok onm]
      have z : wtL [Tr.t [], Tr.t [Tr.w "f0"]] = 3 := by decide +kernel
      rw [z]; decide)
    have z2 := wtL_all z
    rw [List.length_set] at z2
    rw [wt_t]
    omega
theorem ok_deep (T : Tx w K mg F) : FnOk P w K mg base CX0 2 F.f__law_deep_body F.d__law_deep_body ["_law_hand", "_law_inner"] spDeep := by
  have G__law_take := ok_take (P := P) (base := base) T
  refine T.F__law_deep_body.ok sc_law_deep_body (fun vs H Q E h => ?_) (fun cdv A outer s H vs Q E hr h => ?_)
  · obtain ⟨x, v0, t0, rfl, _⟩ := h
    rfl
  obtain ⟨x, v0, t0, rfl, hh, tv, tw, q⟩ := h
  refine ⟨_, (pss_cons (ps_set (i := 2) sc_law_deep_body.nd rfl (Or.inl rfl) (pv 1))
      (pss_cons (ps_set (i := 3) sc_law_deep_body.nd rfl (Or.inl rfl) pe_str)
      (pss_cons (ps_for PassesOwn.never rfl (pi_range1 rfl T.z_range (pa_cons (pe_op op_add pe_int (pe_call G__law_take (hr.mono (by decide)) rfl T.m__law_take T.k__law_take T.b__law_take .nil pass0 (pa_cons (pv 0) (pa_cons pe_int pa_nil)))) pa_nil)) (pg_name (i := 4) sc_law_deep_body.nd rfl (Or.inl rfl)) (pss_cons (ps_set (i := 5) sc_law_deep_body.nd rfl (Or.inl rfl) (pe_op op_mod (pe_callTy call_int1 rfl T.z_int (by decide +kernel) (pa_cons (pv 4) pa_nil)) pe_int))
      (pss_cons (ps_set (i := 2) sc_law_deep_body.nd rfl (Or.inl rfl) (pe_ix ix_list (pe_lst (pa_cons (pe_tup (pa_cons pe_str (pa_cons (pv 2) pa_nil))) (pa_cons (pe_tup (pa_cons pe_str (pa_cons pe_str (pa_cons (pv 2) pa_nil)))) (pa_cons (pe_tup (pa_cons pe_str (pa_cons (pv 2) (pa_cons pe_str pa_nil)))) (pa_cons (pe_tup (pa_cons pe_str (pa_cons (pv 2) pa_nil))) pa_nil))))) (pv 5) (fun _ _ => rfl)))
      (pss_one (ps_set (i := 3) sc_law_deep_body.nd rfl (Or.inl rfl) (pe_tup (pa_cons (pv 3) pa_nil)))))))
      (pss_one (ps_ret (pe_tup (pa_cons (pe_tup (pa_cons pe_str (pa_cons (pe_gv (t := (.t [(.w "x")])) (pe_tup (pa_cons pe_str pa_nil)) (fun _ _ => by walk_at "gv")) (pa_cons (pe_tup (pa_cons pe_str (pa_cons (pv 2) (pa_cons (pe_tup (pa_cons pe_str (pa_cons (pv 3) pa_nil))) (pa_cons pe_str pa_nil))))) pa_nil)))) pa_nil))))))), ?_⟩
  rw [show start ["_law_hand", "_law_inner", "_law_body", "_law_value_here", "_law_k", "_law_kind"] [V.ref x.g, v0] = [some (V.ref x.g), some v0, none, none, none, none] from rfl]
  walk_at "rd"
  refine ⟨x, 130, rfl, by decide, hh, fun H1 k b1 h1 k0 k1 => ⟨k, rfl, by omega, by omega, ?_⟩⟩
  have ow : ∀ z ∈ (["head", "join", "x", "main", "quote", "if", "a"] : List Str), wt (.w z) = 1 := fun z hz => wt_ok (List.all_eq_true.mp (show (["head", "join", "x", "main", "quote", "if", "a"] : List Str).all okS = true by decide +kernel) z hz)
  refine loop_range (n := (60 + k).toNat) (DInv x v0 H1) ?_ ?_ ?_
  · exact ⟨v0, _, t0, .w "a", ⟨_, _, rfl⟩, But.refl _ _, h1, tv.mono (hh.tup b1), .w _, by omega, by rw [ow "a" (by decide)]; decide⟩
  · rintro i σ H' hi ⟨bv, vv, bt, vt, ⟨u1, u2, rfl⟩, b', h', tb, tv', wb, wv⟩
    walk_at "rd"
    have lz : ∀ n : Nat, n ≤ 5 → n ≤ sizeLine := fun n h => by rw [sizeLine_eq]; omega
    refine ⟨by decide, lz _ (Nat.le_of_ble_eq_true rfl), fun p1 hp1 => ?_⟩
    have n1 := same_new hp1 (.tup [V.str "head", bv])
    have t1 : TrV _ (.t [.w "head", bt]) (.ref p1) := .t upd_same (.cons (.w _) (.one (tb.mono n1.tup)))
    refine ⟨lz _ (Nat.le_of_ble_eq_true rfl), fun p2 hp2 => ?_⟩
    generalize upd H' p1 (.tup [V.str "head", bv]) = G1 at n1 t1 hp2 ⊢
    have n2 := same_new hp2 (.tup [V.str "join", V.str "x", bv])
    have t2 : TrV _ (.t [.w "join", .w "x", bt]) (.ref p2) := .t upd_same (.cons (.w _) (.cons (.w _) (.one (tb.mono (n1.trans n2).tup))))
    refine ⟨lz _ (Nat.le_of_ble_eq_true rfl), fun p3 hp3 => ?_⟩
    generalize upd G1 p2 (.tup [V.str "join", V.str "x", bv]) = G2 at n2 t2 hp3 ⊢
    have n3 := same_new hp3 (.tup [V.str "join", bv, V.str "x"])
    have t3 : TrV _ (.t [.w "join", bt, .w "x"]) (.ref p3) := .t upd_same (.cons (.w _) (.cons (tb.mono (n1.trans (n2.trans n3)).tup) (.one (.w _))))
    refine ⟨lz _ (Nat.le_of_ble_eq_true rfl), fun p4 hp4 => ?_⟩
    generalize upd G2 p3 (.tup [V.str "join", bv, V.str "x"]) = G3 at n3 t3 hp4 ⊢
    have n4 := same_new hp4 (.tup [V.str "main", bv])
    have t4 : TrV _ (.t [.w "main", bt]) (.ref p4) := .t upd_same (.cons (.w _) (.one (tb.mono (n1.trans (n2.trans (n3.trans n4))).tup)))
    refine ⟨lz _ (Nat.le_of_ble_eq_true rfl), fun p5 hp5 => ?_⟩
    generalize upd G3 p4 (.tup [V.str "main", bv]) = G4 at n4 t4 hp5 ⊢
    have n5 := same_new hp5 (.lst [V.ref p1, V.ref p2, V.ref p3, V.ref p4])
    have e5 : upd G4 p5 (.lst [V.ref p1, V.ref p2, V.ref p3, V.ref p4]) p5 = some (.lst [V.ref p1, V.ref p2, V.ref p3, V.ref p4]) := upd_same
    generalize upd G4 p5 (.lst [V.ref p1, V.ref p2, V.ref p3, V.ref p4]) = G5 at n5 e5 ⊢
    obtain ⟨v6, t6, hv6, tv6, tw6⟩ : ∃ (v6 : V) (t6 : Tr), atI [V.ref p1, V.ref p2, V.ref p3, V.ref p4] ((i : Int) % 4) = some v6 ∧ TrV G5 t6 v6 ∧ wt t6 ≤ wt bt + 3 := by
      have c : (i : Int) % 4 = 0 ∨ (i : Int) % 4 = 1 ∨ (i : Int) % 4 = 2 ∨ (i : Int) % 4 = 3 := by omega
      rcases c with c | c | c | c <;> rw [c]
      · exact ⟨_, _, rfl, t1.mono (n2.trans (n3.trans (n4.trans n5))).tup, by rw [wt_t, wtL_cons, wtL_cons, wtL_nil, ow "head" (by decide)]; omega⟩
      · exact ⟨_, _, rfl, t2.mono (n3.trans (n4.trans n5)).tup, by rw [wt_t, wtL_cons, wtL_cons, wtL_cons, wtL_nil, ow "join" (by decide), ow "x" (by decide)]; omega⟩
      · exact ⟨_, _, rfl, t3.mono (n4.trans n5).tup, by rw [wt_t, wtL_cons, wtL_cons, wtL_cons, wtL_nil, ow "join" (by decide), ow "x" (by decide)]; omega⟩
      · exact ⟨_, _, rfl, t4.mono n5.tup, by rw [wt_t, wtL_cons, wtL_cons, wtL_nil, ow "main" (by decide)]; omega⟩
    refine ⟨_, SqL.of e5, v6, hv6, lz _ (by show 1 ≤ 5; decide), fun p6 hp6 => ?_⟩
    have n6 := same_new hp6 (.tup [vv])
    have sa := n1.trans (n2.trans (n3.trans (n4.trans (n5.trans n6))))
    exact ⟨v6, .ref p6, t6, .t [vt], ⟨_, _, rfl⟩, b'.trans sa.but, h'.but sa, tv6.mono n6.tup, .t upd_same (.one (tv'.mono sa.tup)), by omega, by rw [wt_t, wtL_cons, wtL_nil]; omega⟩
  · rintro σ H' ⟨bv, vv, bt, vt, ⟨u1, u2, rfl⟩, b', h', tb, tv', wb, wv⟩
    walk_at "rd"
    have lz : ∀ n : Nat, n ≤ 5 → n ≤ sizeLine := fun n h => by rw [sizeLine_eq]; omega
    intro v H2 s2 tvx
    refine ⟨lz _ (by show 2 ≤ 5; decide), fun p1 hp1 => ⟨lz _ (by show 4 ≤ 5; decide), fun p2 hp2 => ?_⟩⟩
    have n1 := same_new hp1 (.tup [V.str "quote", vv])
    have t1 : TrV _ (.t [.w "quote", vt]) (.ref p1) := .t upd_same (.cons (.w _) (.one (tv'.mono (s2.trans n1).tup)))
    generalize upd H2 p1 (.tup [V.str "quote", vv]) = G1 at n1 t1 hp2 ⊢
    have n2 := same_new hp2 (.tup [V.str "if", bv, V.ref p1, V.str "x"])
    have t2 : TrV _ (.t [.w "if", bt, .t [.w "quote", vt], .w "x"]) (.ref p2) := .t upd_same (.cons (.w _) (.cons (tb.mono (s2.trans (n1.trans n2)).tup) (.cons (t1.mono n2.tup) (.one (.w _)))))
    refine ⟨lz _ (by show 3 ≤ 5; decide), fun p3 hp3 => ?_⟩
    generalize upd G1 p2 (.tup [V.str "if", bv, V.ref p1, V.str "x"]) = G2 at n2 t2 hp3 ⊢
    have n3 := same_new hp3 (.tup [V.str "main", v, V.ref p2])
    have t3 : TrV _ (.t [.w "main", .t [.w "x"], .t [.w "if", bt, .t [.w "quote", vt], .w "x"]]) (.ref p3) := .t upd_same (.cons (.w _) (.cons (tvx.mono (n1.trans (n2.trans n3)).tup) (.one (t2.mono n3.tup))))
    refine ⟨lz _ (by show 1 ≤ 5; decide), fun p4 hp4 => ?_⟩
    generalize upd G2 p3 (.tup [V.str "main", v, V.ref p2]) = G3 at n3 t3 hp4 ⊢
    have n4 := same_new hp4 (.tup [V.ref p3])
    have sa := s2.trans (n1.trans (n2.trans (n3.trans n4)))
    refine q _ _ (.t [_]) (b1.trans (b'.trans sa.but)) (h'.but sa) (.t upd_same (.one (t3.mono n4.tup))) ?_
    simp only [wt_t, wtL_cons, wtL_nil, ow "main" (by decide), ow "x" (by decide), ow "if" (by decide), ow "quote" (by decide)]
    omega
end
end K4

namespace K4
open PySem PySem.Spec PyProof.Rows L2
local macro_rules | `(tactic| walk_at "rd") => `(tactic| simp only [tSeq, tAsg, tVar, tOp, tUn, rU, tTup, tLst, tNil, tCons, tCall, tCallS, tCB, tB, tTest, tAnd, tOr, tNot, tAndV, tOrV, tNotV, tIf, tNext, tDrop, tRet, tRetN, tIfS, tCont, tNever, tSl, tNoPart, tPart, tBM, tBM0, tM1, gName, gSub, gTup, gNil, gCons, tC, rI, rI0, rEq, rNe, rIxL, rIxT, rIxS, rSetL, rAppend, rPop, rIn, rSlS, rSlL, rCat, rIndex, rExtT, tGv, tGvL, rLn, rInK, rIsX, tRev, tXf, tDGet1, tDIn, tDNotIn, sDPut, tDNewK, WE, tFor_eq, tLc_eq, iTup, iList, iRng1, iStr, iEnumT, cx_K, cx_prog, cx_w, List.getElem?_cons_succ, List.getElem?_cons_zero, Option.some.injEq, exists_eq_left', exists_eq_left, exists_and_left, V.ref.injEq, V.int.injEq, V.str.injEq, V.bl.injEq, V.ty.injEq, List.cons.injEq, List.set_cons_zero, List.set_cons_succ, and_assoc, true_and, and_true, List.append_nil, List.map_cons, List.map_nil, Int.sub_self, reduceCtorEq, false_and, and_false, or_false, false_or, exists_false, if_true, if_false, Bool.not_true, Bool.not_false, Bool.false_eq_true, decide_eq_true_eq, Bool.not_eq_true', decide_eq_false_iff_not, Int.zero_add])
local macro_rules | `(tactic| walk_at "gv") => `(tactic| (repeat (first | exact gvl_nil | refine gvl_cons ?_ ?_ | exact gv_str | exact gv_gv | (exact gv_var (by assumption)) | refine gv_tup ?_)))
local macro_rules | `(tactic| walk_at "nx") => `(tactic| simp only [tSeq, List.set_cons_zero, List.set_cons_succ])
local macro_rules | `(tactic| walk_at "exd") => `(tactic| (repeat (first | exact ExD.word _ _ | exact ExD.quote _ _ | exact exdl_nil | refine exdl_cons ?_ ?_ | refine ExD.call ?_)))

def spDraws (K : PySem.W.Frag) : Sp := fun vs H Q _ => ∃ (sa : Addr) (xs : List Int) (m : Nat), vs = [.ref sa, .int m] ∧ m ≤ 1000 ∧ xs.length ≤ 100 ∧ SqL K H sa (xs.map V.int) ∧
  ∀ (H' : Hp) (p : Addr) (ns : List Int), Same H H' → H' p = some (.lst (ns.map V.int)) → H p = none → Q (.ref p) H'
def RInv (H2 : Hp) (L : Addr) (i : Nat) (H' : Hp) : Prop := ∃ rs : List Int, rs.length = i ∧ Same H2 H' ∧ H' L = some (.lst (rs.map V.int))
def WSlots (σ : L2.St) (sa : Addr) (m : Nat) (ra da : Addr) : Prop := ∃ u1 u2 u3 u4 : Option V, σ = [some (V.ref sa), some (V.int m), some (V.ref ra), some (V.ref da), u1, u2, u3, u4]
def WInv (H : Hp) (n : Nat) (sa ra da : Addr) (m : Nat) (i : Nat) (σ : L2.St) (H' : Hp) : Prop := WSlots σ sa m ra da ∧ ∃ rs ns : List Int, rs.length = n ∧ ns.length = i ∧ Same H H' ∧ H' ra = some (.lst (rs.map V.int)) ∧ H' da = some (.lst (ns.map V.int))
section
variable {P : Program} {w : World} {K : PySem.W.Frag} {mg : Str → Option Value} {base : Heap} {F : Fs}
theorem ok_draws (T : Tx w K mg F) : FnOk P w K mg base CX0 1 F.f__law_draws F.d__law_draws ["_law_script", "_law_many_here"] (spDraws K) := by
  refine T.F__law_draws.ok sc_law_draws (fun vs H Q E h => ?_) (fun cdv A outer s H vs Q E hr h => ?_)
  · obtain ⟨sa, xs, m, rfl, _⟩ := h
    rfl
  obtain ⟨sa, xs, m, rfl, m1, lx, es, q⟩ := h
  refine ⟨_, (pss_cons (ps_setLc (i := 2) (own := [(("_law_cell" : Str), 5)]) (g := gName 5) (tt := tYes) rfl sc_law_draws.nd rfl rfl (sw_true rfl rfl rfl (by decide +kernel)) (pi_list (pv 0)) (blkOk_by (N := N__law_draws) (sc := defScope s__law_draws) (by decide +kernel)) (fun _ _ _ _ _ => pg_name (i := 5) sc_law_draws.nd rfl (Or.inl rfl)) (fun _ _ _ _ _ => pts_nil) (fun _ _ _ _ _ => (pe_callB call_abs rfl T.z_abs (by decide +kernel) (pa_cons (pe_callTy call_int1 rfl T.z_int (by decide +kernel) (pa_cons (pv 5) pa_nil)) pa_nil))))
      (pss_cons (ps_set (i := 3) sc_law_draws.nd rfl (Or.inl rfl) (pe_lst pa_nil))
      (pss_cons (ps_for PassesOwn.never rfl (pi_range1 rfl T.z_range (pa_cons (pv 1) pa_nil)) (pg_name (i := 4) sc_law_draws.nd rfl (Or.inl rfl)) (pss_cons (ps_set (i := 5) sc_law_draws.nd rfl (Or.inl rfl) (pv 4))
      (pss_cons (ps_if (pt_cmpR op_gt (pe_callB call_len rfl T.z_len PySem.boot_len (pa_cons (pv 0) pa_nil)) pe_int (nomark _)) (pss_cons (ps_set (i := 6) sc_law_draws.nd rfl (Or.inl rfl) (pe_op op_mod (pv 4) (pe_callB call_len rfl T.z_len PySem.boot_len (pa_cons (pv 0) pa_nil))))
      (pss_cons (ps_set (i := 5) sc_law_draws.nd rfl (Or.inl rfl) (pe_callTy call_int1 rfl T.z_int (by decide +kernel) (pa_cons (pe_ix ix_list (pv 0) (pv 6) (fun _ _ => rfl)) pa_nil)))
      (pss_one (ps_if (PW.pt (pw_and (pt_cmpR op_ge (pv 5) (pe_op op_pow pe_int pe_int) (nomark _)) (pw_and1 (pt_cmpR op_gt (pe_ix ix_list (pv 2) (pv 6) (fun _ _ => rfl)) pe_int (nomark _))))) (pss_cons (ps_expr (pe_bm PySem.F.plainAttrs_list PySem.F.slot_list_append PySem.F.type_list_append mt_append (pv 3) (pa_cons (pe_op op_mod (pe_callTy call_int1 rfl T.z_int (by decide +kernel) (pa_cons (pe_ix ix_list (pv 2) (pv 6) (fun _ _ => rfl)) pa_nil)) pe_int) pa_nil)))
      (pss_cons (ps_asg (pe_op op_fdiv (pe_callTy call_int1 rfl T.z_int (by decide +kernel) (pa_cons (pe_ix ix_list (pv 2) (pv 6) (fun _ _ => rfl)) pa_nil)) pe_int) (pg_sub (pv 2) (pv 6) set_list))
      (pss_one ps_continue))) pss_nil)))) pss_nil)
      (pss_cons (ps_set (i := 7) sc_law_draws.nd rfl (Or.inl rfl) (pe_op op_mod (pe_callTy call_int1 rfl T.z_int (by decide +kernel) (pa_cons (pe_op op_add (pe_op op_add (pe_op op_mul (pv 5) pe_int) (pe_op op_mul (pv 4) pe_int)) pe_int) pa_nil)) pe_int))
      (pss_cons (ps_set (i := 7) sc_law_draws.nd rfl (Or.inl rfl) (pe_op op_mod (pe_callTy call_int1 rfl T.z_int (by decide +kernel) (pa_cons (pe_op op_add (pe_op op_fdiv (pe_op op_mul (pv 7) (pv 7)) pe_int) (pv 7)) pa_nil)) pe_int))
      (pss_one (ps_expr (pe_bm PySem.F.plainAttrs_list PySem.F.slot_list_append PySem.F.type_list_append mt_append (pv 3) (pa_cons (pe_op op_mod (pe_callTy call_int1 rfl T.z_int (by decide +kernel) (pa_cons (pe_op op_add (pe_op op_fdiv (pe_op op_mul (pv 7) (pv 7)) pe_int) (pe_op op_mul (pv 4) pe_int)) pa_nil)) pe_int) pa_nil)))))))))
      (pss_one (ps_ret (pv 3)))))), ?_⟩
  rw [show start ["_law_script", "_law_many_here", "_law_rests", "_law_draws_here", "_law_k", "_law_cell", "_law_at", "_law_mixed"] [V.ref sa, V.int m] = [some (V.ref sa), some (V.int m), none, none, none, none, none, none] from rfl]
  walk_at "rd"
  refine ⟨⟨_, es⟩, fun ra hra => ?_⟩
  refine lcj_list (xs := xs.map V.int) (RInv H ra) ⟨[], rfl, same_new hra _, upd_same⟩ ?_ ?_ ?_
  · rintro i H' ⟨rs, _, s', _⟩
    exact s'.seq es
  · rintro i v H' hv ⟨rs, el, s', er⟩
    rw [List.getElem?_map] at hv
    obtain ⟨j, hj, rfl⟩ := Option.map_eq_some_iff.mp hv
    have hi := (List.getElem?_eq_some_iff.mp hj).1
    walk_at "rd"
    refine ⟨rs.map V.int, er, small20 (by rw [List.length_map]; omega), rs ++ [_], by rw [List.length_append, el]; rfl, s'.over hra _, by rw [upd_same, List.map_append]; rfl⟩
  rintro H1 ⟨rs, lr, s1, er⟩
  refine ⟨by decide, fun da hda => ⟨by omega, by omega, ?_⟩⟩
  have hdn : H da = none := s1.free hda
  have nrd : ra ≠ da := ne_of_none er hda
  refine loop_range (n := (m : Int).toNat) (WInv H xs.length sa ra da m) ⟨⟨_, _, _, _, rfl⟩, rs, [], by rw [lr, List.length_map], rfl, s1.over hdn _, by rw [upd_ne nrd]; exact er, upd_same⟩ ?_ ?_
  · rintro i σ H' hi ⟨⟨u1, u2, u3, u4, rfl⟩, rs, ns, lr, ln, s', er, ed⟩
    have es' := s'.seq es
    have hi' : i < m := by omega
    have l1 : LenV K (.ref sa) H' xs.length := .inl ⟨_, es', (List.length_map _).symm⟩
    have mm : ∀ y n : Int, 0 < n → n < 4294967296 → CMul (y % n) (y % n) := fun y n h0 h1 => by
      have a1 := Int.emod_nonneg y (show n ≠ 0 by omega)
      have a2 := Int.emod_lt_of_pos y h0
      exact .inl ⟨by omega, by omega⟩
    have fin : ∀ (z : Int) (σ' : L2.St), WSlots σ' sa m ra da → WInv H xs.length sa ra da m (i + 1) σ' (upd H' da (.lst (ns.map V.int ++ [V.int z]))) := fun z σ' hs =>
      ⟨hs, rs, ns ++ [z], lr, by rw [List.length_append, ln]; rfl, s'.over hdn _, by rw [upd_ne nrd]; exact er, by rw [upd_same, List.map_append]; rfl⟩
    walk_at "rd"
    refine ⟨_, l1, ?_⟩
    by_cases c : (0 : Int) < (xs.length : Nat)
    · rw [if_pos c]
      refine ⟨_, l1, c, _, es', ?_⟩
      have d0 := Int.emod_nonneg (i : Int) (show ((xs.length : Nat) : Int) ≠ 0 by omega)
      have d1 := Int.emod_lt_of_pos (i : Int) c
      generalize (i : Int) % ((xs.length : Nat) : Int) = j at d0 d1 ⊢
      have hjx : j.toNat < xs.length := by omega
      have hjr : j.toNat < rs.length := by omega
      have gx : atI (xs.map V.int) j = some (V.int xs[j.toNat]) := atI_at d0 (by rw [List.getElem?_map, List.getElem?_eq_getElem hjx]; rfl)
      have gr : atI (rs.map V.int) j = some (V.int rs[j.toNat]) := atI_at d0 (by rw [List.getElem?_map, List.getElem?_eq_getElem hjr]; rfl)
      refine ⟨_, gx, .inl ⟨_, rfl, ⟨by decide, by decide, by decide⟩, ?_⟩⟩
      by_cases c2 : (10 : Int) ^ Int.toNat 18 ≤ xs[j.toNat]
      · rw [if_pos c2]
        refine ⟨_, SqL.of er, _, gr, _, rfl, ?_⟩
        by_cases c3 : 0 < rs[j.toNat]
        · rw [if_pos c3]
          refine ⟨.inl ⟨rfl, _, SqL.of ed⟩, _, SqL.of er, _, gr, .inl ⟨_, rfl, by decide, ns.map V.int, ed, small20 (by rw [List.length_map]; omega), ?_⟩⟩
          have er1 : (upd H' da (HO.lst (List.map V.int ns ++ [V.int (rs[j.toNat] % 1000003)]))) ra = some (.lst (rs.map V.int)) := by rw [upd_ne nrd]; exact er
          refine ⟨_, SqL.of er1, _, gr, .inl ⟨_, rfl, ⟨by decide, by decide⟩, _, er1, j.toNat, ixN_of d0 (by rw [List.length_map]; omega), ⟨_, _, _, _, rfl⟩, rs.set j.toNat (rs[j.toNat] / 1000003), ns ++ [rs[j.toNat] % 1000003], ?_, by rw [List.length_append, ln]; rfl, (s'.over hdn _).over hra _, ?_, ?_⟩⟩
          · rw [List.length_set]; exact lr
          · rw [upd_same, List.map_set]
          · rw [upd_ne nrd.symm, upd_same, List.map_append]; rfl
        · rw [if_neg c3]
          exact ⟨.inr ⟨by decide, by decide⟩, .inr ⟨by decide, by decide⟩, by decide, mm _ _ (by decide) (by decide), ⟨by decide, by decide⟩, by decide, .inl ⟨rfl, _, SqL.of ed⟩, mm _ _ (by decide) (by decide), ⟨by decide, by decide⟩, .inr ⟨by decide, by decide⟩, by decide, ns.map V.int, ed, small20 (by rw [List.length_map]; omega), fin _ _ ⟨_, _, _, _, rfl⟩⟩
      · rw [if_neg c2]
        exact ⟨.inr ⟨by decide, by decide⟩, .inr ⟨by decide, by decide⟩, by decide, mm _ _ (by decide) (by decide), ⟨by decide, by decide⟩, by decide, .inl ⟨rfl, _, SqL.of ed⟩, mm _ _ (by decide) (by decide), ⟨by decide, by decide⟩, .inr ⟨by decide, by decide⟩, by decide, ns.map V.int, ed, small20 (by rw [List.length_map]; omega), fin _ _ ⟨_, _, _, _, rfl⟩⟩
    · rw [if_neg c]
      exact ⟨.inr ⟨by decide, by decide⟩, .inr ⟨by decide, by decide⟩, by decide, mm _ _ (by decide) (by decide), ⟨by decide, by decide⟩, by decide, .inl ⟨rfl, _, SqL.of ed⟩, mm _ _ (by decide) (by decide), ⟨by decide, by decide⟩, .inr ⟨by decide, by decide⟩, by decide, ns.map V.int, ed, small20 (by rw [List.length_map]; omega), fin _ _ ⟨_, _, _, _, rfl⟩⟩
  · rintro σ H' ⟨⟨u1, u2, u3, u4, rfl⟩, rs, ns, lr, ln, s', er, ed⟩
    walk_at "rd"
    exact q H' da ns s' ed hdn
end
end K4

namespace K4
open PySem PySem.Spec PyProof.Rows L2
local macro_rules | `(tactic| walk_at "rd") => `(tactic| simp only [tSeq, tAsg, tVar, tOp, tUn, rU, tTup, tLst, tNil, tCons, tCall, tCallS, tCB, tB, tTest, tAnd, tOr, tNot, tAndV, tOrV, tNotV, tIf, tNext, tDrop, tRet, tRetN, tIfS, tCont, tNever, tSl, tNoPart, tPart, tBM, tBM0, tM1, gName, gSub, gTup, gNil, gCons, tC, rI, rI0, rEq, rNe, rIxL, rIxT, rIxS, rSetL, rAppend, rPop, rIn, rSlS, rSlL, rCat, rIndex, rExtT, tGv, tGvL, rLn, rInK, rIsX, tRev, tXf, tDGet1, tDIn, tDNotIn, sDPut, tDNewK, WE, tFor_eq, tLc_eq, iTup, iList, iRng1, iStr, iEnumT, cx_K, cx_prog, cx_w, List.getElem?_cons_succ, List.getElem?_cons_zero, Option.some.injEq, exists_eq_left', exists_eq_left, exists_and_left, V.ref.injEq, V.int.injEq, V.str.injEq, V.bl.injEq, V.ty.injEq, List.cons.injEq, List.set_cons_zero, List.set_cons_succ, and_assoc, true_and, and_true, List.append_nil, List.map_cons, List.map_nil, Int.sub_self, reduceCtorEq, false_and, and_false, or_false, false_or, exists_false, if_true, if_false, Bool.not_true, Bool.not_false, Bool.false_eq_true, decide_eq_true_eq, Bool.not_eq_true', decide_eq_false_iff_not, Int.zero_add])
local macro_rules | `(tactic| walk_at "gv") => `(tactic| (repeat (first | exact gvl_nil | refine gvl_cons ?_ ?_ | exact gv_str | exact gv_gv | (exact gv_var (by assumption)) | refine gv_tup ?_)))
local macro_rules | `(tactic| walk_at "nx") => `(tactic| simp only [tSeq, List.set_cons_zero, List.set_cons_succ])
local macro_rules | `(tactic| walk_at "exd") => `(tactic| (repeat (first | exact ExD.word _ _ | exact ExD.quote _ _ | exact exdl_nil | refine exdl_cons ?_ ?_ | refine ExD.call ?_)))

def isW : Tr → Bool
  | .w _ => true
  | .t _ => false
def spWord : Sp := fun vs H Q _ => ∃ (v : V) (t : Tr), vs = [v] ∧ TrV H t v ∧ Q (.bl (isW t)) H
def spHead : Sp := fun vs H Q _ => ∃ (v : V) (t : Tr), vs = [v] ∧ TrV H t v ∧ Q (.bl (headOf t).isSome) H
def Cnts (fs : List Tr) (kvs : List (Key × V)) : Prop := kvs.length ≤ 7 + fs.length ∧ ∀ s : Str, valV kvs (.inr s) = (cnt fs s).map fun n => V.int (n : Nat)
def CntInv (H : Hp) (pa p : Addr) (fs : List Tr) (i : Nat) (σ : L2.St) (H' : Hp) : Prop := (∃ u : Option V, σ = [some (V.ref pa), some (V.ref p), u]) ∧ Same H H' ∧ ∃ kvs, H' p = some (.dK kvs) ∧ Cnts (fs.take i) kvs
def spCounts : Sp := fun vs H Q _ => ∃ (pa : Addr) (fs : List Tr), vs = [.ref pa] ∧ TrV H (.t fs) (.ref pa) ∧ fs.length ≤ 19900 ∧
  ∀ (H' : Hp) (p : Addr) (kvs : List (Key × V)), Same H H' → H p = none → H' p = some (.dK kvs) → Cnts fs kvs → Q (.ref p) H'
theorem headOf_some {f : Tr} {n : Str} {ps : List Tr} (h : headOf f = some (n, ps)) : ∃ b, f = .t [.w n, .t ps, b] := by
  unfold headOf at h
  split at h
  · cases h; exact ⟨_, rfl⟩
  · cases h
theorem cntF_snoc {f : Tr} {s : Str} : ∀ l : List Tr, cntF (l ++ [f]) s = (match cntF l s with
    | some m => some m
    | none => match headOf f with
      | some (n, ps) => if n = s then some ps.length else none
      | none => none)
  | [] => by
    rw [List.nil_append, cntF, cntF]
    cases headOf f with
    | none => rfl
    | some p => rfl
  | x :: r => by
    rw [List.cons_append, cntF, cntF_snoc r, cntF]
    cases headOf x with
    | none => rfl
    | some p =>
      by_cases c : p.1 = s
      · simp only [if_pos c]
      · simp only [if_neg c]
theorem cnt_snoc {f : Tr} {s : Str} (l : List Tr) : cnt (l ++ [f]) s = (match cnt l s with
    | some m => some m
    | none => match headOf f with
      | some (n, ps) => if n = s then some ps.length else none
      | none => none) := by
  unfold cnt
  cases specN s with
  | some m => rfl
  | none => exact cntF_snoc l
theorem spec_val (s : Str) : valV specKV (.inr s) = (specN s).map fun n => V.int (n : Nat) := by
  have g : ∀ l : List (Str × Nat), valV (κ := Key) (l.map fun p => (Sum.inr p.1, V.int p.2)) (.inr s) = (l.lookup s).map fun n => V.int (n : Nat) := by
    intro l
    induction l with
    | nil => rfl
    | cons p r ih =>
      obtain ⟨k, n⟩ := p
      rw [List.map_cons]
      by_cases e : k = s
      · rw [valV_pos (by rw [e]), e, List.lookup_cons_self]; rfl
      · rw [valV_neg (fun h => e (Sum.inr.inj h)), ih, List.lookup_cons, beq_false_of_ne (fun h => e h.symm)]
  exact g specK
theorem putK_len (kvs : List (Key × V)) (k : Key) (v : V) : (putK kvs k v).length ≤ kvs.length + 1 := by
  unfold putK
  split
  · rw [List.length_map]; omega
  · rw [List.length_append]; exact Nat.le_refl _
section
variable {P : Program} {w : World} {K : PySem.W.Frag} {mg : Str → Option Value} {base : Heap} {F : Fs}
theorem ok_word (T : Tx w K mg F) : FnOk P w K mg base CX0 1 F.f_is_word F.d_is_word ["value"] spWord := by
  refine T.F_is_word.ok scis_word (fun vs H Q E h => ?_) (fun cdv A outer s H vs Q E hr h => ?_)
  · obtain ⟨v, t, rfl, _⟩ := h
    rfl
  obtain ⟨v, t, rfl, tv, q⟩ := h
  refine ⟨_, (pss_one (ps_ret (pe_callB call_isi rfl T.z_isinstance (by decide +kernel) (pa_cons (pv 0) (pa_cons (pe_bltn (v := .ty "str") (u := .type "str") rfl T.z_str (by decide +kernel) rfl) pa_nil))))), ?_⟩
  rw [show start ["value"] [v] = [some v] from rfl]
  walk_at "rd"
  cases t with
  | w s =>
    obtain rfl := tv.word
    exact isi_w q
  | t l =>
    obtain ⟨a, vs, rfl, ea, tl⟩ := tv.tup
    exact isi_t ea q
theorem ok_head (T : Tx w K mg F) : FnOk P w K mg base CX0 2 F.f_has_head F.d_has_head ["function"] spHead := by
  have G_is_word := ok_word (P := P) (base := base) T
  refine T.F_has_head.ok schas_head (fun vs H Q E h => ?_) (fun cdv A outer s H vs Q E hr h => ?_)
  · obtain ⟨v, t, rfl, _⟩ := h
    rfl
  obtain ⟨v, t, rfl, tv, q⟩ := h
  refine ⟨_, (pss_one (ps_ret (pe_and (pe_not (pe_call G_is_word (hr.mono (by decide)) rfl T.m_is_word T.k_is_word T.b_is_word .nil pass0 (pa_cons (pv 0) pa_nil))) (pe_and (pe_cmpR op_eq (pe_callB call_len rfl T.z_len PySem.boot_len (pa_cons (pv 0) pa_nil)) pe_int (nomark _)) (pe_and (pe_call G_is_word (hr.mono (by decide)) rfl T.m_is_word T.k_is_word T.b_is_word .nil pass0 (pa_cons (pe_ix ix_tup (pv 0) pe_int (fun _ _ => rfl)) pa_nil)) (pe_one (pe_not (pe_call G_is_word (hr.mono (by decide)) rfl T.m_is_word T.k_is_word T.b_is_word .nil pass0 (pa_cons (pe_ix ix_tup (pv 0) pe_int (fun _ _ => rfl)) pa_nil))))))))), ?_⟩
  rw [show start ["function"] [v] = [some v] from rfl]
  walk_at "rd"
  refine ⟨v, t, rfl, tv, _, rfl, ?_⟩
  cases t with
  | w s =>
    rw [if_neg (show ¬ isW (.w s) = false from fun h => nomatch h)]
    exact q
  | t l =>
    rw [if_pos (show isW (.t l) = false from rfl)]
    obtain ⟨a, vs, rfl, ea, tl⟩ := tv.tup
    refine ⟨_, lenT ea, rfl, ?_⟩
    have lv := tl.len
    by_cases c : (vs.length : Int) = 3
    · rw [if_pos c]
      obtain ⟨t1, t2, t3, rfl⟩ : ∃ t1 t2 t3, l = [t1, t2, t3] := by
        match l, lv with
        | [], h => have h : vs.length = 0 := h; omega
        | [_], h => simp at h; omega
        | [_, _], h => simp at h; omega
        | [t1, t2, t3], _ => exact ⟨t1, t2, t3, rfl⟩
        | _ :: _ :: _ :: _ :: _, h => simp at h; omega
      obtain ⟨v1, vs, rfl, q1, tl⟩ := tl.cons'
      obtain ⟨v2, vs, rfl, q2, tl⟩ := tl.cons'
      refine ⟨a, rfl, _, SqT.of ea, v1, atI_0, v1, t1, rfl, q1, _, rfl, ?_⟩
      cases t1 with
      | t l1 =>
        rw [if_neg (show ¬ isW (.t l1) = true from fun h => nomatch h)]
        exact q
      | w n =>
        rw [if_pos (show isW (.w n) = true from rfl)]
        refine ⟨a, rfl, _, SqT.of ea, v2, atI_1, v2, t2, rfl, q2, _, rfl, ?_⟩
        cases t2 with
        | w z => exact q
        | t ps => exact q
    · rw [if_neg c]
      have e : headOf (.t l) = none := by
        unfold headOf
        split
        · rename_i h
          cases h
          exact absurd (by rw [lv]; rfl) c
        · rfl
      rw [e] at q
      exact q
theorem ok_counts (T : Tx w K mg F) : FnOk P w K mg base CX0 3 F.f_counts_of F.d_counts_of ["program"] spCounts := by
  have G_has_head := ok_head (P := P) (base := base) T
  refine T.F_counts_of.ok sccounts_of (fun vs H Q E h => ?_) (fun cdv A outer s H vs Q E hr h => ?_)
  · obtain ⟨v, t, rfl, _⟩ := h
    rfl
  obtain ⟨pa, fs, rfl, tv, lf, q⟩ := h
  refine ⟨_, (pss_cons (ps_set (i := 1) sccounts_of.nd rfl (Or.inl rfl) (pe_callTy call_dictK rfl T.z_dict (by decide +kernel) (pa_cons (pe_glob (v := .ref F.aS) rfl T.m_SPECIAL_WORDS rfl) pa_nil)))
      (pss_cons (ps_for PassesOwn.never rfl (pi_tup (pv 0)) (pg_name (i := 2) sccounts_of.nd rfl (Or.inl rfl)) (pss_one (ps_if (PW.pt (pw_and (pt_val (pe_call G_has_head (hr.mono (by decide)) rfl T.m_has_head T.k_has_head T.b_has_head .nil pass0 (pa_cons (pv 2) pa_nil))) (pw_and1 (pt_cmp (pc_dnotin (hu_of hr) (pe_ix ix_tup (pv 2) pe_int (fun _ _ => rfl)) (pv 1)))))) (pss_one (ps_dput (hu_of hr) (pv 1) (pe_ix ix_tup (pv 2) pe_int (fun _ _ => rfl)) (pe_callB call_len rfl T.z_len PySem.boot_len (pa_cons (pe_ix ix_tup (pv 2) pe_int (fun _ _ => rfl)) pa_nil)) rfl)) pss_nil)))
      (pss_one (ps_ret (pv 1))))), ?_⟩
  rw [show start ["program", "counts", "function"] [V.ref pa] = [some (V.ref pa), none, none] from rfl]
  walk_at "rd"
  obtain ⟨pa', us, e, ep, tl⟩ := tv.tup
  cases e
  have lu := tl.len
  refine ⟨_, T.kd, fun p hp => ⟨⟨us, SqT.of (Tup.new hp _ _ _ ep)⟩, ?_⟩⟩
  refine loop_tup (xs := us) (CntInv H pa p fs) ⟨⟨_, rfl⟩, same_new hp _, _, upd_same, ⟨show 7 ≤ _ by omega, fun s => ?_⟩⟩ ?_ ?_ ?_
  · rw [spec_val, List.take_zero]; 
    unfold cnt
    cases specN s <;> rfl
  · rintro i σ H' ⟨_, s', _⟩
    exact s' _ _ ep
  · rintro i v σ H' hv ⟨⟨u, rfl⟩, s', kvs, ek, lk, ok⟩
    walk_at "rd"
    obtain ⟨f, hf, tf⟩ := tl.of hv
    have tf' := tf.mono s'.tup
    have hi := (List.getElem?_eq_some_iff.mp hf).1
    have et : fs.take (i + 1) = fs.take i ++ [f] := by
      rw [List.take_add_one, hf]; rfl
    have ltk : (fs.take i).length = i := by rw [List.length_take]; omega
    refine ⟨v, f, rfl, tf', _, rfl, ?_⟩
    cases eh : headOf f with
    | none =>
      rw [if_neg (show ¬ (none : Option (Str × List Tr)).isSome = true from fun h => nomatch h)]
      refine ⟨⟨_, rfl⟩, s', kvs, ek, ?_⟩
      rw [et]
      refine ⟨by rw [List.length_append]; omega, fun z => ?_⟩
      rw [ok, cnt_snoc, eh]
      cases cnt (fs.take i) z <;> rfl
    | some p2 =>
      obtain ⟨n, ps⟩ := p2
      obtain ⟨b, rfl⟩ := headOf_some eh
      rw [if_pos (show (some (n, ps)).isSome = true from rfl)]
      obtain ⟨a, vs, rfl, ea, tl2⟩ := tf'.tup
      obtain ⟨v1, vs, rfl, q1, tl2⟩ := tl2.cons'
      obtain ⟨v2, vs, rfl, q2, tl2⟩ := tl2.cons'
      obtain rfl := q1.word
      obtain ⟨a2, vs2, rfl, ea2, tl3⟩ := q2.tup
      refine ⟨a, rfl, _, SqT.of ea, _, atI_0, _, DGet.k (k := .inr n) ek, ?_⟩
      have okn := ok n
      cases ec : valV kvs (.inr n) with
      | some y =>
        rw [if_neg (show ¬ (some y).isSome = false from fun h => nomatch h)]
        refine ⟨⟨_, rfl⟩, s', kvs, ek, ?_⟩
        rw [et]
        refine ⟨by rw [List.length_append]; omega, fun z => ?_⟩
        rw [ok, cnt_snoc, eh]
        cases e4 : cnt (fs.take i) z with
        | some m => rfl
        | none =>
          have nz : n ≠ z := by
            intro e
            rw [ec, e, e4] at okn
            cases okn
          simp only [if_neg nz]
      | none =>
        rw [if_pos (show (none : Option V).isSome = false from rfl)]
        refine ⟨a, rfl, _, SqT.of ea, _, atI_1, _, lenT ea2, a, rfl, _, SqT.of ea, _, atI_0, _, DPut.k (k := .inr n) ek (small20 (by omega)), ⟨_, rfl⟩, s'.over hp _, _, upd_same, ?_⟩
        rw [et]
        refine ⟨by have := putK_len kvs (.inr n) (.int (vs2.length : Nat)); rw [List.length_append, List.length_singleton]; omega, fun z => ?_⟩
        rw [valV_put, ok, cnt_snoc, eh]
        have e5 : cnt (fs.take i) n = none := by
          rw [ec] at okn
          cases e6 : cnt (fs.take i) n with
          | none => rfl
          | some m => rw [e6] at okn; cases okn
        by_cases nz : z = n
        · subst nz
          rw [if_pos rfl, e5]
          simp only [if_true]
          rw [tl3.len]; rfl
        · rw [if_neg (fun h => nz (Sum.inr.inj h))]
          cases cnt (fs.take i) z with
          | some m => rfl
          | none => simp only [if_neg (fun h : n = z => nz h.symm)]
  · rintro σ H' ⟨⟨u, rfl⟩, s', kvs, ek, lk, ok⟩
    walk_at "rd"
    rw [lu, List.take_length] at ok lk
    exact q H' p kvs s' hp ek ⟨lk, ok⟩
end
end K4

/-! ### S. Text: names with digits -/
namespace K4
open PySem PySem.Spec PyProof.Rows L2
theorem str_ext {a b : Str} (h : a.cps.toList = b.cps.toList) : a = b := by
  obtain ⟨x⟩ := a
  obtain ⟨y⟩ := b
  exact congrArg Str.mk (Array.toList_inj.mp h)
theorem str_len (a : Str) : a.length = a.cps.toList.length := by
  show a.cps.size = _
  exact Array.length_toList.symm
theorem cut1 (n : Str) : (cutS n (some 1) none).cps.toList = n.cps.toList.drop 1 := by
  have e : HT.sIx n.length 0 (some ((1 : Nat) : Int)) = min 1 n.length := HT.sIx_nat _ _ _
  unfold cutS
  show ((n.cps.toList.drop (HT.sIx n.length 0 (some ((1 : Nat) : Int)))).take (HT.sIx n.length n.length none - HT.sIx n.length 0 (some ((1 : Nat) : Int)))).toArray.toList = _
  rw [e, HT.sIx_none, str_len]
  show ((n.cps.toList.drop (min 1 n.cps.toList.length)).take _) = _
  cases n.cps.toList with
  | nil => rfl
  | cons a r =>
    have z : min 1 (a :: r).length = 1 := by rw [List.length_cons]; omega
    rw [z]
    exact List.take_of_length_le (by rw [List.length_drop]; exact Nat.le_refl _)
theorem empty_iff (a : Str) : a = Str.ofString "" ↔ a.cps.toList = [] := ⟨fun h => by rw [h]; rfl, fun h => str_ext (by rw [h]; rfl)⟩
theorem sign_iff {c d : Nat} {s : Str} (h : s.cps.toList = [d]) : (⟨#[c]⟩ : Str) = s ↔ c = d :=
  ⟨fun e => by
    have z : [c] = s.cps.toList := by rw [← e]
    rw [h] at z
    exact (List.cons.inj z).1, fun e => str_ext (by rw [h, e])⟩
theorem figs : (Str.ofString "0123456789").cps.toList = [48, 49, 50, 51, 52, 53, 54, 55, 56, 57] := by decide +kernel
theorem fig_iff (c : Nat) : c ∈ (Str.ofString "0123456789").cps.toList ↔ 48 ≤ c ∧ c ≤ 57 := by
  rw [figs]
  simp only [List.mem_cons, List.not_mem_nil, or_false]
  omega
theorem strip_iff (x y : Str) : Txt.stripChars x y = Str.ofString "" ↔ ∀ c ∈ x.cps.toList, c ∈ y.cps.toList := by
  have e : Txt.stripChars x y = PySem.Builtin.Str.strSub x (stripLo y.cps.contains true x) (stripHi y.cps.contains true x (stripLo y.cps.contains true x)) := stripBy_eq _ _ _ _
  obtain ⟨a1, a2, a3⟩ := lo_facts y.cps.contains x
  obtain ⟨b1, b2, b3, b4⟩ := hi_facts y.cps.contains x _ a1
  rw [e]
  generalize stripHi y.cps.contains true x (stripLo y.cps.contains true x) = hi at b1 b2 b3 b4
  generalize stripLo y.cps.contains true x = lo at a1 a2 a3 b1 b4
  have mem : ∀ k, k < x.length → x.cps.getD k 0 ∈ x.cps.toList := by
    intro k hk
    rw [str_len] at hk
    rw [← getD_list, List.getD_eq_getElem?_getD, List.getElem?_eq_getElem hk]
    exact List.getElem_mem hk
  have goes : ∀ c, y.cps.contains c = true ↔ c ∈ y.cps.toList := fun c => by rw [Array.contains_iff_mem, Array.mem_toList_iff]
  constructor
  · intro h c hc
    have hl : hi = lo := by
      have z := congrArg Str.length h
      have z2 : (PySem.Builtin.Str.strSub x lo hi).length = hi - lo := by
        show (x.cps.extract lo hi).size = _
        rw [Array.size_extract]
        show min hi x.length - lo = _
        omega
      rw [z2] at z
      have z3 : (Str.ofString "").length = 0 := rfl
      omega
    obtain ⟨k, hk, ek⟩ := List.mem_iff_getElem.mp hc
    have e1 : x.cps.getD k 0 = c := by
      rw [← getD_list, List.getD_eq_getElem?_getD, List.getElem?_eq_getElem hk, ek]; rfl
    rw [← goes, ← e1]
    by_cases c1 : k < lo
    · exact a2 k c1
    · exact b3 k (by omega) (by rw [str_len]; exact hk)
  · intro h
    have l1 : lo = x.length := by
      rcases a3 with a3 | a3
      · exact a3
      · by_cases c1 : lo < x.length
        · have z := (goes _).mpr (h _ (mem lo c1))
          rw [a3] at z
          cases z
        · omega
    apply str_ext
    show (x.cps.extract lo hi).toList = []
    rw [Array.toList_extract, l1]
    have z : hi = x.length := by omega
    rw [z]
    show List.extract _ _ _ = _
    simp [List.extract]
theorem digits_iff (l : List Nat) : digits l = true ↔ ∀ c ∈ l, 48 ≤ c ∧ c ≤ 57 := by
  unfold digits
  rw [List.all_eq_true]
  simp only [Bool.and_eq_true, decide_eq_true_eq]
theorem okS_hd {n : Str} (h : okS n = true) : ∃ c r, n.cps.toList = c :: r ∧ r.length ≤ 19 := by
  have h1 := okS_pos h
  have h2 := okS_le h
  rw [str_len] at h1 h2
  cases e : n.cps.toList with
  | nil => rw [e] at h1; exact absurd h1 (by decide)
  | cons c r =>
    rw [e, List.length_cons] at h2
    exact ⟨c, r, rfl, by omega⟩
theorem numOk_1 {n : Str} {m c : Nat} {r : List Nat} (h : n.cps.toList = c :: r) (h1 : c ≠ 102 ∨ r = [] ∨ digits r ≠ true) : numOk n m = true := by
  unfold numOk
  rw [h]
  refine if_neg fun ⟨a, b, d⟩ => ?_
  rcases h1 with h1 | h1 | h1
  · exact h1 (Option.some.inj a)
  · exact b h1
  · exact h1 d
theorem numOk_2 {n : Str} {m : Nat} {r : List Nat} (h : n.cps.toList = 102 :: r) (h1 : r ≠ []) (h2 : digits r = true) :
    numOk n m = ((decide (r.length = 1) || decide (r.head? ≠ some 48)) && decide (NumText.digitsVal r < m)) := by
  unfold numOk
  rw [h]
  exact if_pos ⟨rfl, h1, h2⟩
end K4

namespace K4
open PySem PySem.Spec PyProof.Rows L2
local macro_rules | `(tactic| walk_at "rd") => `(tactic| simp only [tSeq, tAsg, tVar, tOp, tUn, rU, tTup, tLst, tNil, tCons, tCall, tCallS, tCB, tB, tTest, tAnd, tOr, tNot, tAndV, tOrV, tNotV, tIf, tNext, tDrop, tRet, tRetN, tIfS, tCont, tNever, tSl, tNoPart, tPart, tBM, tBM0, tM1, gName, gSub, gTup, gNil, gCons, tC, rI, rI0, rEq, rNe, rIxL, rIxT, rIxS, rSetL, rAppend, rPop, rIn, rSlS, rSlL, rCat, rIndex, rExtT, tGv, tGvL, rLn, rInK, rIsX, tRev, tXf, tDGet1, tDIn, tDNotIn, sDPut, tDNewK, WE, tFor_eq, tLc_eq, iTup, iList, iRng1, iStr, iEnumT, cx_K, cx_prog, cx_w, List.getElem?_cons_succ, List.getElem?_cons_zero, Option.some.injEq, exists_eq_left', exists_eq_left, exists_and_left, V.ref.injEq, V.int.injEq, V.str.injEq, V.bl.injEq, V.ty.injEq, List.cons.injEq, List.set_cons_zero, List.set_cons_succ, and_assoc, true_and, and_true, List.append_nil, List.map_cons, List.map_nil, Int.sub_self, reduceCtorEq, false_and, and_false, or_false, false_or, exists_false, if_true, if_false, Bool.not_true, Bool.not_false, Bool.false_eq_true, decide_eq_true_eq, Bool.not_eq_true', decide_eq_false_iff_not, Int.zero_add])
local macro_rules | `(tactic| walk_at "gv") => `(tactic| (repeat (first | exact gvl_nil | refine gvl_cons ?_ ?_ | exact gv_str | exact gv_gv | (exact gv_var (by assumption)) | refine gv_tup ?_)))
local macro_rules | `(tactic| walk_at "nx") => `(tactic| simp only [tSeq, List.set_cons_zero, List.set_cons_succ])
local macro_rules | `(tactic| walk_at "exd") => `(tactic| (repeat (first | exact ExD.word _ _ | exact ExD.quote _ _ | exact exdl_nil | refine exdl_cons ?_ ?_ | refine ExD.call ?_)))

def NameDict (kvs : List (Key × V)) (fs : List Tr) : Prop := kvs.length ≤ fs.length ∧ ∀ s : Str, (valV kvs (.inr s)).isSome = nameIn s fs
def spName : Sp := fun vs H Q _ => ∃ (n : Str) (na : Addr) (m : Nat) (kvs : List (Key × V)) (prev : List Tr), vs = [.str n, .ref na, .int m] ∧ okS n = true ∧ H na = some (.dK kvs) ∧ NameDict kvs prev ∧
  Q (.bl (!isSpec n && !nameIn n prev && numOk n m)) H
theorem parsOk_bad {ps : List Tr} {k : Nat} (hk : k < ps.length) (h : parOk ps k = false) : parsOk ps = false := by
  unfold parsOk
  have z : (List.range ps.length).all (parOk ps) = false := by
    rw [List.all_eq_false]
    exact ⟨k, List.mem_range.mpr hk, by rw [h]; decide⟩
  rw [z, Bool.and_false]
theorem trl_words {H : Hp} : ∀ {ws : List Str} {vs : List V}, TrL H (wds ws) vs → vs = ws.map V.str
  | [], vs, h => h.nil'
  | s :: r, vs, h => by
    obtain ⟨v, us, rfl, hv, hr⟩ := TrL.cons' h
    rw [hv.word, trl_words hr]; rfl
def ParInv (H : Hp) (pa : Addr) (ps : List Tr) (i : Nat) (σ : L2.St) (H' : Hp) : Prop := (∃ u1 u2 : Option V, σ = [some (V.ref pa), u1, u2]) ∧ Same H H' ∧ ∃ ws : List Str, ps.take i = wds ws ∧ (∀ j, j < i → parOk ps j = true) ∧ ws.length = i
def spPars : Sp := fun vs H Q _ => ∃ (pa : Addr) (ps : List Tr), vs = [.ref pa] ∧ TrV H (.t ps) (.ref pa) ∧ ps.length ≤ 20000 ∧
  ∀ H', Same H H' → Q (.bl (parsOk ps)) H'
theorem spec_is (s : Str) : (valV specKV (.inr s)).isSome = isSpec s := by
  rw [spec_val, Option.isSome_map]
  have g : ∀ l : List (Str × Nat), (l.lookup s).isSome = decide (s ∈ l.map (·.1)) := by
    intro l
    induction l with
    | nil => rfl
    | cons p r ih =>
      obtain ⟨k, n⟩ := p
      rw [List.map_cons]
      by_cases e : s = k
      · rw [e, List.lookup_cons_self, decide_eq_true List.mem_cons_self]; rfl
      · rw [List.lookup_cons, beq_false_of_ne e, ih]
        by_cases c : s ∈ r.map (·.1)
        · rw [decide_eq_true c, decide_eq_true (List.mem_cons_of_mem _ c)]
        · rw [decide_eq_false c, decide_eq_false (fun h => (List.mem_cons.mp h).elim e c)]
  exact g specK
theorem inV_words (s : Str) (ws : List Str) : inV (V.str s) (ws.map V.str) = decide (s ∈ ws) := by
  induction ws with
  | nil => rfl
  | cons x r ih =>
    unfold inV at ih ⊢
    rw [List.map_cons, List.any_cons, ih]
    have e0 : eqV (V.str x) (V.str s) = decide (x = s) := by
      by_cases e : x = s
      · subst e; simp [eqV]
      · simp [eqV, e]
    rw [e0]
    by_cases e : x = s
    · rw [decide_eq_true e, decide_eq_true (show s ∈ x :: r by rw [e]; exact List.mem_cons_self)]; rfl
    · rw [decide_eq_false e]
      by_cases c : s ∈ r
      · rw [decide_eq_true c, decide_eq_true (List.mem_cons_of_mem _ c)]; rfl
      · rw [decide_eq_false c, decide_eq_false (fun h => (List.mem_cons.mp h).elim (fun h => e h.symm) c)]; rfl
/-- these are words, and the words are these -/
theorem inW_wds (s : Str) : ∀ ws : List Str, inW s (wds ws) = decide (s ∈ ws)
  | [] => rfl
  | x :: r => by
    have ih := inW_wds s r
    unfold inW at ih ⊢
    show (decide (x = s) || (wds r).any _) = _
    rw [ih]
    by_cases e : x = s
    · rw [decide_eq_true e, decide_eq_true (show s ∈ x :: r by rw [e]; exact List.mem_cons_self)]; rfl
    · rw [decide_eq_false e]
      by_cases c : s ∈ r
      · rw [decide_eq_true c, decide_eq_true (List.mem_cons_of_mem _ c)]; rfl
      · rw [decide_eq_false c, decide_eq_false (fun h => (List.mem_cons.mp h).elim (fun h => e h.symm) c)]; rfl
section
variable {P : Program} {w : World} {K : PySem.W.Frag} {mg : Str → Option Value} {base : Heap} {F : Fs}
theorem ok_name (T : Tx w K mg F) : FnOk P w K mg base CX0 1 F.f_name_fits F.d_name_fits ["name", "names", "many"] spName := by
  refine T.F_name_fits.ok scname_fits (fun vs H Q E h => ?_) (fun cdv A outer s H vs Q E hr h => ?_)
  · obtain ⟨n, na, m, kvs, prev, rfl, _⟩ := h
    rfl
  obtain ⟨n, na, m, kvs, prev, rfl, on, ek, ⟨_, nd⟩, q⟩ := h
  refine ⟨_, (pss_cons (ps_if (PW.pt (pw_or (pt_cmpR op_inK (pv 0) (pe_glob (v := .ref F.aS) rfl T.m_SPECIAL_WORDS rfl) (by with_unfolding_all rfl)) (pw_or1 (pt_cmp (pc_din (hu_of hr) (pv 0) (pv 1)))))) (pss_one (ps_ret pe_bl)) pss_nil)
      (pss_cons (ps_set (i := 3) scname_fits.nd rfl (Or.inl rfl) (pe_slice sl_str (pv 0) (po_some pe_int) po_none))
      (pss_cons (ps_if (PW.pt (pw_or (pt_cmpR op_ne (pe_ix ix_str (pv 0) pe_int (fun _ _ => rfl)) pe_str (nomark _)) (pw_or (pt_cmpR op_eq (pv 3) pe_str (nomark _)) (pw_or1 (pt_cmpR op_ne (pe_m1 PySem.F.slot_str_strip PySem.F.type_str_strip mt_stripChars (pv 3) (pe_glob (v := .str "0123456789") rfl T.m_FIGURES ⟨_, rfl⟩)) pe_str (nomark _)))))) (pss_one (ps_ret pe_bl)) pss_nil)
      (pss_one (ps_ret (pe_and (pe_or (pe_cmpR op_eq (pv 3) pe_str (nomark _)) (pe_one (pe_cmpR op_ne (pe_ix ix_str (pv 3) pe_int (fun _ _ => rfl)) pe_str (nomark _)))) (pe_one (pe_cmpR op_lt (pe_callTy call_int_str rfl T.z_int (by decide +kernel) (pa_cons (pv 3) pa_nil)) (pv 2) (nomark _))))))))), ?_⟩
  rw [show start ["name", "names", "many", "figures"] [V.str n, V.ref na, V.int m] = [some (V.str n), some (V.ref na), some (V.int m), none] from rfl]
  walk_at "rd"
  refine ⟨_, T.kd, ?_⟩
  rw [spec_is]
  by_cases c1 : isSpec n = true
  · rw [if_pos c1]
    rw [c1] at q
    exact q
  rw [if_neg c1]
  have c1' : isSpec n = false := by simpa using c1
  rw [c1'] at q
  refine ⟨_, DGet.k (k := .inr n) ek, ?_⟩
  rw [nd]
  by_cases c2 : nameIn n prev = true
  · rw [if_pos c2]
    rw [c2] at q
    exact q
  rw [if_neg c2]
  have c2' : nameIn n prev = false := by simpa using c2
  rw [c2'] at q
  have q : Q (.bl (numOk n m)) H := q
  obtain ⟨c, r, en, lr⟩ := okS_hd on
  have ln : n.length ≤ sizeLine := by
    have := okS_le on
    exact Nat.le_of_lt (small20 (by omega))
  have er : (cutS n (some 1) none).cps.toList = r := by rw [cut1, en]; rfl
  have lc : (cutS n (some 1) none).length = r.length := by rw [str_len, er]
  generalize cutS n (some 1) none = z at er lc
  refine ⟨ln, ln, c, by rw [en]; exact atI_0, rfl, ?_⟩
  by_cases c3 : c = 102
  case' neg =>
    rw [if_pos (fun h => c3 ((sign_iff (by decide +kernel)).mp h))]
    rw [numOk_1 en (.inl c3)] at q
    exact q
  subst c3
  rw [if_neg (fun h => h ((sign_iff (by decide +kernel)).mpr rfl))]
  refine ⟨rfl, ?_⟩
  by_cases c4 : r = []
  · rw [if_pos ((empty_iff z).mpr (er.trans c4))]
    rw [numOk_1 en (.inr (.inl c4))] at q
    exact q
  rw [if_neg (fun h => c4 (er.symm.trans ((empty_iff z).mp h)))]
  have lz : z.length ≤ sizeLine := by rw [lc]; exact Nat.le_of_lt (small20 (by omega))
  refine ⟨⟨z, rfl⟩, lz, rfl, ?_⟩
  have c5 : Txt.stripChars z (Str.ofString "0123456789") = Str.ofString "" ↔ digits r = true := by
    rw [strip_iff, er, digits_iff]
    exact ⟨fun h c hc => (fig_iff c).mp (h c hc), fun h c hc => (fig_iff c).mpr (h c hc)⟩
  by_cases c6 : digits r = true
  case' neg =>
    rw [if_pos (fun h => c6 (c5.mp h))]
    rw [numOk_1 en (.inr (.inr c6))] at q
    exact q
  rw [if_neg (fun h => h (c5.mpr c6))]
  rw [numOk_2 en c4 c6] at q
  have tx : intText? z = some ((NumText.digitsVal z.cps.toList : Nat) : Int) := intText_digits (by rw [er]; exact (digits_iff r).mp c6) (by rw [er]; exact c4) (by rw [lc]; omega)
  rw [er] at tx
  have dm : decide (((NumText.digitsVal r : Nat) : Int) < (m : Int)) = decide (NumText.digitsVal r < m) := by
    by_cases c : NumText.digitsVal r < m
    · rw [decide_eq_true c, decide_eq_true (Int.ofNat_lt.mpr c)]
    · rw [decide_eq_false c, decide_eq_false (fun h => c (Int.ofNat_lt.mp h))]
  refine ⟨rfl, ?_⟩
  have e0 : (Str.ofString "0").cps.toList = [48] := by decide +kernel
  have c7 : z = Str.ofString "0" ↔ r = [48] := ⟨fun h => by rw [← er, h, e0], fun h => str_ext (by rw [er, h, e0])⟩
  by_cases c8 : r = [48]
  · rw [if_pos (c7.mpr c8)]
    refine ⟨_, tx, by rw [lc]; omega, ?_⟩
    rw [dm]
    have z1 : (decide (r.length = 1) || decide (r.head? ≠ some 48)) = true := by rw [c8]; rfl
    rw [z1, Bool.true_and] at q
    exact q
  rw [if_neg (fun h => c8 (c7.mp h))]
  obtain ⟨d, r2, e2⟩ : ∃ d r2, r = d :: r2 := by
    cases r with
    | nil => exact absurd rfl c4
    | cons d r2 => exact ⟨d, r2, rfl⟩
  refine ⟨lz, d, by rw [er, e2]; exact atI_0, rfl, ?_⟩
  by_cases c9 : d = 48
  · rw [if_neg (fun h => h ((sign_iff e0).mpr c9))]
    have z1 : (decide (r.length = 1) || decide (r.head? ≠ some 48)) = false := by
      rw [e2, c9]
      have n1 : ¬ (48 :: r2).length = 1 := by
        intro h
        have h2 : r2 = [] := List.eq_nil_of_length_eq_zero (by rw [List.length_cons] at h; omega)
        exact c8 (by rw [e2, c9, h2])
      rw [decide_eq_false n1]
      rfl
    rw [z1] at q
    exact q
  · rw [if_pos (fun h => c9 ((sign_iff e0).mp h))]
    refine ⟨_, tx, by rw [lc]; omega, ?_⟩
    rw [dm]
    have z1 : (decide (r.length = 1) || decide (r.head? ≠ some 48)) = true := by
      rw [e2, decide_eq_true (p := (d :: r2).head? ≠ some 48) (fun h => c9 (Option.some.inj h)), Bool.or_true]
    rw [z1, Bool.true_and] at q
    exact q
theorem ok_pars (T : Tx w K mg F) : FnOk P w K mg base CX0 3 F.f_parameters_fit F.d_parameters_fit ["parameters"] spPars := by
  have G_is_word := ok_word (P := P) (base := base) T
  refine T.F_parameters_fit.ok scparameters_fit (fun vs H Q E h => ?_) (fun cdv A outer s H vs Q E hr h => ?_)
  · obtain ⟨v, t, rfl, _⟩ := h
    rfl
  obtain ⟨pa, ps, rfl, tv, lf, q⟩ := h
  refine ⟨_, (pss_cons (ps_if (pt_cmpR op_gt (pe_callB call_len rfl T.z_len PySem.boot_len (pa_cons (pv 0) pa_nil)) (pe_glob (v := .int 12) rfl T.m_MOST_PARAMETERS ⟨_, rfl⟩) (nomark _)) (pss_one (ps_ret pe_bl)) pss_nil)
      (pss_cons (ps_for PassesOwn.never rfl (pi_enumT rfl T.z_enumerate (pa_cons (pv 0) pa_nil)) (pg_tup rfl (pgs_cons (pg_name (i := 1) scparameters_fit.nd rfl (Or.inl rfl)) (pgs_cons (pg_name (i := 2) scparameters_fit.nd rfl (Or.inl rfl)) pgs_nil))) (pss_one (ps_if (PW.pt (pw_or (pt_not (pt_val (pe_call G_is_word (hr.mono (by decide)) rfl T.m_is_word T.k_is_word T.b_is_word .nil pass0 (pa_cons (pv 2) pa_nil)))) (pw_or (pt_cmpR op_inK (pv 2) (pe_glob (v := .ref F.aS) rfl T.m_SPECIAL_WORDS rfl) (by with_unfolding_all rfl)) (pw_or1 (pt_cmpR op_in_seq (pv 2) (pe_slice sl_tupA (pv 0) po_none (po_some (pv 1))) (by with_unfolding_all rfl)))))) (pss_one (ps_ret pe_bl)) pss_nil)))
      (pss_one (ps_ret pe_bl)))), ?_⟩
  rw [show start ["parameters", "at", "parameter"] [V.ref pa] = [some (V.ref pa), none, none] from rfl]
  walk_at "rd"
  obtain ⟨pa', us, e, ep, tl⟩ := tv.tup
  cases e
  have lu := tl.len
  refine ⟨_, lenT ep, ?_⟩
  by_cases c : (12 : Int) < (us.length : Nat)
  · rw [if_pos c]
    have e : parsOk ps = false := by
      unfold parsOk
      rw [decide_eq_false (by omega)]; rfl
    rw [← e]
    exact q H (Same.refl H)
  rw [if_neg c]
  refine ⟨us, ep, ?_⟩
  refine loop_enum (xs := us) (ParInv H pa ps) ⟨⟨_, _, rfl⟩, Same.refl H, [], rfl, fun j h => absurd h (by omega), rfl⟩ ?_ ?_ ?_
  · rintro i σ H' ⟨_, s', _⟩
    exact s' _ _ ep
  · rintro i v T2 σ H' hv ⟨⟨u1, u2, rfl⟩, s', ws, ew, ok, lw⟩ hT
    obtain ⟨t, ht, tv2⟩ := tl.of hv
    have hi := (List.getElem?_eq_some_iff.mp ht).1
    have s2 := s'.trans (same_new hT (.tup [V.int (i : Nat), v]))
    generalize eG : upd H' T2 (.tup [V.int (i : Nat), v]) = G at s2
    have eT : G T2 = some (.tup [V.int (i : Nat), v]) := by rw [← eG]; exact upd_same
    have tv3 := tv2.mono s2.tup
    walk_at "rd"
    refine ⟨_, SqT.of eT, rfl, _, _, rfl, _, _, rfl, rfl, v, t, rfl, tv3, _, rfl, ?_⟩
    have stop : parOk ps i = false → Q (.bl false) G := fun h => by
      rw [← parsOk_bad hi h]
      exact q G s2
    cases t with
    | t l =>
      rw [if_pos (show isW (.t l) = false from rfl)]
      exact stop (by unfold parOk; rw [ht])
    | w z =>
      rw [if_neg (show ¬ isW (.w z) = false from fun h => nomatch h)]
      obtain rfl := tv3.word
      have ez : parOk ps i = (!isSpec z && !decide (z ∈ ws)) := by
        unfold parOk
        rw [ht, ew]
        show (!isSpec z && !inW z (wds ws)) = _
        rw [inW_wds]
      refine ⟨z, rfl, _, T.kd, ?_⟩
      rw [spec_is]
      by_cases c1 : isSpec z = true
      · rw [if_pos c1]
        exact stop (by rw [ez, c1]; rfl)
      rw [if_neg c1]
      refine ⟨_, rfl, slA_of (s2 _ _ ep) fun r G2 s3 er => ⟨r, rfl, ?_⟩⟩
      rw [cutV_to _ (by omega)] at er
      have tk : TrL G2 (ps.take i) (us.take i) := (tl.mono (s2.trans s3).tup).take i
      have et : us.take i = ws.map V.str := by
        rw [ew] at tk
        exact trl_words tk
      rw [show ((i : Nat) : Int).toNat = i from rfl, et] at er
      refine ⟨_, .inr (SqT.of er), rfl, flat_words ws, ?_⟩
      rw [inV_words]
      by_cases c2 : z ∈ ws
      · rw [if_pos (decide_eq_true c2)]
        have := stop (by rw [ez, decide_eq_true c2, Bool.not_true, Bool.and_false])
        rw [← parsOk_bad hi (by rw [ez, decide_eq_true c2, Bool.not_true, Bool.and_false])]
        exact q G2 (s2.trans s3)
      · rw [if_neg (by rw [decide_eq_false c2]; decide)]
        refine ⟨⟨_, _, rfl⟩, s2.trans s3, ws ++ [z], ?_, ?_, by rw [List.length_append, lw]; rfl⟩
        · rw [List.take_add_one, ht, ew]
          show wds ws ++ [.w z] = _
          unfold wds
          rw [List.map_append]; rfl
        · intro j hj
          by_cases c3 : j = i
          · rw [c3, ez, decide_eq_false c2]
            have : isSpec z = false := by simpa using c1
            rw [this]; rfl
          · exact ok j (by omega)
  · rintro σ H' ⟨⟨u1, u2, rfl⟩, s', ws, ew, ok, lw⟩
    walk_at "rd"
    have e : parsOk ps = true := by
      unfold parsOk
      rw [decide_eq_true (by omega), Bool.true_and, List.all_eq_true]
      exact fun k hk => ok k (by rw [lu]; exact List.mem_range.mp hk)
    rw [← e]
    exact q H' s'
end
end K4

namespace K4
open PySem PySem.Spec PyProof.Rows L2
local macro_rules | `(tactic| walk_at "rd") => `(tactic| simp only [tSeq, tAsg, tVar, tOp, tUn, rU, tTup, tLst, tNil, tCons, tCall, tCallS, tCB, tB, tTest, tAnd, tOr, tNot, tAndV, tOrV, tNotV, tIf, tNext, tDrop, tRet, tRetN, tIfS, tCont, tNever, tSl, tNoPart, tPart, tBM, tBM0, tM1, gName, gSub, gTup, gNil, gCons, tC, rI, rI0, rEq, rNe, rIxL, rIxT, rIxS, rSetL, rAppend, rPop, rIn, rSlS, rSlL, rCat, rIndex, rExtT, tGv, tGvL, rLn, rInK, rIsX, tRev, tXf, tDGet1, tDIn, tDNotIn, sDPut, tDNewK, WE, tFor_eq, tLc_eq, iTup, iList, iRng1, iStr, iEnumT, cx_K, cx_prog, cx_w, List.getElem?_cons_succ, List.getElem?_cons_zero, Option.some.injEq, exists_eq_left', exists_eq_left, exists_and_left, V.ref.injEq, V.int.injEq, V.str.injEq, V.bl.injEq, V.ty.injEq, List.cons.injEq, List.set_cons_zero, List.set_cons_succ, and_assoc, true_and, and_true, List.append_nil, List.map_cons, List.map_nil, Int.sub_self, reduceCtorEq, false_and, and_false, or_false, false_or, exists_false, if_true, if_false, Bool.not_true, Bool.not_false, Bool.false_eq_true, decide_eq_true_eq, Bool.not_eq_true', decide_eq_false_iff_not, Int.zero_add])
local macro_rules | `(tactic| walk_at "gv") => `(tactic| (repeat (first | exact gvl_nil | refine gvl_cons ?_ ?_ | exact gv_str | exact gv_gv | (exact gv_var (by assumption)) | refine gv_tup ?_)))
local macro_rules | `(tactic| walk_at "nx") => `(tactic| simp only [tSeq, List.set_cons_zero, List.set_cons_succ])
local macro_rules | `(tactic| walk_at "exd") => `(tactic| (repeat (first | exact ExD.word _ _ | exact ExD.quote _ _ | exact exdl_nil | refine exdl_cons ?_ ?_ | refine ExD.call ?_)))

def spBody : Sp := fun vs H Q _ => ∃ (bv : V) (b : Tr) (pa ca : Addr) (ws : List Str) (kvs : List (Key × V)) (fs : List Tr), vs = [bv, .ref pa, .ref ca] ∧ TrV H b bv ∧ wt b ≤ 19000 ∧ TrV H (.t (wds ws)) (.ref pa) ∧
  H ca = some (.dK kvs) ∧ Cnts fs kvs ∧ ∀ H', Same H H' → Q (.bl (exOk (wds ws) (cnt fs) b)) H'
theorem TrL.snoc' {H : Hp} {t : Tr} : ∀ {l : List Tr} {vs : List V}, TrL H (l ++ [t]) vs → ∃ us v, vs = us ++ [v] ∧ TrL H l us ∧ TrV H t v
  | [], vs, h => by
    obtain ⟨v, us, rfl, hv, hr⟩ := TrL.cons' (show TrL H (t :: []) vs from h)
    obtain rfl := hr.nil'
    exact ⟨[], v, rfl, .nil, hv⟩
  | x :: r, vs, h => by
    obtain ⟨v, us, rfl, hv, hr⟩ := TrL.cons' (show TrL H (x :: (r ++ [t])) vs from h)
    obtain ⟨us2, v2, rfl, h1, h2⟩ := TrL.snoc' hr
    exact ⟨v :: us2, v2, rfl, .cons hv h1, h2⟩
/-- the expressions that wait, their weight as the measure -/
def BW (H : Hp) (bv : V) (pa ca wa : Addr) (b : Tr) (good : Bool) (all : List Tr → Bool) (m : Nat) (σ : L2.St) (H' : Hp) : Prop := (∃ u : Option V, σ = [some bv, some (V.ref pa), some (V.ref ca), some (V.ref wa), u]) ∧
  Same H H' ∧ ∃ ts vs, m = wtL ts ∧ H' wa = some (.lst vs) ∧ TrL H' ts vs ∧ good = all ts ∧ wtL ts ≤ wt b
section
variable {P : Program} {w : World} {K : PySem.W.Frag} {mg : Str → Option Value} {base : Heap} {F : Fs}
theorem ok_body (T : Tx w K mg F) : FnOk P w K mg base CX0 2 F.f_body_fits F.d_body_fits ["body", "parameters", "counts"] spBody := by
  have G_is_word := ok_word (P := P) (base := base) T
  refine T.F_body_fits.ok scbody_fits (fun vs H Q E h => ?_) (fun cdv A outer s H vs Q E hr h => ?_)
  · obtain ⟨_, _, _, _, _, _, _, rfl, _⟩ := h
    rfl
  obtain ⟨bv, b, pa, ca, ws, kvs, fs, rfl, tb, wb, tp, ec, ⟨_, ok⟩, q⟩ := h
  refine ⟨_, (pss_cons (ps_set (i := 3) scbody_fits.nd rfl (Or.inl rfl) (pe_lst (pa_cons (pv 0) pa_nil)))
      (pss_cons (ps_while PassesOwn.never (pt_cmpR op_gt (pe_callB call_len rfl T.z_len PySem.boot_len (pa_cons (pv 3) pa_nil)) pe_int (nomark _)) (pss_cons (ps_set (i := 4) scbody_fits.nd rfl (Or.inl rfl) (pe_bm0 PySem.F.plainAttrs_list PySem.F.slot_list_pop PySem.F.type_list_pop mt_pop (pv 3)))
      (pss_one (ps_if (pt_val (pe_call G_is_word (hr.mono (by decide)) rfl T.m_is_word T.k_is_word T.b_is_word .nil pass0 (pa_cons (pv 4) pa_nil))) (pss_one (ps_if (pt_cmpR op_notIn_seq (pv 4) (pv 1) (by with_unfolding_all rfl)) (pss_one (ps_ret pe_bl)) pss_nil)) (pss_one (ps_if (PW.pt (pw_or (pt_cmpR op_eq (pe_callB call_len rfl T.z_len PySem.boot_len (pa_cons (pv 4) pa_nil)) pe_int (nomark _)) (pw_or1 (pt_not (pt_val (pe_call G_is_word (hr.mono (by decide)) rfl T.m_is_word T.k_is_word T.b_is_word .nil pass0 (pa_cons (pe_ix ix_tup (pv 4) pe_int (fun _ _ => rfl)) pa_nil))))))) (pss_one (ps_ret pe_bl)) (pss_one (ps_if (pt_cmpR op_ne (pe_dget1 (hu_of hr) (pv 2) (pe_ix ix_tup (pv 4) pe_int (fun _ _ => rfl)) ⟨rfl, rfl, rfl, rfl⟩) (pe_op op_sub (pe_callB call_len rfl T.z_len PySem.boot_len (pa_cons (pv 4) pa_nil)) pe_int) (nomark _)) (pss_one (ps_ret pe_bl)) (pss_one (ps_if (pt_cmpR op_ne (pe_ix ix_tup (pv 4) pe_int (fun _ _ => rfl)) pe_str (nomark _)) (pss_one (ps_expr (pe_bm PySem.F.plainAttrs_list PySem.F.slot_list_extend PySem.F.type_list_extend mt_extendT (pv 3) (pa_cons (pe_slice sl_tupA (pv 4) (po_some pe_int) po_none) pa_nil)))) pss_nil))))))))))
      (pss_one (ps_ret pe_bl)))), ?_⟩
  rw [show start ["body", "parameters", "counts", "waiting", "expression"] [bv, V.ref pa, V.ref ca] = [some bv, some (V.ref pa), some (V.ref ca), none, none] from rfl]
  walk_at "rd"
  obtain ⟨pa', us, e, ep, tl⟩ := tp.tup
  cases e
  have eus := trl_words tl
  refine ⟨by show 1 ≤ sizeLine; decide, fun wa hwa => ?_⟩
  refine ⟨BW H bv pa ca wa b (exOk (wds ws) (cnt fs) b) (exOkL (wds ws) (cnt fs)), ⟨_, ⟨_, rfl⟩, same_new hwa _, [b], [bv], rfl, upd_same, .one (tb.mono (Tup.new hwa _)), ?_, ?_⟩, ?_⟩
  · rw [exOkL_cons, exOkL_nil, Bool.and_true]
  · rw [wtL_cons, wtL_nil]; omega
  rintro m σ H' ⟨⟨u, rfl⟩, s', ts, vs, rfl, ew, tls, eq, wts⟩
  walk_at "rd"
  have lv := tls.len
  refine ⟨_, lenL ew, ?_⟩
  by_cases c : (0 : Int) < (vs.length : Nat)
  case' neg =>
    rw [if_neg c]
    have z : ts = [] := List.eq_nil_of_length_eq_zero (by omega)
    rw [z, exOkL_nil] at eq
    rw [← eq]
    exact q H' s'
  rw [if_pos c]
  have nz : ts ≠ [] := fun h => by rw [h] at lv; rw [lv] at c; simp at c
  obtain ⟨ts0, t, rfl⟩ : ∃ ts0 t, ts = ts0 ++ [t] := ⟨ts.dropLast, ts.getLast nz, (List.dropLast_concat_getLast nz).symm⟩
  obtain ⟨vs0, v, rfl, tl0, tv⟩ := tls.snoc'
  rw [exOkL_append, exOkL_cons, exOkL_nil, Bool.and_true] at eq
  rw [wtL_append, wtL_cons, wtL_nil] at wts
  have wt0 := wt_pos t
  refine ⟨fun σ' H' => ∃ m', m' < wtL (ts0 ++ [t]) ∧ BW H bv pa ca wa b (exOk (wds ws) (cnt fs) b) (exOkL (wds ws) (cnt fs)) m' σ' H', fun _ _ h => h, .inl ⟨rfl, _, SqL.of ew⟩, _, ew, v, ?_, ?_⟩
  · rw [List.length_append, List.length_singleton, Nat.add_sub_cancel, List.getElem?_append_right (Nat.le_refl _), Nat.sub_self]; rfl
  rw [List.dropLast_concat]
  have t1 : Tup H' (upd H' wa (.lst vs0)) := Tup.lst ew _
  have s1 : Same H (upd H' wa (.lst vs0)) := s'.over hwa _
  have ew1 : (upd H' wa (.lst vs0)) wa = some (.lst vs0) := upd_same
  have tv1 := tv.mono t1
  have tl1 := tl0.mono t1
  generalize upd H' wa (.lst vs0) = G at s1 ew1 tv1 tl1
  have stop : exOk (wds ws) (cnt fs) t = false → Q (.bl false) G := fun h => by
    rw [h, Bool.and_false] at eq
    rw [← eq]
    exact q G s1
  refine ⟨v, t, rfl, tv1, _, rfl, ?_⟩
  have wap : wtL (ts0 ++ [t]) = wtL ts0 + (wt t + 0) := by rw [wtL_append, wtL_cons, wtL_nil]
  cases t with
  | w z =>
    rw [if_pos (show isW (.w z) = true from rfl)]
    obtain rfl := tv1.word
    refine ⟨_, .inr (SqT.of (s1 _ _ ep)), rfl, by rw [eus]; exact flat_words ws, ?_⟩
    rw [eus, inV_words]
    rw [exOk_w, inW_wds] at eq stop
    by_cases c1 : z ∈ ws
    · rw [if_neg (by rw [decide_eq_true c1]; decide)]
      rw [decide_eq_true c1, Bool.and_true] at eq
      exact ⟨_, by omega, ⟨_, rfl⟩, s1, ts0, vs0, rfl, ew1, tl1, eq, by omega⟩
    · rw [if_pos (decide_eq_false c1)]
      exact stop (decide_eq_false c1)
  | t l =>
    rw [if_neg (show ¬ isW (.t l) = true from fun h => nomatch h)]
    obtain ⟨a, us2, rfl, ea, tl2⟩ := tv1.tup
    refine ⟨_, lenT ea, rfl, ?_⟩
    have l2 := tl2.len
    by_cases c1 : (us2.length : Int) = 0
    · rw [if_pos c1]
      have z : l = [] := List.eq_nil_of_length_eq_zero (by omega)
      exact stop (by rw [z, exOk_nil])
    rw [if_neg c1]
    obtain ⟨t1, r, rfl⟩ : ∃ t1 r, l = t1 :: r := by
      cases l with
      | nil => rw [l2] at c1; exact absurd rfl c1
      | cons t1 r => exact ⟨t1, r, rfl⟩
    obtain ⟨v1, vr, rfl, q1, tlr⟩ := tl2.cons'
    refine ⟨a, rfl, _, SqT.of ea, v1, atI_0, v1, t1, rfl, q1, _, rfl, ?_⟩
    cases t1 with
    | t l1 =>
      rw [if_pos (show isW (.t l1) = false from rfl)]
      exact stop exOk_t
    | w z =>
      rw [if_neg (show ¬ isW (.w z) = false from fun h => nomatch h)]
      obtain rfl := q1.word
      rw [exOk_call] at eq stop
      have ec1 := s1 _ _ ec
      refine ⟨.inl ⟨kvs, .inl ec1⟩, a, rfl, _, SqT.of ea, _, atI_0, _, DGet.k (k := .inr z) ec1, ?_⟩
      refine ⟨_, lenT ea, ?_⟩
      rw [ok]
      have lr : ((V.str z :: vr).length : Int) - 1 = r.length := by rw [List.length_cons, tlr.len]; omega
      rw [lr]
      have sc : scal (((cnt fs z).map fun n => V.int (n : Nat)).getD V.non) (V.int (r.length : Nat)) = true := by
        cases cnt fs z <;> rfl
      refine ⟨sc, ?_⟩
      have en : (((cnt fs z).map fun n => V.int (n : Nat)).getD V.non = V.int (r.length : Nat)) ↔ cnt fs z = some r.length := by
        cases cnt fs z with
        | none => exact ⟨fun h => (nomatch h), fun h => (nomatch h)⟩
        | some n => exact ⟨fun h => by cases h; rfl, fun h => by cases h; rfl⟩
      by_cases c2 : cnt fs z = some r.length
      case' neg =>
        rw [if_pos (fun h => c2 (en.mp h))]
        exact stop (by rw [decide_eq_false c2]; rfl)
      rw [if_neg (fun h => h (en.mpr c2))]
      rw [decide_eq_true c2, Bool.true_and] at eq
      refine ⟨a, rfl, _, SqT.of ea, _, atI_0, rfl, ?_⟩
      have wtt : wt (.t (.w z :: r)) = 1 + (wt (.w z) + wtL r) := by rw [wt_t, wtL_cons]
      have wz := wt_pos (.w z)
      by_cases c3 : z = ("quote" : Str)
      · rw [if_neg (fun h => h (by rw [c3]))]
        rw [decide_eq_true c3, Bool.true_or, Bool.and_true] at eq
        exact ⟨_, by omega, ⟨_, rfl⟩, s1, ts0, vs0, rfl, ew1, tl1, eq, by omega⟩
      · rw [if_pos (fun h => c3 (V.str.inj h))]
        rw [decide_eq_false c3, Bool.false_or] at eq
        refine ⟨.inl ⟨rfl, _, SqL.of ew1⟩, slA_of ea fun r2 G2 s2 er => ?_⟩
        have ew2 := s2 _ _ ew1
        have er' : G2 r2 = some (.tup vr) := by
          rw [cutV_from _ (by decide)] at er; exact er
        have tlr2 := tlr.mono s2.tup
        have lv0 := tl1.len
        have lvr := tlr.len
        have w1 := wtL_len ts0
        have w2 := wtL_len r
        refine ⟨r2, rfl, vs0, ew2, vr, er', Nat.le_of_lt (small20 (by omega)), wtL (ts0 ++ r), ?_, ⟨_, rfl⟩, (s1.trans s2).over hwa _, ts0 ++ r, vs0 ++ vr, rfl, upd_same, ((tl1.mono s2.tup).append tlr2).mono (Tup.lst ew2 _), ?_, ?_⟩
        · rw [wtL_append]; omega
        · rw [exOkL_append]; exact eq
        · rw [wtL_append]; omega
end
end K4

namespace K4
open PySem PySem.Spec PyProof.Rows L2
local macro_rules | `(tactic| walk_at "rd") => `(tactic| simp only [tSeq, tAsg, tVar, tOp, tUn, rU, tTup, tLst, tNil, tCons, tCall, tCallS, tCB, tB, tTest, tAnd, tOr, tNot, tAndV, tOrV, tNotV, tIf, tNext, tDrop, tRet, tRetN, tIfS, tCont, tNever, tSl, tNoPart, tPart, tBM, tBM0, tM1, gName, gSub, gTup, gNil, gCons, tC, rI, rI0, rEq, rNe, rIxL, rIxT, rIxS, rSetL, rAppend, rPop, rIn, rSlS, rSlL, rCat, rIndex, rExtT, tGv, tGvL, rLn, rInK, rIsX, tRev, tXf, tDGet1, tDIn, tDNotIn, sDPut, tDNewK, WE, tFor_eq, tLc_eq, iTup, iList, iRng1, iStr, iEnumT, cx_K, cx_prog, cx_w, List.getElem?_cons_succ, List.getElem?_cons_zero, Option.some.injEq, exists_eq_left', exists_eq_left, exists_and_left, V.ref.injEq, V.int.injEq, V.str.injEq, V.bl.injEq, V.ty.injEq, List.cons.injEq, List.set_cons_zero, List.set_cons_succ, and_assoc, true_and, and_true, List.append_nil, List.map_cons, List.map_nil, Int.sub_self, reduceCtorEq, false_and, and_false, or_false, false_or, exists_false, if_true, if_false, Bool.not_true, Bool.not_false, Bool.false_eq_true, decide_eq_true_eq, Bool.not_eq_true', decide_eq_false_iff_not, Int.zero_add])
local macro_rules | `(tactic| walk_at "gv") => `(tactic| (repeat (first | exact gvl_nil | refine gvl_cons ?_ ?_ | exact gv_str | exact gv_gv | (exact gv_var (by assumption)) | refine gv_tup ?_)))
local macro_rules | `(tactic| walk_at "nx") => `(tactic| simp only [tSeq, List.set_cons_zero, List.set_cons_succ])
local macro_rules | `(tactic| walk_at "exd") => `(tactic| (repeat (first | exact ExD.word _ _ | exact ExD.quote _ _ | exact exdl_nil | refine exdl_cons ?_ ?_ | refine ExD.call ?_)))

def spInit (C : Addr) : Sp := fun vs H Q _ => ∃ (a : Addr) (i : Int), vs = [.ref a, .int i] ∧ H a = some (exo a C none) ∧
  ∀ d, H d = none → d ≠ a → Q .non (upd (upd H d (exd d [("function", .int i)])) a (exo a C (some d)))
/-- check_program(v): None, or BadProgram with the number of the first function that is bad -/
def spCheck (C : Addr) : Sp := fun vs H Q E => ∃ (v : V) (t : Tr), vs = [v] ∧ TrV H t v ∧ wt t ≤ 19000 ∧ (badT t = none → ∀ H', Same H H' → Q .non H') ∧
  ∀ i : Nat, badT t = some i → ∀ H' d, Same H H' → H' d = some (.xd [("function", .int i)]) → E (.ref C) (some d) H'
theorem boom {C : Addr} {σ : L2.St} {H : Hp} {te : TE} {i : Int} {W : XK} (ht : ∀ Q : VK, Q (.int i) H → te σ H Q) (q : ∀ H' d, Same H H' → H' d = some (.xd [("function", .int i)]) → W (.ref C) (some d) H') :
    tMkO C (spInit C) [] (tCons te tNil) σ H W := by
  refine ht _ ⟨by show 1 ≤ 1000; decide, fun a ha => ⟨a, i, rfl, upd_same, fun d hd hda => ⟨rfl, d, [("function", .int i)], upd_same, ?_, ?_, q _ d ?_ upd_same⟩⟩⟩
  · rw [upd_ne hda, upd_same]
  · rw [upd_ne hda] at hd
    exact hd
  · intro b o hb
    have na : b ≠ a := ne_of_none hb ha
    have nd : b ≠ d := by
      rw [upd_ne hda] at hd
      exact ne_of_none hb hd
    rw [upd_ne nd, del_ne na, upd_ne na, upd_ne nd, upd_ne na]
    exact hb
theorem nameIn_snoc (n : Str) (l : List Tr) (m : Str) (r : List Tr) : nameIn n (l ++ [.t (.w m :: r)]) = (nameIn n l || decide (m = n)) := by
  unfold nameIn
  rw [List.any_append, List.any_cons, List.any_nil, Bool.or_false]
theorem all_words : ∀ {l : List Tr}, (∀ (k : Nat) t, l[k]? = some t → ∃ s, t = .w s) → ∃ ws, l = wds ws
  | [], _ => ⟨[], rfl⟩
  | x :: r, h => by
    obtain ⟨s, rfl⟩ := h 0 x rfl
    obtain ⟨ws, e⟩ := all_words (l := r) fun k t e => h (k + 1) t (by simpa using e)
    exact ⟨s :: ws, by rw [e]; rfl⟩
theorem pars_words {ps : List Tr} (h : parsOk ps = true) : ∃ ws, ps = wds ws := by
  unfold parsOk at h
  rw [Bool.and_eq_true, List.all_eq_true] at h
  refine all_words fun k t e => ?_
  have hk := (List.getElem?_eq_some_iff.mp e).1
  have z := h.2 k (List.mem_range.mpr hk)
  unfold parOk at z
  rw [e] at z
  cases t with
  | w s => exact ⟨s, rfl⟩
  | t l => cases z
theorem fnOk_at {fs : List Tr} {k : Nat} {n : Str} {ps : List Tr} {b : Tr} (h : fs[k]? = some (.t [.w n, .t ps, b])) : fnOk fs k = (parsOk ps && (!isSpec n && !nameIn n (fs.take k) && numOk n fs.length) && exOk ps (cnt fs) b) := by
  unfold fnOk
  rw [h]
  rfl
theorem fnOk_no {fs : List Tr} {k : Nat} {t : Tr} (h : fs[k]? = some t) (e : headOf t = none) : fnOk fs k = false := by
  unfold fnOk
  rw [h]
  split
  · rename_i q
    cases q
    cases e
  · rfl
def ChkInv (H : Hp) (v : V) (ca na : Addr) (fs : List Tr) (i : Nat) (σ : L2.St) (H' : Hp) : Prop := (∃ u1 u2 u3 u4 u5 : Option V, σ = [some v, some (V.ref ca), some (V.ref na), u1, u2, u3, u4, u5]) ∧ Same H H' ∧
  (∃ kvs, H' ca = some (.dK kvs) ∧ Cnts fs kvs) ∧ (∃ kvs, H' na = some (.dK kvs) ∧ NameDict kvs (fs.take i)) ∧ ∀ j, j < i → fnOk fs j = true
section
variable {P : Program} {w : World} {K : PySem.W.Frag} {mg : Str → Option Value} {base : Heap} {F : Fs}
theorem ok_init (T : Tx w K mg F) : FnOk P w K mg base CX0 1 F.fi F.di ["self", "function"] (spInit F.cP) := by
  refine T.F_init.ok scinit (fun vs H Q E h => ?_) (fun cdv A outer s H vs Q E hr h => ?_)
  · obtain ⟨_, _, rfl, _⟩ := h
    rfl
  obtain ⟨a, i, rfl, ea, q⟩ := h
  refine ⟨_, pss_one (ps_ost (pv 0) (pv 1)), ?_⟩
  rw [show start ["self", "function"] [V.ref a, V.int i] = [some (V.ref a), some (V.int i)] from rfl]
  refine ⟨_, rfl, _, rfl, a, F.cP, rfl, T.oex, T.no_function, .inl ⟨ea, fun dx h1 h2 => q dx h1 h2⟩⟩
theorem ok_check (T : Tx w K mg F) : FnOk P w K mg base (L2.CX P w) 6 F.f_check_program F.d_check_program ["value"] (spCheck F.cP) := by
  have G_is_word := ok_word (P := P) (base := base) T
  have G_has_head := ok_head (P := P) (base := base) T
  have G_counts_of := ok_counts (P := P) (base := base) T
  have G_name_fits := ok_name (P := P) (base := base) T
  have G_parameters_fit := ok_pars (P := P) (base := base) T
  have G_body_fits := ok_body (P := P) (base := base) T
  have G_init := ok_init (P := P) (base := base) T
  refine T.F_check_program.okX sccheck_program (fun vs H Q E h => ?_) (fun cdv A outer s H vs Q E hr h => ?_)
  · obtain ⟨_, _, rfl, _⟩ := h
    rfl
  obtain ⟨v, t, rfl, tv, tw, qn, qe⟩ := h
  refine ⟨_, (pss_cons (ps_if (PW.pt (pw_or (pt_val (pe_call G_is_word (hr.mono (by decide)) rfl T.m_is_word T.k_is_word T.b_is_word .nil pass0 (pa_cons (pv 0) pa_nil))) (pw_or1 (pt_cmpR op_eq (pe_callB call_len rfl T.z_len PySem.boot_len (pa_cons (pv 0) pa_nil)) pe_int (nomark _))))) (pss_one (ps_raise rfl (takes_of rfl rfl rfl rfl) (pmk_oex T.oex T.iC T.tI G_init (hr.mono (by decide)) T.b_init .nil (fun _ _ _ _ _ _ _ h => h.elim) rfl T.m_BadProgram (pa_cons pe_int pa_nil)))) pss_nil)
      (pss_cons (ps_set (i := 1) sccheck_program.nd rfl (Or.inl rfl) (pe_call G_counts_of (hr.mono (by decide)) rfl T.m_counts_of T.k_counts_of T.b_counts_of .nil pass0 (pa_cons (pv 0) pa_nil)))
      (pss_cons (ps_set (i := 2) sccheck_program.nd rfl (Or.inl rfl) pe_dnewK)
      (pss_one (ps_for (passes_of rfl) rfl (pi_enumT rfl T.z_enumerate (pa_cons (pv 0) pa_nil)) (pg_tup rfl (pgs_cons (pg_name (i := 3) sccheck_program.nd rfl (Or.inl rfl)) (pgs_cons (pg_name (i := 4) sccheck_program.nd rfl (Or.inl rfl)) pgs_nil))) (pss_cons (ps_if (pt_not (pt_val (pe_call G_has_head (hr.mono (by decide)) rfl T.m_has_head T.k_has_head T.b_has_head .nil pass0 (pa_cons (pv 4) pa_nil)))) (pss_one (ps_raise rfl (takes_of rfl rfl rfl rfl) (pmk_oex T.oex T.iC T.tI G_init (hr.mono (by decide)) T.b_init .nil (fun _ _ _ _ _ _ _ h => h.elim) rfl T.m_BadProgram (pa_cons (pv 3) pa_nil)))) pss_nil)
      (pss_cons (ps_asg (pv 4) (pg_tup rfl (pgs_cons (pg_name (i := 5) sccheck_program.nd rfl (Or.inl rfl)) (pgs_cons (pg_name (i := 6) sccheck_program.nd rfl (Or.inl rfl)) (pgs_cons (pg_name (i := 7) sccheck_program.nd rfl (Or.inl rfl)) pgs_nil)))))
      (pss_cons (ps_if (PW.pt (pw_or (pt_not (pt_val (pe_call G_name_fits (hr.mono (by decide)) rfl T.m_name_fits T.k_name_fits T.b_name_fits .nil pass0 (pa_cons (pv 5) (pa_cons (pv 2) (pa_cons (pe_callB call_len rfl T.z_len PySem.boot_len (pa_cons (pv 0) pa_nil)) pa_nil)))))) (pw_or1 (pt_not (pt_val (pe_call G_parameters_fit (hr.mono (by decide)) rfl T.m_parameters_fit T.k_parameters_fit T.b_parameters_fit .nil pass0 (pa_cons (pv 6) pa_nil))))))) (pss_one (ps_raise rfl (takes_of rfl rfl rfl rfl) (pmk_oex T.oex T.iC T.tI G_init (hr.mono (by decide)) T.b_init .nil (fun _ _ _ _ _ _ _ h => h.elim) rfl T.m_BadProgram (pa_cons (pv 3) pa_nil)))) pss_nil)
      (pss_cons (ps_if (pt_not (pt_val (pe_call G_body_fits (hr.mono (by decide)) rfl T.m_body_fits T.k_body_fits T.b_body_fits .nil pass0 (pa_cons (pv 7) (pa_cons (pv 6) (pa_cons (pv 1) pa_nil)))))) (pss_one (ps_raise rfl (takes_of rfl rfl rfl rfl) (pmk_oex T.oex T.iC T.tI G_init (hr.mono (by decide)) T.b_init .nil (fun _ _ _ _ _ _ _ h => h.elim) rfl T.m_BadProgram (pa_cons (pv 3) pa_nil)))) pss_nil)
      (pss_one (ps_dput (hu_of hr) (pv 2) (pv 5) pe_bl rfl))))))))))), ?_⟩
  rw [show start ["value", "counts", "names", "number", "function", "name", "parameters", "body"] [v] = [some v, none, none, none, none, none, none, none] from rfl]
  walk_at "rd"
  refine ⟨v, t, rfl, tv, _, rfl, ?_⟩
  cases t with
  | w z =>
    rw [if_pos (show isW (.w z) = true from rfl)]
    exact boom (i := (0 : Nat)) (fun Q q => q) fun H' d s' e' => qe 0 rfl H' d s' e'
  | t fs =>
  rw [if_neg (show ¬ isW (.t fs) = true from fun h => nomatch h)]
  obtain ⟨va, us, rfl, ep, tl⟩ := tv.tup
  have lu := tl.len
  refine ⟨_, lenT ep, rfl, ?_⟩
  rw [wt_t] at tw
  have lw := wtL_len fs
  by_cases c : (us.length : Int) = 0
  · rw [if_pos c]
    have z : fs.length = 0 := by omega
    exact boom (i := (0 : Nat)) (fun Q q => q) fun H' d s' e' => qe 0 (if_pos z) H' d s' e'
  rw [if_neg c]
  have nz : ¬ fs.length = 0 := by omega
  have eb : badT (.t fs) = badF fs := if_neg nz
  rw [eb] at qn qe
  refine ⟨va, fs, rfl, tv, by omega, fun H1 ca kvs s1 hca eca ok => fun na hna => ⟨va, rfl, us, Tup.new hna _ _ _ (s1 _ _ ep), ?_⟩⟩
  have hna0 := s1.free hna
  have ncn : ca ≠ na := ne_of_none eca hna
  refine loop_enum (xs := us) (ChkInv H (.ref va) ca na fs) ⟨⟨_, _, _, _, _, rfl⟩, s1.trans (same_new hna _), ⟨kvs, by rw [upd_ne ncn]; exact eca, ok⟩, ⟨[], upd_same, Nat.zero_le _, fun z => ?_⟩, fun j h => absurd h (by omega)⟩ ?_ ?_ ?_
  · rw [List.take_zero]; rfl
  · rintro i σ H' ⟨_, s', _⟩
    exact s' _ _ ep
  · rintro i v T2 σ H' hv ⟨⟨u1, u2, u3, u4, u5, rfl⟩, s', ⟨kv1, ec, okc⟩, ⟨kv2, en, nd⟩, okf⟩ hT
    obtain ⟨t, ht, tv2⟩ := tl.of hv
    have hi := (List.getElem?_eq_some_iff.mp ht).1
    have sT := same_new hT (.tup [V.int (i : Nat), v])
    generalize eG : upd H' T2 (.tup [V.int (i : Nat), v]) = G at sT
    have eT : G T2 = some (.tup [V.int (i : Nat), v]) := by rw [← eG]; exact upd_same
    have s2 := s'.trans sT
    have tv3 := tv2.mono s2.tup
    have ec2 := sT _ _ ec
    have en2 := sT _ _ en
    walk_at "rd"
    refine ⟨_, SqT.of eT, rfl, _, _, rfl, _, _, rfl, rfl, v, t, rfl, tv3, _, rfl, ?_⟩
    have stop : ∀ (G2 : Hp) (σ : L2.St), Same H G2 → σ[3]? = some (some (V.int (i : Nat))) → fnOk fs i = false → tMkO F.cP (spInit F.cP) [] (tCons (tVar 3) tNil) σ G2 fun cls d H' => E cls d H' := fun G2 σ s3 e3 h =>
      boom (i := (i : Nat)) (fun Q q => ⟨_, e3, q⟩) fun H' d s4 e4 => qe i (badF_at hi okf h) H' d (s3.trans s4) e4
    cases eh : headOf t with
    | none =>
      rw [if_pos (show (none : Option (Str × List Tr)).isSome = false from rfl)]
      exact stop G _ s2 rfl (fnOk_no ht eh)
    | some p2 =>
    obtain ⟨n, ps⟩ := p2
    obtain ⟨b, rfl⟩ := headOf_some eh
    rw [if_neg (show ¬ (some (n, ps)).isSome = false from fun h => nomatch h)]
    obtain ⟨a, vs, rfl, ea, tl2⟩ := tv3.tup
    obtain ⟨v1, vs, rfl, q1, tl2⟩ := tl2.cons'
    obtain ⟨v2, vs, rfl, q2, tl2⟩ := tl2.cons'
    obtain ⟨v3, vs, rfl, q3, tl2⟩ := tl2.cons'
    obtain rfl := tl2.nil'
    obtain rfl := q1.word
    obtain ⟨a2, vs2, rfl, ea2, tl3⟩ := q2.tup
    have wtt := wtL_get ht
    rw [wt_t, wtL_cons, wtL_cons, wtL_cons, wtL_nil, wt_t] at wtt
    have on : okS n = true := ok_of_wt (n := 19000) (by omega) (by decide)
    have wps := wtL_len ps
    have ef := fnOk_at ht
    refine ⟨a, rfl, _, SqT.of ea, rfl, _, _, rfl, _, _, rfl, _, _, rfl, rfl, _, lenT (s2 _ _ ep), ?_⟩
    refine ⟨n, na, us.length, kv2, fs.take i, rfl, on, en2, nd, _, rfl, ?_⟩
    rw [lu]
    by_cases c1 : (!isSpec n && !nameIn n (fs.take i) && numOk n fs.length) = true
    case' neg =>
      have c1' : (!isSpec n && !nameIn n (fs.take i) && numOk n fs.length) = false := by simpa using c1
      rw [if_pos c1']
      exact stop G _ s2 rfl (by rw [ef, c1', Bool.and_false, Bool.false_and])
    rw [if_neg (by rw [c1]; decide)]
    rw [c1, Bool.and_true] at ef
    refine ⟨a2, ps, rfl, q2, by omega, fun G2 s3 => ⟨_, rfl, ?_⟩⟩
    have s4 := s2.trans s3
    by_cases c2 : parsOk ps = true
    case' neg =>
      have c2' : parsOk ps = false := by simpa using c2
      rw [if_pos c2']
      exact stop G2 _ s4 rfl (by rw [ef, c2', Bool.false_and])
    rw [if_neg (by rw [c2]; decide)]
    rw [c2, Bool.true_and] at ef
    obtain ⟨ws, rfl⟩ := pars_words c2
    refine ⟨v3, b, a2, ca, ws, kv1, fs, rfl, q3.mono s3.tup, by omega, q2.mono s3.tup, s3 _ _ ec2, okc, fun G3 s5 => ⟨_, rfl, ?_⟩⟩
    have s6 := s4.trans s5
    by_cases c3 : exOk (wds ws) (cnt fs) b = true
    case' neg =>
      have c3' : exOk (wds ws) (cnt fs) b = false := by simpa using c3
      rw [if_pos c3']
      exact stop G3 _ s6 rfl (by rw [ef, c3'])
    rw [if_neg (by rw [c3]; decide)]
    rw [c3] at ef
    have en3 := s5 _ _ (s3 _ _ en2)
    have ec3 := s5 _ _ (s3 _ _ ec2)
    obtain ⟨nl, nd⟩ := nd
    have ltk : (fs.take i).length = i := by rw [List.length_take]; omega
    refine ⟨_, DPut.k (k := .inr n) en3 (small20 (by omega)), ⟨_, _, _, _, _, rfl⟩, s6.over hna0 _, ⟨kv1, by rw [upd_ne ncn]; exact ec3, okc⟩, ⟨_, upd_same, ?_, fun z => ?_⟩, fun j hj => ?_⟩
    · have := putK_len kv2 (.inr n) (.bl true)
      rw [List.length_take]
      omega
    · rw [valV_put, List.take_add_one, ht]
      show _ = nameIn z (fs.take i ++ [_])
      rw [nameIn_snoc]
      by_cases e : z = n
      · rw [if_pos (by rw [e]), e, decide_eq_true rfl, Bool.or_true]; rfl
      · rw [if_neg (fun h => e (Sum.inr.inj h)), nd, decide_eq_false (fun h => e h.symm), Bool.or_false]
    · by_cases e : j = i
      · rw [e]; exact ef
      · exact okf j (by omega)
  · rintro σ H' ⟨⟨u1, u2, u3, u4, u5, rfl⟩, s', _, _, okf⟩
    exact qn (badF_none (fun j hj => okf j (by omega))) H' s'
end
end K4

namespace K4
open PySem PySem.Spec PyProof.Rows L2
local macro_rules | `(tactic| walk_at "rd") => `(tactic| simp only [tSeq, tAsg, tVar, tOp, tUn, rU, tTup, tLst, tNil, tCons, tCall, tCallS, tCB, tB, tTest, tAnd, tOr, tNot, tAndV, tOrV, tNotV, tIf, tNext, tDrop, tRet, tRetN, tIfS, tCont, tNever, tSl, tNoPart, tPart, tBM, tBM0, tM1, gName, gSub, gTup, gNil, gCons, tC, rI, rI0, rEq, rNe, rIxL, rIxT, rIxS, rSetL, rAppend, rPop, rIn, rSlS, rSlL, rCat, rIndex, rExtT, tGv, tGvL, rLn, rInK, rIsX, tRev, tXf, tDGet1, tDIn, tDNotIn, sDPut, tDNewK, WE, tFor_eq, tLc_eq, iTup, iList, iRng1, iStr, iEnumT, cx_K, cx_prog, cx_w, List.getElem?_cons_succ, List.getElem?_cons_zero, Option.some.injEq, exists_eq_left', exists_eq_left, exists_and_left, V.ref.injEq, V.int.injEq, V.str.injEq, V.bl.injEq, V.ty.injEq, List.cons.injEq, List.set_cons_zero, List.set_cons_succ, and_assoc, true_and, and_true, List.append_nil, List.map_cons, List.map_nil, Int.sub_self, reduceCtorEq, false_and, and_false, or_false, false_or, exists_false, if_true, if_false, Bool.not_true, Bool.not_false, Bool.false_eq_true, decide_eq_true_eq, Bool.not_eq_true', decide_eq_false_iff_not, Int.zero_add])
local macro_rules | `(tactic| walk_at "gv") => `(tactic| (repeat (first | exact gvl_nil | refine gvl_cons ?_ ?_ | exact gv_str | exact gv_gv | (exact gv_var (by assumption)) | refine gv_tup ?_)))
local macro_rules | `(tactic| walk_at "nx") => `(tactic| simp only [tSeq, List.set_cons_zero, List.set_cons_succ])
local macro_rules | `(tactic| walk_at "exd") => `(tactic| (repeat (first | exact ExD.word _ _ | exact ExD.quote _ _ | exact exdl_nil | refine exdl_cons ?_ ?_ | refine ExD.call ?_)))

/-- -1 or the number of parameters -/
def manyI (o : Option Nat) : Int := match o with
  | some n => (n : Nat)
  | none => -1
def spMany : Sp := fun vs H Q _ => ∃ (pa : Addr) (fs : List Tr) (z : Str), vs = [.ref pa, .str z] ∧ TrV H (.t fs) (.ref pa) ∧ Q (.int (manyI (cntF fs z))) H
def spExpr2 : Sp := fun vs H Q _ => ∃ (bv : V) (b : Tr) (va pa : Addr) (ws : List Str) (fs : List Tr), vs = [.ref va, .ref pa, bv] ∧ TrV H b bv ∧ wt b ≤ 19000 ∧ TrV H (.t (wds ws)) (.ref pa) ∧ TrV H (.t fs) (.ref va) ∧
  ∀ H', Same H H' → Q (.bl (exOk (wds ws) (cnt fs) b)) H'
def ManyInv (H : Hp) (v : V) (z : Str) (fs : List Tr) (i : Nat) (σ : L2.St) (H' : Hp) : Prop := (∃ u : Option V, σ = [some v, some (V.str z), u]) ∧ H' = H ∧ cntF fs z = cntF (fs.drop i) z
def EW (H : Hp) (va pa : Addr) (bv : V) (b : Tr) (good : Bool) (all : List Tr → Bool) (i : Nat) (σ : L2.St) (H' : Hp) : Prop := ∃ wa : Addr, (∃ u1 u2 u3 u4 : Option V, σ = [some (V.ref va), some (V.ref pa), some bv, some (V.ref wa), u1, u2, u3, u4]) ∧
  H wa = none ∧ Same H H' ∧ ∃ ts vs, H' wa = some (.lst vs) ∧ TrL H' ts vs ∧ good = all ts ∧ i + wtL ts ≤ wt b
theorem specN_none {z : Str} (h : ¬ z ∈ spec) : specN z = none := by
  have e := spec_is z
  rw [spec_val, Option.isSome_map] at e
  unfold isSpec at e
  rw [decide_eq_false h] at e
  cases q : specN z with
  | none => rfl
  | some n => rw [q] at e; cases e
def parts : List Nat := [1, 3, 2, 1, 1, 1, 2]
theorem spec_inj : ∀ i j : Fin 7, spec[i.val]? = spec[j.val]? → i = j := by decide +kernel
theorem spec_parts : ∀ j : Fin 7, (spec[j.val]?).bind specN = parts[j.val]? := by decide +kernel
theorem eqV_str (z : Str) : eqV (V.str z) (V.str z) = true := by simp [eqV]
theorem spec_at {z : Str} (h : z ∈ spec) : ∃ j n, (spec.map V.str)[j]? = some (.str z) ∧ (∀ (m : Nat) (z' : V), m < j → (spec.map V.str)[m]? = some z' → eqV z' (.str z) = false) ∧
    atI [V.int 1, V.int 3, V.int 2, V.int 1, V.int 1, V.int 1, V.int 2, V.int (-1)] (j : Nat) = some (.int (n : Nat)) ∧ specN z = some n := by
  obtain ⟨j, hj, e⟩ := List.mem_iff_getElem.mp h
  have hj7 : j < 7 := hj
  have e1 : spec[j]? = some z := by rw [List.getElem?_eq_getElem hj, e]
  have e2 := spec_parts ⟨j, hj7⟩
  have hp : parts[j]? = some parts[j] := List.getElem?_eq_getElem hj7
  have e3 : specN z = some parts[j] := by
    show specN z = _
    have e4 : (spec[j]?).bind specN = parts[j]? := e2
    rw [e1, hp] at e4
    exact e4
  refine ⟨j, parts[j], by rw [List.getElem?_map, e1]; rfl, ?_, ?_, e3⟩
  · intro m z' hm hz
    rw [List.getElem?_map] at hz
    obtain ⟨y, hy, rfl⟩ := Option.map_eq_some_iff.mp hz
    have ne : y ≠ z := by
      intro e
      have q := spec_inj ⟨m, by omega⟩ ⟨j, hj7⟩ (by show spec[m]? = spec[j]?; rw [hy, e1, e])
      have q2 := congrArg Fin.val q
      have q3 : m = j := q2
      omega
    simp [eqV, ne]
  · refine atI_nat ?_
    show (((parts.map fun n => V.int (n : Nat)) ++ [V.int (-1)]))[j]? = _
    rw [List.getElem?_append_left (by rw [List.length_map]; exact hj7), List.getElem?_map, hp]
    rfl
theorem three {l : List Tr} (h : l.length = 3) : ∃ t1 t2 t3, l = [t1, t2, t3] := by
  match l, h with
  | [t1, t2, t3], _ => exact ⟨t1, t2, t3, rfl⟩
theorem headOf_len {l : List Tr} (h : ¬ l.length = 3) : headOf (.t l) = none := by
  unfold headOf
  split
  · rename_i q
    cases q
    exact absurd rfl h
  · rfl
section
variable {P : Program} {w : World} {K : PySem.W.Frag} {mg : Str → Option Value} {base : Heap} {F : Fs}
theorem ok_many (T : Tx w K mg F) : FnOk P w K mg base CX0 1 F.f__law_many F.d__law_many ["_law_program_here", "_law_name"] spMany := by
  refine T.F__law_many.ok sc_law_many (fun vs H Q E h => ?_) (fun cdv A outer s H vs Q E hr h => ?_)
  · obtain ⟨_, _, _, rfl, _⟩ := h
    rfl
  obtain ⟨pa, fs, z, rfl, tv, q⟩ := h
  refine ⟨_, (pss_cons (ps_for PassesOwn.never rfl (pi_tup (pv 0)) (pg_name (i := 2) sc_law_many.nd rfl (Or.inl rfl)) (pss_one (ps_if (PW.pt (pw_and (pt_val (pe_callB call_isi rfl T.z_isinstance (by decide +kernel) (pa_cons (pv 2) (pa_cons (pe_bltn (v := .ty "tuple") (u := .type "tuple") rfl T.z_tuple (by decide +kernel) rfl) pa_nil)))) (pw_and (pt_cmpR op_eq (pe_callB call_len rfl T.z_len PySem.boot_len (pa_cons (pv 2) pa_nil)) pe_int (nomark _)) (pw_and (pt_val (pe_callB call_isi rfl T.z_isinstance (by decide +kernel) (pa_cons (pe_ix ix_tup (pv 2) pe_int (fun _ _ => rfl)) (pa_cons (pe_bltn (v := .ty "str") (u := .type "str") rfl T.z_str (by decide +kernel) rfl) pa_nil)))) (pw_and1 (pt_val (pe_callB call_isi rfl T.z_isinstance (by decide +kernel) (pa_cons (pe_ix ix_tup (pv 2) pe_int (fun _ _ => rfl)) (pa_cons (pe_bltn (v := .ty "tuple") (u := .type "tuple") rfl T.z_tuple (by decide +kernel) rfl) pa_nil))))))))) (pss_one (ps_if (pt_cmpR op_eq (pe_ix ix_tup (pv 2) pe_int (fun _ _ => rfl)) (pv 1) (nomark _)) (pss_one (ps_ret (pe_callB call_len rfl T.z_len PySem.boot_len (pa_cons (pe_ix ix_tup (pv 2) pe_int (fun _ _ => rfl)) pa_nil)))) pss_nil)) pss_nil)))
      (pss_one (ps_ret (pe_un un_neg pe_int)))), ?_⟩
  rw [show start ["_law_program_here", "_law_name", "_law_one"] [V.ref pa, V.str z] = [some (V.ref pa), some (V.str z), none] from rfl]
  walk_at "rd"
  obtain ⟨pa', us, e, ep, tl⟩ := tv.tup
  cases e
  have lu := tl.len
  refine ⟨⟨us, SqT.of ep⟩, ?_⟩
  refine loop_tup (xs := us) (ManyInv H (.ref pa) z fs) ⟨⟨_, rfl⟩, rfl, by rw [List.drop_zero]⟩ ?_ ?_ ?_
  · rintro i σ H' ⟨_, rfl, _⟩
    exact ep
  · rintro i v σ H' hv ⟨⟨u, rfl⟩, rfl, ec⟩
    obtain ⟨t, ht, tv2⟩ := tl.of hv
    have hi := (List.getElem?_eq_some_iff.mp ht).1
    have ed : fs.drop i = t :: fs.drop (i + 1) := by
      have z := List.drop_eq_getElem_cons hi
      rw [List.getElem?_eq_getElem hi] at ht
      rw [z, Option.some.inj ht]
    rw [ed, cntF] at ec
    walk_at "rd"
    have skip : headOf t = none → ManyInv H' (.ref pa) z fs (i + 1) [some (V.ref pa), some (V.str z), some v] H' := fun e => by
      rw [e] at ec
      exact ⟨⟨_, rfl⟩, rfl, ec⟩
    cases t with
    | w s =>
      obtain rfl := tv2.word
      refine isi_wt ?_
      walk_at "rd"
      exact skip rfl
    | t l =>
      obtain ⟨a, vs, rfl, ea, tl2⟩ := tv2.tup
      refine isi_tt ea ?_
      walk_at "rd"
      have l2 := tl2.len
      refine ⟨_, lenT ea, rfl, ?_⟩
      by_cases c : (vs.length : Int) = 3
      case' neg =>
        rw [if_neg c]
        exact skip (headOf_len (by omega))
      rw [if_pos c]
      obtain ⟨t1, t2, t3, rfl⟩ := three (l := l) (by omega)
      obtain ⟨v1, vs, rfl, q1, tl2⟩ := tl2.cons'
      obtain ⟨v2, vs, rfl, q2, tl2⟩ := tl2.cons'
      refine ⟨_, SqT.of ea, v1, atI_0, ?_⟩
      cases t1 with
      | t l1 =>
        obtain ⟨a1, vs1, rfl, ea1, _⟩ := q1.tup
        exact isi_t ea1 ⟨_, rfl, skip rfl⟩
      | w n =>
      obtain rfl := q1.word
      refine isi_w ⟨_, rfl, ?_⟩
      rw [if_pos rfl]
      refine ⟨_, SqT.of ea, v2, atI_1, ?_⟩
      cases t2 with
      | w s =>
        obtain rfl := q2.word
        exact isi_wt ⟨_, rfl, skip rfl⟩
      | t ps =>
      obtain ⟨a2, vs2, rfl, ea2, tl3⟩ := q2.tup
      refine isi_tt ea2 ⟨_, rfl, ?_⟩
      rw [if_pos rfl]
      refine ⟨_, SqT.of ea, _, atI_0, rfl, ?_⟩
      have ec : cntF fs z = if n = z then some ps.length else cntF (fs.drop (i + 1)) z := ec
      by_cases c2 : n = z
      · rw [if_pos (by rw [c2])]
        rw [if_pos c2] at ec
        refine ⟨_, SqT.of ea, _, atI_1, _, lenT ea2, ?_⟩
        rw [ec] at q
        rw [tl3.len]
        exact q
      · rw [if_neg (fun h => c2 (V.str.inj h))]
        rw [if_neg c2] at ec
        exact ⟨⟨_, rfl⟩, rfl, ec⟩
  · rintro σ H' ⟨⟨u, rfl⟩, rfl, ec⟩
    walk_at "rd"
    rw [lu, List.drop_length, cntF] at ec
    rw [ec] at q
    exact q
theorem ok_expr2 (T : Tx w K mg F) : FnOk P w K mg base CX0 2 F.f__law_expression_good F.d__law_expression_good ["_law_program_here", "_law_parameters", "_law_body"] spExpr2 := by
  have G__law_many := ok_many (P := P) (base := base) T
  have G__law_special := ok_special (P := P) (base := base) T
  refine T.F__law_expression_good.ok sc_law_expression_good (fun vs H Q E h => ?_) (fun cdv A outer s H vs Q E hr h => ?_)
  · obtain ⟨_, _, _, _, _, _, rfl, _⟩ := h
    rfl
  obtain ⟨bv, b, va, pa, ws, fs, rfl, tb, wb, tp, tf, q⟩ := h
  refine ⟨_, (pss_cons (ps_set (i := 3) sc_law_expression_good.nd rfl (Or.inl rfl) (pe_lst (pa_cons (pv 2) pa_nil)))
      (pss_cons (ps_for PassesOwn.never rfl (pi_range1 rfl T.z_range (pa_cons pe_int pa_nil)) (pg_name (i := 4) sc_law_expression_good.nd rfl (Or.inl rfl)) (pss_cons (ps_if (pt_cmpR op_eq (pe_callB call_len rfl T.z_len PySem.boot_len (pa_cons (pv 3) pa_nil)) pe_int (nomark _)) (pss_one (ps_ret pe_bl)) pss_nil)
      (pss_cons (ps_set (i := 5) sc_law_expression_good.nd rfl (Or.inl rfl) (pe_bm0 PySem.F.plainAttrs_list PySem.F.slot_list_pop PySem.F.type_list_pop mt_pop (pv 3)))
      (pss_cons (ps_if (pt_val (pe_callB call_isi rfl T.z_isinstance (by decide +kernel) (pa_cons (pv 5) (pa_cons (pe_bltn (v := .ty "str") (u := .type "str") rfl T.z_str (by decide +kernel) rfl) pa_nil)))) (pss_cons (ps_if (pt_cmpR op_notIn_seq (pv 5) (pv 1) (by with_unfolding_all rfl)) (pss_one (ps_ret pe_bl)) pss_nil)
      (pss_one ps_continue)) pss_nil)
      (pss_cons (ps_if (PW.pt (pw_or (pt_cmpR op_eq (pe_callB call_len rfl T.z_len PySem.boot_len (pa_cons (pv 5) pa_nil)) pe_int (nomark _)) (pw_or1 (pt_not (pt_val (pe_callB call_isi rfl T.z_isinstance (by decide +kernel) (pa_cons (pe_ix ix_tup (pv 5) pe_int (fun _ _ => rfl)) (pa_cons (pe_bltn (v := .ty "str") (u := .type "str") rfl T.z_str (by decide +kernel) rfl) pa_nil)))))))) (pss_one (ps_ret pe_bl)) pss_nil)
      (pss_cons (ps_set (i := 6) sc_law_expression_good.nd rfl (Or.inl rfl) (pe_lst (pa_cons pe_int (pa_cons pe_int (pa_cons pe_int (pa_cons pe_int (pa_cons pe_int (pa_cons pe_int (pa_cons pe_int (pa_cons (pe_un un_neg pe_int) pa_nil))))))))))
      (pss_cons (ps_if (pt_cmpR op_in_seq (pe_ix ix_tup (pv 5) pe_int (fun _ _ => rfl)) (pe_call0 G__law_special (hr.mono (by decide)) rfl T.m__law_special T.k__law_special T.b__law_special .nil pass0) (by with_unfolding_all rfl)) (pss_one (ps_set (i := 7) sc_law_expression_good.nd rfl (Or.inl rfl) (pe_ix ix_list (pv 6) (pe_bm PySem.F.plainAttrs_list PySem.F.slot_list_index PySem.F.type_list_index mt_index (pe_call0 G__law_special (hr.mono (by decide)) rfl T.m__law_special T.k__law_special T.b__law_special .nil pass0) (pa_cons (pe_ix ix_tup (pv 5) pe_int (fun _ _ => rfl)) pa_nil)) (fun _ _ => rfl)))) (pss_one (ps_set (i := 7) sc_law_expression_good.nd rfl (Or.inl rfl) (pe_call G__law_many (hr.mono (by decide)) rfl T.m__law_many T.k__law_many T.b__law_many .nil pass0 (pa_cons (pv 0) (pa_cons (pe_ix ix_tup (pv 5) pe_int (fun _ _ => rfl)) pa_nil))))))
      (pss_cons (ps_if (pt_cmpR op_ne (pv 7) (pe_op op_sub (pe_callB call_len rfl T.z_len PySem.boot_len (pa_cons (pv 5) pa_nil)) pe_int) (nomark _)) (pss_one (ps_ret pe_bl)) pss_nil)
      (pss_one (ps_if (pt_cmpR op_ne (pe_ix ix_tup (pv 5) pe_int (fun _ _ => rfl)) pe_str (nomark _)) (pss_one (ps_set (i := 3) sc_law_expression_good.nd rfl (Or.inl rfl) (pe_op op_cat (pv 3) (pe_callTy call_list_of rfl T.z_list (by decide +kernel) (pa_cons (pe_slice sl_tupA (pv 5) (po_some pe_int) po_none) pa_nil))))) pss_nil))))))))))
      (pss_one (ps_ret pe_bl)))), ?_⟩
  rw [show start ["_law_program_here", "_law_parameters", "_law_body", "_law_todo", "_law_step", "_law_one", "_law_parts", "_law_many_here"] [V.ref va, V.ref pa, bv] = [some (V.ref va), some (V.ref pa), some bv, none, none, none, none, none] from rfl]
  walk_at "rd"
  obtain ⟨pa', us, e, ep, tl⟩ := tp.tup
  cases e
  have eus := trl_words tl
  refine ⟨by show 1 ≤ sizeLine; decide, fun wa hwa => ⟨by decide, by decide, ?_⟩⟩
  refine loop_range (n := Int.toNat 20000) (EW H va pa bv b (exOk (wds ws) (cnt fs) b) (exOkL (wds ws) (cnt fs))) ?_ ?_ ?_
  · refine ⟨wa, ⟨_, _, _, _, rfl⟩, hwa, same_new hwa _, [b], [bv], upd_same, .one (tb.mono (Tup.new hwa _)), ?_, ?_⟩
    · rw [exOkL_cons, exOkL_nil, Bool.and_true]
    · rw [wtL_cons, wtL_nil]; omega
  · rintro i σ H' hi ⟨wa, ⟨u1, u2, u3, u4, rfl⟩, hwa, s', ts, vs, ew, tls, eq, wts⟩
    have lv := tls.len
    walk_at "rd"
    refine ⟨_, lenL ew, rfl, ?_⟩
    by_cases c : (vs.length : Int) = 0
    · rw [if_pos c]
      have z : ts = [] := List.eq_nil_of_length_eq_zero (by omega)
      rw [z, exOkL_nil] at eq
      rw [← eq]
      exact q H' s'
    rw [if_neg c]
    have nz : ts ≠ [] := fun h => by rw [h] at lv; rw [lv] at c; simp at c
    obtain ⟨ts0, t, rfl⟩ : ∃ ts0 t, ts = ts0 ++ [t] := ⟨ts.dropLast, ts.getLast nz, (List.dropLast_concat_getLast nz).symm⟩
    obtain ⟨vs0, v, rfl, tl0, tv⟩ := tls.snoc'
    rw [exOkL_append, exOkL_cons, exOkL_nil, Bool.and_true] at eq
    rw [wtL_append, wtL_cons, wtL_nil] at wts
    have wt0 := wt_pos t
    refine ⟨.inl ⟨rfl, _, SqL.of ew⟩, _, ew, v, ?_, ?_⟩
    · rw [List.length_append, List.length_singleton, Nat.add_sub_cancel, List.getElem?_append_right (Nat.le_refl _), Nat.sub_self]; rfl
    rw [List.dropLast_concat]
    have t1 : Tup H' (upd H' wa (.lst vs0)) := Tup.lst ew _
    have s1 : Same H (upd H' wa (.lst vs0)) := s'.over hwa _
    have ew1 : (upd H' wa (.lst vs0)) wa = some (.lst vs0) := upd_same
    have tv1 := tv.mono t1
    have tl1 := tl0.mono t1
    generalize upd H' wa (.lst vs0) = G at s1 ew1 tv1 tl1
    have stop : ∀ G2, Same G G2 → exOk (wds ws) (cnt fs) t = false → Q (.bl false) G2 := fun G2 s2 h => by
      rw [h, Bool.and_false] at eq
      rw [← eq]
      exact q G2 (s1.trans s2)
    cases t with
    | w z =>
      obtain rfl := tv1.word
      refine isi_w ⟨_, rfl, ?_⟩
      rw [if_pos rfl]
      refine ⟨_, .inr (SqT.of (s1 _ _ ep)), rfl, by rw [eus]; exact flat_words ws, ?_⟩
      rw [eus, inV_words]
      rw [exOk_w, inW_wds] at eq stop
      by_cases c1 : z ∈ ws
      · rw [if_neg (by rw [decide_eq_true c1]; decide)]
        rw [decide_eq_true c1, Bool.and_true] at eq
        exact ⟨wa, ⟨_, _, _, _, rfl⟩, hwa, s1, ts0, vs0, ew1, tl1, eq, by omega⟩
      · rw [if_pos (decide_eq_false c1)]
        exact stop G (Same.refl G) (decide_eq_false c1)
    | t l =>
      obtain ⟨a, us2, rfl, ea, tl2⟩ := tv1.tup
      refine isi_t ea ⟨_, rfl, ?_⟩
      rw [if_neg (fun h => nomatch h)]
      refine ⟨_, lenT ea, rfl, ?_⟩
      have l2 := tl2.len
      by_cases c1 : (us2.length : Int) = 0
      · rw [if_pos c1]
        have z : l = [] := List.eq_nil_of_length_eq_zero (by omega)
        exact stop G (Same.refl G) (by rw [z, exOk_nil])
      rw [if_neg c1]
      obtain ⟨t1, r, rfl⟩ : ∃ t1 r, l = t1 :: r := by
        cases l with
        | nil => rw [l2] at c1; exact absurd rfl c1
        | cons t1 r => exact ⟨t1, r, rfl⟩
      obtain ⟨v1, vr, rfl, q1, tlr⟩ := tl2.cons'
      refine ⟨a, rfl, _, SqT.of ea, v1, atI_0, ?_⟩
      cases t1 with
      | t l1 =>
        obtain ⟨a1, vs1, rfl, ea1, _⟩ := q1.tup
        refine isi_t ea1 ⟨_, rfl, ?_⟩
        rw [if_pos rfl]
        exact stop G (Same.refl G) exOk_t
      | w z =>
        obtain rfl := q1.word
        refine isi_w ⟨_, rfl, ?_⟩
        rw [if_neg (fun h => nomatch h)]
        rw [exOk_call] at eq stop
        have lr : ((V.str z :: vr).length : Int) - 1 = r.length := by rw [List.length_cons, tlr.len]; omega
        have wtt : wt (.t (.w z :: r)) = 1 + (wt (.w z) + wtL r) := by rw [wt_t, wtL_cons]
        have wz := wt_pos (.w z)
        have tail : ∀ (H1 : Hp) (p : Addr) (x : V), Same G H1 → x = .int (manyI (cnt fs z)) →
            ∃ x_3, LenV K (V.ref a) H1 x_3 ∧ scal x (V.int (↑x_3 - 1)) = true ∧ if ¬x = V.int (↑x_3 - 1) then Q (V.bl false) H1 else
              ∃ p_4, V.ref a = V.ref p_4 ∧ ∃ x_4, SqT K H1 p_4 x_4 ∧ ∃ x_5, atI x_4 0 = some x_5 ∧ scal x_5 (V.str (Str.ofString "quote")) = true ∧
                if ¬x_5 = V.str (Str.ofString "quote") then
                  rSlA K (V.ref a) (some 1) none H1 fun x_6 H1 => ∃ p_5, x_6 = V.ref p_5 ∧ ∃ x_7, (SqL K H1 p_5 x_7 ∨ SqT K H1 p_5 x_7) ∧ ∀ (l : Addr), H1 l = none →
                    ∃ x_8, upd H1 l (HO.lst x_7) wa = some (HO.lst x_8) ∧ ∃ x_9, upd H1 l (HO.lst x_7) l = some (HO.lst x_9) ∧ x_8.length + x_9.length ≤ sizeLine ∧
                      ∀ (p_6 : Addr), upd H1 l (HO.lst x_7) p_6 = none →
                        EW H va pa bv b (exOk (wds ws) (cnt fs) b) (exOkL (wds ws) (cnt fs)) (i + 1) [some (V.ref va), some (V.ref pa), some bv, some (V.ref p_6), some (V.int i), some (V.ref a), some (V.ref p), some x]
                          (upd (upd H1 l (HO.lst x_7)) p_6 (HO.lst (x_8 ++ x_9)))
                else EW H va pa bv b (exOk (wds ws) (cnt fs) b) (exOkL (wds ws) (cnt fs)) (i + 1) [some (V.ref va), some (V.ref pa), some bv, some (V.ref wa), some (V.int i), some (V.ref a), some (V.ref p), some x] H1 := by
          intro H1 p x sg ex
          refine ⟨_, lenT (sg _ _ ea), ?_⟩
          rw [lr, ex]
          refine ⟨rfl, ?_⟩
          have en : (V.int (manyI (cnt fs z)) = V.int (r.length : Nat)) ↔ cnt fs z = some r.length := by
            cases cnt fs z with
            | none => exact ⟨fun h => absurd (V.int.inj h) (by show ¬ (-1 : Int) = (r.length : Nat); omega), fun h => (nomatch h)⟩
            | some n => exact ⟨fun h => by
                have h2 : ((n : Nat) : Int) = (r.length : Nat) := V.int.inj h
                rw [show n = r.length by omega], fun h => by cases h; rfl⟩
          by_cases c2 : cnt fs z = some r.length
          case' neg =>
            rw [if_pos (fun h => c2 (en.mp h))]
            exact stop H1 sg (by rw [decide_eq_false c2]; rfl)
          rw [if_neg (fun h => h (en.mpr c2))]
          rw [decide_eq_true c2, Bool.true_and] at eq
          refine ⟨a, rfl, _, SqT.of (sg _ _ ea), _, atI_0, rfl, ?_⟩
          have ewg := sg _ _ ew1
          have tlg := tl1.mono sg.tup
          by_cases c3 : z = ("quote" : Str)
          · rw [if_neg (fun h => h (by rw [c3]))]
            rw [decide_eq_true c3, Bool.true_or, Bool.and_true] at eq
            exact ⟨wa, ⟨_, _, _, _, rfl⟩, hwa, s1.trans sg, ts0, vs0, ewg, tlg, eq, by omega⟩
          · rw [if_pos (fun h => c3 (V.str.inj h))]
            rw [decide_eq_false c3, Bool.false_or] at eq
            refine slA_of (sg _ _ ea) fun r2 G2 s2 er => ?_
            have er' : G2 r2 = some (.tup vr) := by
              rw [cutV_from _ (by decide)] at er; exact er
            refine ⟨r2, rfl, vr, .inr (SqT.of er'), fun l hl => ?_⟩
            have sl := same_new hl (.lst vr)
            have lv0 := tl1.len
            have lvr := tlr.len
            have w1 := wtL_len ts0
            have w2 := wtL_len r
            refine ⟨vs0, sl _ _ (s2 _ _ ewg), vr, upd_same, Nat.le_of_lt (small20 (by omega)), fun p6 hp6 => ?_⟩
            have s6 := same_new hp6 (.lst (vs0 ++ vr))
            have sa := (s2.trans sl).trans s6
            have sb := s1.trans (sg.trans (s2.trans sl))
            refine ⟨p6, ⟨_, _, _, _, rfl⟩, sb.free hp6, (s1.trans sg).trans sa, ts0 ++ r, vs0 ++ vr, upd_same, ((tlg.mono sa.tup).append (tlr.mono (sg.trans sa).tup)), ?_, ?_⟩
            · rw [exOkL_append]; exact eq
            · rw [wtL_append]; omega
        refine ⟨by show 8 ≤ sizeLine; decide, fun p hp => ⟨a, rfl, _, SqT.of (Tup.new hp _ _ _ ea), _, atI_0, rfl, fun H2 sp2 s2 e2 => ?_⟩⟩
        have ep2 : H2 p = some (.lst [V.int 1, V.int 3, V.int 2, V.int 1, V.int 1, V.int 1, V.int 2, V.int (-1)]) := s2 _ _ upd_same
        have sg2 := (same_new hp _).trans s2
        refine ⟨sp2, rfl, _, .inl (SqL.of e2), rfl, by decide +kernel, ?_⟩
        rw [inV_words]
        by_cases c2 : z ∈ spec
        · rw [if_pos (decide_eq_true c2)]
          refine ⟨rfl, fun H3 sp3 s3 e3 => ⟨.inl ⟨rfl, _, SqL.of e3⟩, a, rfl, _, SqT.of (s3 _ _ (sg2 _ _ ea)), _, atI_0, sp3, rfl, _, SqL.of e3, rfl, by decide +kernel, ?_⟩⟩
          have sg3 := sg2.trans s3
          have ep3 := s3 _ _ ep2
          obtain ⟨j, n, h1, h2, h3, h4⟩ := spec_at c2
          have e5 : cnt fs z = some n := by
            unfold cnt
            rw [h4]
          exact ⟨j, _, h1, eqV_str z, h2, _, SqL.of ep3, _, h3, tail H3 p _ sg3 (by rw [e5]; rfl)⟩
        · rw [if_neg (by rw [decide_eq_false c2]; decide)]
          refine ⟨a, rfl, _, SqT.of (sg2 _ _ ea), _, atI_0, va, fs, z, rfl, (tf.mono s1.tup).mono sg2.tup, ?_⟩
          refine tail H2 p _ sg2 ?_
          have e5 : cnt fs z = cntF fs z := by
            unfold cnt
            rw [specN_none c2]
          rw [e5]
  · rintro σ H' ⟨wa, ⟨u1, u2, u3, u4, rfl⟩, hwa, s', ts, vs, ew, tls, eq, wts⟩
    exfalso
    have : (20000 : Int).toNat = 20000 := rfl
    omega
end
end K4

namespace K4
open PySem PySem.Spec PyProof.Rows L2
local macro_rules | `(tactic| walk_at "rd") => `(tactic| simp only [tSeq, tAsg, tVar, tOp, tUn, rU, tTup, tLst, tNil, tCons, tCall, tCallS, tCB, tB, tTest, tAnd, tOr, tNot, tAndV, tOrV, tNotV, tIf, tNext, tDrop, tRet, tRetN, tIfS, tCont, tNever, tSl, tNoPart, tPart, tBM, tBM0, tM1, gName, gSub, gTup, gNil, gCons, tC, rI, rI0, rEq, rNe, rIxL, rIxT, rIxS, rSetL, rAppend, rPop, rIn, rSlS, rSlL, rCat, rIndex, rExtT, tGv, tGvL, rLn, rInK, rIsX, tRev, tXf, tDGet1, tDIn, tDNotIn, sDPut, tDNewK, WE, tFor_eq, tLc_eq, iTup, iList, iRng1, iStr, iEnumT, cx_K, cx_prog, cx_w, List.getElem?_cons_succ, List.getElem?_cons_zero, Option.some.injEq, exists_eq_left', exists_eq_left, exists_and_left, V.ref.injEq, V.int.injEq, V.str.injEq, V.bl.injEq, V.ty.injEq, List.cons.injEq, List.set_cons_zero, List.set_cons_succ, and_assoc, true_and, and_true, List.append_nil, List.map_cons, List.map_nil, Int.sub_self, reduceCtorEq, false_and, and_false, or_false, false_or, exists_false, if_true, if_false, Bool.not_true, Bool.not_false, Bool.false_eq_true, decide_eq_true_eq, Bool.not_eq_true', decide_eq_false_iff_not, Int.zero_add])
local macro_rules | `(tactic| walk_at "gv") => `(tactic| (repeat (first | exact gvl_nil | refine gvl_cons ?_ ?_ | exact gv_str | exact gv_gv | (exact gv_var (by assumption)) | refine gv_tup ?_)))
local macro_rules | `(tactic| walk_at "nx") => `(tactic| simp only [tSeq, List.set_cons_zero, List.set_cons_succ])
local macro_rules | `(tactic| walk_at "exd") => `(tactic| (repeat (first | exact ExD.word _ _ | exact ExD.quote _ _ | exact exdl_nil | refine exdl_cons ?_ ?_ | refine ExD.call ?_)))

def Heads (fs : List Tr) (k : Nat) : Prop := ∀ j, j < k → ∃ t n ps, fs[j]? = some t ∧ headOf t = some (n, ps)
def spName2 : Sp := fun vs H Q _ => ∃ (va : Addr) (k : Nat) (fs : List Tr) (n : Str) (ps : List Tr) (b : Tr), vs = [.ref va, .int k] ∧ TrV H (.t fs) (.ref va) ∧ fs[k]? = some (.t [.w n, .t ps, b]) ∧ okS n = true ∧ Heads fs k ∧
  ∀ H', Same H H' → Q (.bl (nameOk fs k n)) H'
def NmInv (H2 : Hp) (va : Addr) (k : Nat) (n : Str) (fs : List Tr) (i : Nat) (σ : L2.St) (H' : Hp) : Prop := (∃ u : Option V, σ = [some (V.ref va), some (V.int k), some (V.str n), u, none, none]) ∧ H' = H2 ∧ nameIn n (fs.take i) = false
def DgInv (H2 : Hp) (va : Addr) (k : Nat) (n : Str) (u : Option V) (z : Str) (r : List Nat) (i : Nat) (σ : L2.St) (H' : Hp) : Prop := (∃ u2 : Option V, σ = [some (V.ref va), some (V.int k), some (V.str n), u, some (V.str z), u2]) ∧ H' = H2 ∧ ∀ c ∈ r.take i, 48 ≤ c ∧ c ≤ 57
def spFn2 : Sp := fun vs H Q _ => ∃ (va : Addr) (k : Nat) (fs : List Tr), vs = [.ref va, .int k] ∧ TrV H (.t fs) (.ref va) ∧ k < fs.length ∧ wtL fs ≤ 19000 ∧ Heads fs k ∧
  ∀ H', Same H H' → Q (.bl (fnOk fs k)) H'
def spBad2 : Sp := fun vs H Q _ => ∃ (v : V) (t : Tr), vs = [v] ∧ TrV H t v ∧ wt t ≤ 19000 ∧ ∀ H', Same H H' → Q (.int (manyI (badT t))) H'
def BdInv (H : Hp) (v : V) (fs : List Tr) (i : Nat) (σ : L2.St) (H' : Hp) : Prop := (∃ u : Option V, σ = [some v, u]) ∧ Same H H' ∧ ∀ j, j < i → fnOk fs j = true
def FpInv (H : Hp) (va : Addr) (k : Nat) (a : Addr) (ps : List Tr) (i : Nat) (σ : L2.St) (H' : Hp) : Prop := (∃ u : Option V, σ = [some (V.ref va), some (V.int k), some (V.ref a), u]) ∧ Same H H' ∧
  ∃ ws : List Str, ps.take i = wds ws ∧ (∀ j, j < i → parOk ps j = true) ∧ ws.length = i
section
variable {P : Program} {w : World} {K : PySem.W.Frag} {mg : Str → Option Value} {base : Heap} {F : Fs}
theorem ok_name2 (T : Tx w K mg F) : FnOk P w K mg base CX0 2 F.f__law_name_good F.d__law_name_good ["_law_program_here", "_law_at"] spName2 := by
  have G__law_special := ok_special (P := P) (base := base) T
  refine T.F__law_name_good.ok sc_law_name_good (fun vs H Q E h => ?_) (fun cdv A outer s H vs Q E hr h => ?_)
  · obtain ⟨_, _, _, _, _, _, rfl, _⟩ := h
    rfl
  obtain ⟨va, k, fs, n, ps, b, rfl, tf, hk, on, hd, q⟩ := h
  refine ⟨_, (pss_cons (ps_set (i := 2) sc_law_name_good.nd rfl (Or.inl rfl) (pe_ix ix_tup (pe_ix ix_tup (pv 0) (pv 1) (fun _ _ => rfl)) pe_int (fun _ _ => rfl)))
      (pss_cons (ps_if (pt_cmpR op_in_seq (pv 2) (pe_call0 G__law_special (hr.mono (by decide)) rfl T.m__law_special T.k__law_special T.b__law_special .nil pass0) (by with_unfolding_all rfl)) (pss_one (ps_ret pe_bl)) pss_nil)
      (pss_cons (ps_for PassesOwn.never rfl (pi_tup (pe_slice sl_tupA (pv 0) po_none (po_some (pv 1)))) (pg_name (i := 3) sc_law_name_good.nd rfl (Or.inl rfl)) (pss_one (ps_if (PW.pt (pw_and (pt_val (pe_callB call_isi rfl T.z_isinstance (by decide +kernel) (pa_cons (pv 3) (pa_cons (pe_bltn (v := .ty "tuple") (u := .type "tuple") rfl T.z_tuple (by decide +kernel) rfl) pa_nil)))) (pw_and (pt_cmpR op_gt (pe_callB call_len rfl T.z_len PySem.boot_len (pa_cons (pv 3) pa_nil)) pe_int (nomark _)) (pw_and1 (pt_cmpR op_eq (pe_ix ix_tup (pv 3) pe_int (fun _ _ => rfl)) (pv 2) (nomark _)))))) (pss_one (ps_ret pe_bl)) pss_nil)))
      (pss_cons (ps_set (i := 4) sc_law_name_good.nd rfl (Or.inl rfl) (pe_slice sl_str (pv 2) (po_some pe_int) po_none))
      (pss_cons (ps_if (PW.pt (pw_or (pt_cmpR op_ne (pe_ix ix_str (pv 2) pe_int (fun _ _ => rfl)) pe_str (nomark _)) (pw_or1 (pt_cmpR op_eq (pv 4) pe_str (nomark _))))) (pss_one (ps_ret pe_bl)) pss_nil)
      (pss_cons (ps_for PassesOwn.never rfl (pi_str (pv 4)) (pg_name (i := 5) sc_law_name_good.nd rfl (Or.inl rfl)) (pss_one (ps_if (pt_cmpR op_notIn_sign (pv 5) pe_str (by with_unfolding_all rfl)) (pss_one (ps_ret pe_bl)) pss_nil)))
      (pss_cons (ps_if (PW.pt (pw_and (pt_cmpR op_gt (pe_callB call_len rfl T.z_len PySem.boot_len (pa_cons (pv 4) pa_nil)) pe_int (nomark _)) (pw_and1 (pt_cmpR op_eq (pe_ix ix_str (pv 4) pe_int (fun _ _ => rfl)) pe_str (nomark _))))) (pss_one (ps_ret pe_bl)) pss_nil)
      (pss_one (ps_ret (pe_cmpR op_lt (pe_callTy call_int_str rfl T.z_int (by decide +kernel) (pa_cons (pv 4) pa_nil)) (pe_callB call_len rfl T.z_len PySem.boot_len (pa_cons (pv 0) pa_nil)) (nomark _))))))))))), ?_⟩
  rw [show start ["_law_program_here", "_law_at", "_law_name", "_law_one", "_law_digits", "_law_sign"] [V.ref va, V.int k] = [some (V.ref va), some (V.int k), none, none, none, none] from rfl]
  obtain ⟨va', us, e, ep, tl⟩ := tf.tup
  cases e
  have lu := tl.len
  walk_at "rd"
  obtain ⟨v, hv, tv⟩ := tl.get hk
  obtain ⟨a, vs, rfl, ea, tl2⟩ := tv.tup
  obtain ⟨v1, vs, rfl, q1, tl2⟩ := tl2.cons'
  obtain rfl := q1.word
  have hkl := (List.getElem?_eq_some_iff.mp hk).1
  refine ⟨_, SqT.of ep, _, atI_nat hv, a, rfl, _, SqT.of ea, _, atI_0, rfl, fun H1 sp s1 e1 => ⟨sp, rfl, _, .inl (SqL.of e1), rfl, by decide +kernel, ?_⟩⟩
  rw [inV_words]
  have en : nameOk fs k n = (!isSpec n && !nameIn n (fs.take k) && numOk n fs.length) := rfl
  by_cases c1 : n ∈ spec
  · rw [if_pos (decide_eq_true c1)]
    have z : nameOk fs k n = false := by
      rw [en, show isSpec n = true from decide_eq_true c1]; rfl
    rw [z] at q
    exact q H1 s1
  rw [if_neg (by rw [decide_eq_false c1]; decide)]
  rw [show isSpec n = false from decide_eq_false c1, Bool.not_false, Bool.true_and] at en
  refine slA_of (s1 _ _ ep) fun r H2 s2 er => ⟨r, rfl, ⟨_, SqT.of er⟩, ?_⟩
  rw [cutV_to _ (by omega), show ((k : Nat) : Int).toNat = k from rfl] at er
  have s02 := s1.trans s2
  have ltk : (us.take k).length = k := by rw [List.length_take]; omega
  refine loop_tup (xs := us.take k) (NmInv H2 va k n fs) ⟨⟨_, rfl⟩, rfl, rfl⟩ ?_ ?_ ?_
  · rintro i σ H' ⟨_, rfl, _⟩
    exact er
  · rintro i v σ H' hv2 ⟨⟨u, rfl⟩, rfl, nn⟩
    have hik : i < k := by
      have := (List.getElem?_eq_some_iff.mp hv2).1
      omega
    rw [List.getElem?_take_of_lt hik] at hv2
    obtain ⟨t, m, ps2, ht, eh⟩ := hd i hik
    obtain ⟨b2, rfl⟩ := headOf_some eh
    obtain ⟨v', hv', tv'⟩ := tl.get ht
    rw [hv2] at hv'
    cases hv'
    obtain ⟨a2, vs2, rfl, ea2, tl3⟩ := (tv'.mono s02.tup).tup
    obtain ⟨w1, vs2, rfl, q2, tl3⟩ := tl3.cons'
    obtain rfl := q2.word
    have et : fs.take (i + 1) = fs.take i ++ [.t [.w m, .t ps2, b2]] := by rw [List.take_add_one, ht]; rfl
    walk_at "rd"
    refine isi_tt ea2 ⟨_, rfl, ?_⟩
    rw [if_pos rfl]
    refine ⟨_, lenT ea2, ?_⟩
    rw [if_pos (by rw [List.length_cons]; omega)]
    refine ⟨_, SqT.of ea2, _, atI_0, rfl, ?_⟩
    by_cases c2 : m = n
    · rw [if_pos (by rw [c2])]
      have z : nameIn n (fs.take k) = true := by
        unfold nameIn
        rw [List.any_eq_true]
        refine ⟨_, List.mem_of_getElem? (show (fs.take k)[i]? = some _ by rw [List.getElem?_take_of_lt hik]; exact ht), ?_⟩
        exact decide_eq_true c2
      have z : nameOk fs k n = false := by rw [en, z]; rfl
      rw [z] at q
      exact q H' s02
    · rw [if_neg (fun h => c2 (V.str.inj h))]
      refine ⟨⟨_, rfl⟩, rfl, ?_⟩
      rw [et, nameIn_snoc, nn, decide_eq_false c2]; rfl
  · rintro σ H' ⟨⟨u, rfl⟩, rfl, nn⟩
    rw [ltk] at nn
    rw [nn, Bool.not_false, Bool.true_and] at en
    rw [en] at q
    obtain ⟨c, r, ec, lr⟩ := okS_hd on
    have ln : n.length ≤ sizeLine := by
      have := okS_le on
      exact Nat.le_of_lt (small20 (by omega))
    walk_at "rd"
    have ez : (cutS n (some 1) none).cps.toList = r := by rw [cut1, ec]; rfl
    have lc : (cutS n (some 1) none).length = r.length := by rw [str_len, ez]
    generalize cutS n (some 1) none = z at ez lc
    refine ⟨ln, ln, c, by rw [ec]; exact atI_0, rfl, ?_⟩
    by_cases c3 : c = 102
    case' neg =>
      rw [if_pos (fun h => c3 ((sign_iff (by decide +kernel)).mp h))]
      rw [numOk_1 ec (.inl c3)] at q
      exact q H' s02
    subst c3
    rw [if_neg (fun h => h ((sign_iff (by decide +kernel)).mpr rfl))]
    refine ⟨rfl, ?_⟩
    by_cases c4 : r = []
    · rw [if_pos ((empty_iff z).mpr (ez.trans c4))]
      rw [numOk_1 ec (.inr (.inl c4))] at q
      exact q H' s02
    rw [if_neg (fun h => c4 (ez.symm.trans ((empty_iff z).mp h)))]
    refine loop_str (DgInv H' va k n u z r) ⟨⟨_, rfl⟩, rfl, fun c h => by simp at h⟩ ?_ ?_
    · rintro i d σ H2 hd2 ⟨⟨u2, rfl⟩, rfl, ad⟩
      rw [ez] at hd2
      walk_at "rd"
      by_cases c5 : d ∈ (Str.ofString "0123456789").cps.toList
      · refine ⟨d, rfl, ?_⟩
        rw [if_neg (fun h => h c5)]
        refine ⟨⟨_, rfl⟩, rfl, ?_⟩
        rw [List.take_add_one, hd2]
        intro c h
        rcases List.mem_append.mp h with h | h
        · exact ad c h
        · have e : c = d := by simpa using h
          rw [e]
          exact (fig_iff d).mp c5
      · refine ⟨d, rfl, ?_⟩
        rw [if_pos c5]
        have nd : digits r ≠ true := fun h => c5 ((fig_iff d).mpr ((digits_iff r).mp h d (List.mem_of_getElem? hd2)))
        rw [numOk_1 ec (.inr (.inr nd))] at q
        exact q H2 s02
    · rintro σ H2 ⟨⟨u2, rfl⟩, rfl, ad⟩
      rw [ez, List.take_length] at ad
      have c6 : digits r = true := (digits_iff r).mpr ad
      rw [numOk_2 ec c4 c6] at q
      have tx : intText? z = some ((NumText.digitsVal z.cps.toList : Nat) : Int) := intText_digits (by rw [ez]; exact ad) (by rw [ez]; exact c4) (by rw [lc]; omega)
      rw [ez] at tx
      have dm : decide (((NumText.digitsVal r : Nat) : Int) < (us.length : Int)) = decide (NumText.digitsVal r < fs.length) := by
        rw [lu]
        by_cases c : NumText.digitsVal r < fs.length
        · rw [decide_eq_true c, decide_eq_true (Int.ofNat_lt.mpr c)]
        · rw [decide_eq_false c, decide_eq_false (fun h => c (Int.ofNat_lt.mp h))]
      have e0 : (Str.ofString "0").cps.toList = [48] := by decide +kernel
      obtain ⟨d, r2, e2⟩ : ∃ d r2, r = d :: r2 := by
        cases r with
        | nil => exact absurd rfl c4
        | cons d r2 => exact ⟨d, r2, rfl⟩
      walk_at "rd"
      have lz : z.length ≤ sizeLine := by rw [lc]; exact Nat.le_of_lt (small20 (by omega))
      have fin : ((decide (r.length = 1) || decide (r.head? ≠ some 48)) = true) → ∃ x, intText? z = some x ∧ z.length ≤ 640 ∧ ∃ x_1, LenV K (V.ref va) H2 x_1 ∧ Q (V.bl (decide (x < ↑x_1))) H2 := fun z1 => by
        refine ⟨_, tx, by rw [lc]; omega, us.length, lenT (s02 _ _ ep), ?_⟩
        rw [dm]
        rw [z1, Bool.true_and] at q
        exact q H2 s02
      refine ⟨z.length, ⟨lz, rfl⟩, ?_⟩
      rw [lc]
      by_cases c7 : (1 : Int) < (r.length : Nat)
      · rw [if_pos c7]
        refine ⟨by rw [← lc]; exact lz, d, by rw [ez, e2]; exact atI_0, rfl, ?_⟩
        by_cases c9 : d = 48
        · rw [if_pos ((sign_iff e0).mpr c9)]
          have z1 : (decide (r.length = 1) || decide (r.head? ≠ some 48)) = false := by
            rw [decide_eq_false (by omega), e2, c9]; rfl
          rw [z1] at q
          exact q H2 s02
        · rw [if_neg (fun h => c9 ((sign_iff e0).mp h)), ← lc]
          exact fin (by rw [e2, decide_eq_true (p := (d :: r2).head? ≠ some 48) (fun h => c9 (Option.some.inj h)), Bool.or_true])
      · rw [if_neg c7, ← lc]
        exact fin (by
          have : r.length = 1 := by
            rw [e2, List.length_cons] at c7 ⊢
            omega
          rw [decide_eq_true this, Bool.true_or])
theorem ok_fn2 (T : Tx w K mg F) : FnOk P w K mg base CX0 3 F.f__law_function_good F.d__law_function_good ["_law_program_here", "_law_at"] spFn2 := by
  have G__law_special := ok_special (P := P) (base := base) T
  have G__law_name_good := ok_name2 (P := P) (base := base) T
  have G__law_expression_good := ok_expr2 (P := P) (base := base) T
  refine T.F__law_function_good.ok sc_law_function_good (fun vs H Q E h => ?_) (fun cdv A outer s H vs Q E hr h => ?_)
  · obtain ⟨_, _, _, rfl, _⟩ := h
    rfl
  obtain ⟨va, k, fs, rfl, tf, hk, wf, hd, q⟩ := h
  refine ⟨_, (pss_cons (ps_set (i := 2) sc_law_function_good.nd rfl (Or.inl rfl) (pe_ix ix_tup (pv 0) (pv 1) (fun _ _ => rfl)))
      (pss_cons (ps_if (PW.pt (pw_or (pt_not (pt_val (pe_callB call_isi rfl T.z_isinstance (by decide +kernel) (pa_cons (pv 2) (pa_cons (pe_bltn (v := .ty "tuple") (u := .type "tuple") rfl T.z_tuple (by decide +kernel) rfl) pa_nil))))) (pw_or (pt_cmpR op_ne (pe_callB call_len rfl T.z_len PySem.boot_len (pa_cons (pv 2) pa_nil)) pe_int (nomark _)) (pw_or (pt_not (pt_val (pe_callB call_isi rfl T.z_isinstance (by decide +kernel) (pa_cons (pe_ix ix_tup (pv 2) pe_int (fun _ _ => rfl)) (pa_cons (pe_bltn (v := .ty "str") (u := .type "str") rfl T.z_str (by decide +kernel) rfl) pa_nil))))) (pw_or1 (pt_not (pt_val (pe_callB call_isi rfl T.z_isinstance (by decide +kernel) (pa_cons (pe_ix ix_tup (pv 2) pe_int (fun _ _ => rfl)) (pa_cons (pe_bltn (v := .ty "tuple") (u := .type "tuple") rfl T.z_tuple (by decide +kernel) rfl) pa_nil)))))))))) (pss_one (ps_ret pe_bl)) pss_nil)
      (pss_cons (ps_if (pt_cmpR op_gt (pe_callB call_len rfl T.z_len PySem.boot_len (pa_cons (pe_ix ix_tup (pv 2) pe_int (fun _ _ => rfl)) pa_nil)) pe_int (nomark _)) (pss_one (ps_ret pe_bl)) pss_nil)
      (pss_cons (ps_for PassesOwn.never rfl (pi_range1 rfl T.z_range (pa_cons (pe_callB call_len rfl T.z_len PySem.boot_len (pa_cons (pe_ix ix_tup (pv 2) pe_int (fun _ _ => rfl)) pa_nil)) pa_nil)) (pg_name (i := 3) sc_law_function_good.nd rfl (Or.inl rfl)) (pss_one (ps_if (PW.pt (pw_or (pt_not (pt_val (pe_callB call_isi rfl T.z_isinstance (by decide +kernel) (pa_cons (pe_ix ix_tup (pe_ix ix_tup (pv 2) pe_int (fun _ _ => rfl)) (pv 3) (fun _ _ => rfl)) (pa_cons (pe_bltn (v := .ty "str") (u := .type "str") rfl T.z_str (by decide +kernel) rfl) pa_nil))))) (pw_or (pt_cmpR op_in_seq (pe_ix ix_tup (pe_ix ix_tup (pv 2) pe_int (fun _ _ => rfl)) (pv 3) (fun _ _ => rfl)) (pe_call0 G__law_special (hr.mono (by decide)) rfl T.m__law_special T.k__law_special T.b__law_special .nil pass0) (by with_unfolding_all rfl)) (pw_or1 (pt_cmpR op_in_seq (pe_ix ix_tup (pe_ix ix_tup (pv 2) pe_int (fun _ _ => rfl)) (pv 3) (fun _ _ => rfl)) (pe_slice sl_tupA (pe_ix ix_tup (pv 2) pe_int (fun _ _ => rfl)) po_none (po_some (pv 3))) (by with_unfolding_all rfl)))))) (pss_one (ps_ret pe_bl)) pss_nil)))
      (pss_one (ps_ret (pe_and (pe_call G__law_name_good (hr.mono (by decide)) rfl T.m__law_name_good T.k__law_name_good T.b__law_name_good .nil pass0 (pa_cons (pv 0) (pa_cons (pv 1) pa_nil))) (pe_one (pe_call G__law_expression_good (hr.mono (by decide)) rfl T.m__law_expression_good T.k__law_expression_good T.b__law_expression_good .nil pass0 (pa_cons (pv 0) (pa_cons (pe_ix ix_tup (pv 2) pe_int (fun _ _ => rfl)) (pa_cons (pe_ix ix_tup (pv 2) pe_int (fun _ _ => rfl)) pa_nil)))))))))))), ?_⟩
  rw [show start ["_law_program_here", "_law_at", "_law_one", "_law_k"] [V.ref va, V.int k] = [some (V.ref va), some (V.int k), none, none] from rfl]
  obtain ⟨va', us, e, ep, tl⟩ := tf.tup
  cases e
  have lu := tl.len
  walk_at "rd"
  have efk : fs[k]? = some fs[k] := List.getElem?_eq_getElem hk
  generalize fs[k] = t at efk
  obtain ⟨v, hv, tv⟩ := tl.get efk
  refine ⟨_, SqT.of ep, v, atI_nat hv, ?_⟩
  have stop : headOf t = none → Q (.bl false) H := fun h => by
    rw [fnOk_no efk h] at q
    exact q H (Same.refl H)
  cases t with
  | w s =>
    obtain rfl := tv.word
    exact isi_wt ⟨_, rfl, by rw [if_pos rfl]; exact stop rfl⟩
  | t l =>
  obtain ⟨a, vs, rfl, ea, tl2⟩ := tv.tup
  refine isi_tt ea ⟨_, rfl, ?_⟩
  rw [if_neg (fun h => nomatch h)]
  have l2 := tl2.len
  refine ⟨_, lenT ea, rfl, ?_⟩
  by_cases c : (vs.length : Int) = 3
  case' neg =>
    rw [if_pos c]
    exact stop (headOf_len (by omega))
  rw [if_neg (fun h => h c)]
  obtain ⟨t1, t2, b, rfl⟩ := three (l := l) (by omega)
  obtain ⟨v1, vs, rfl, q1, tl2⟩ := tl2.cons'
  obtain ⟨v2, vs, rfl, q2, tl2⟩ := tl2.cons'
  obtain ⟨v3, vs, rfl, q3, tl2⟩ := tl2.cons'
  obtain rfl := tl2.nil'
  refine ⟨a, rfl, _, SqT.of ea, v1, atI_0, ?_⟩
  cases t1 with
  | t l1 =>
    obtain ⟨a1, vs1, rfl, ea1, _⟩ := q1.tup
    exact isi_t ea1 ⟨_, rfl, by rw [if_pos rfl]; exact stop rfl⟩
  | w n =>
  obtain rfl := q1.word
  refine isi_w ⟨_, rfl, ?_⟩
  rw [if_neg (fun h => nomatch h)]
  refine ⟨a, rfl, _, SqT.of ea, v2, atI_1, ?_⟩
  cases t2 with
  | w s =>
    obtain rfl := q2.word
    exact isi_wt ⟨_, rfl, by rw [if_pos rfl]; exact stop rfl⟩
  | t ps =>
  obtain ⟨a2, vs2, rfl, ea2, tl3⟩ := q2.tup
  refine isi_tt ea2 ⟨_, rfl, ?_⟩
  rw [if_neg (fun h => nomatch h)]
  have ef := fnOk_at efk
  have wtt := wtL_get efk
  rw [wt_t, wtL_cons, wtL_cons, wtL_cons, wtL_nil, wt_t] at wtt
  have on : okS n = true := ok_of_wt (n := 19000) (by omega) (by decide)
  have wps := wtL_len ps
  refine ⟨a, rfl, _, SqT.of ea, _, atI_1, _, lenT ea2, ?_⟩
  have l3 := tl3.len
  have badp : ∀ G, Same H G → parsOk ps = false → Q (.bl false) G := fun G s h => by
    rw [ef, h, Bool.false_and, Bool.false_and] at q
    exact q G s
  by_cases c2 : (12 : Int) < (vs2.length : Nat)
  · rw [if_pos c2]
    refine badp H (Same.refl H) ?_
    unfold parsOk
    rw [decide_eq_false (by omega)]; rfl
  rw [if_neg c2]
  refine ⟨a, rfl, _, SqT.of ea, _, atI_1, _, lenT ea2, by omega, by omega, ?_⟩
  refine loop_range (n := ((vs2.length : Nat) : Int).toNat) (FpInv H va k a ps) ⟨⟨_, rfl⟩, Same.refl H, [], rfl, fun j h => absurd h (by omega), rfl⟩ ?_ ?_
  · rintro i σ G hi ⟨⟨u, rfl⟩, s', ws, ew, ok, lws⟩
    have hi' : i < ps.length := by omega
    have ei : ps[i]? = some ps[i] := List.getElem?_eq_getElem hi'
    generalize ps[i] = t at ei
    obtain ⟨vi, hvi, tvi⟩ := tl3.get ei
    have ea' := s' _ _ ea
    have ea2' := s' _ _ ea2
    walk_at "rd"
    refine ⟨_, SqT.of ea', _, atI_1, a2, rfl, _, SqT.of ea2', vi, atI_nat hvi, ?_⟩
    have stopp : ∀ G2, Same G G2 → parOk ps i = false → Q (.bl false) G2 := fun G2 s2 h => badp G2 (s'.trans s2) (parsOk_bad hi' h)
    cases t with
    | t l =>
      obtain ⟨a3, vs3, rfl, ea3, _⟩ := (tvi.mono s'.tup).tup
      refine isi_t ea3 ⟨_, rfl, ?_⟩
      rw [if_pos rfl]
      exact stopp G (Same.refl G) (by unfold parOk; rw [ei])
    | w z =>
      obtain rfl := tvi.word
      refine isi_w ⟨_, rfl, ?_⟩
      rw [if_neg (fun h => nomatch h)]
      have ez : parOk ps i = (!isSpec z && !decide (z ∈ ws)) := by
        unfold parOk
        rw [ei, ew]
        show (!isSpec z && !inW z (wds ws)) = _
        rw [inW_wds]
      refine ⟨_, SqT.of ea', _, atI_1, a2, rfl, _, SqT.of ea2', _, atI_nat hvi, rfl, fun G2 sp s2 e2 => ⟨sp, rfl, _, .inl (SqL.of e2), rfl, by decide +kernel, ?_⟩⟩
      rw [inV_words]
      by_cases c3 : z ∈ spec
      · rw [if_pos (decide_eq_true c3)]
        exact stopp G2 s2 (by rw [ez, show isSpec z = true from decide_eq_true c3]; rfl)
      rw [if_neg (by rw [decide_eq_false c3]; decide)]
      refine ⟨_, SqT.of (s2 _ _ ea'), _, atI_1, a2, rfl, _, SqT.of (s2 _ _ ea2'), _, atI_nat hvi, _, SqT.of (s2 _ _ ea'), _, atI_1, ?_⟩
      refine slA_of (s2 _ _ ea2') fun r G3 s3 er => ⟨r, rfl, ?_⟩
      rw [cutV_to _ (by omega)] at er
      have tk : TrL G3 (ps.take i) (vs2.take i) := (tl3.mono ((s'.trans s2).trans s3).tup).take i
      have et : vs2.take i = ws.map V.str := by
        rw [ew] at tk
        exact trl_words tk
      rw [show ((i : Nat) : Int).toNat = i from rfl, et] at er
      refine ⟨_, .inr (SqT.of er), rfl, flat_words ws, ?_⟩
      rw [inV_words]
      by_cases c4 : z ∈ ws
      · rw [if_pos (decide_eq_true c4)]
        exact stopp G3 (s2.trans s3) (by rw [ez, decide_eq_true c4, Bool.not_true, Bool.and_false])
      · rw [if_neg (by rw [decide_eq_false c4]; decide)]
        refine ⟨⟨_, rfl⟩, (s'.trans s2).trans s3, ws ++ [z], ?_, ?_, by rw [List.length_append, lws]; rfl⟩
        · rw [List.take_add_one, ei, ew]
          show wds ws ++ [.w z] = _
          unfold wds
          rw [List.map_append]; rfl
        · intro j hj
          by_cases c5 : j = i
          · rw [c5, ez, decide_eq_false c4, show isSpec z = false from decide_eq_false c3]; rfl
          · exact ok j (by omega)
  · rintro σ G ⟨⟨u, rfl⟩, s', ws, ew, ok, lws⟩
    have lps : ((vs2.length : Nat) : Int).toNat = ps.length := by omega
    rw [lps, List.take_length] at ew
    subst ew
    have okp : parsOk (wds ws) = true := by
      unfold parsOk
      rw [decide_eq_true (by omega), Bool.true_and, List.all_eq_true]
      exact fun j hj => ok j (by rw [lps]; exact List.mem_range.mp hj)
    rw [okp, Bool.true_and] at ef
    have enm : nameOk fs k n = (!isSpec n && !nameIn n (fs.take k) && numOk n fs.length) := rfl
    rw [← enm] at ef
    walk_at "rd"
    have ea' := s' _ _ ea
    refine ⟨va, k, fs, n, wds ws, b, rfl, tf.mono s'.tup, efk, on, hd, fun G2 s2 => ⟨_, rfl, ?_⟩⟩
    by_cases c3 : nameOk fs k n = true
    case' neg =>
      have c3' : nameOk fs k n = false := by simpa using c3
      rw [if_neg c3]
      rw [ef, c3', Bool.false_and] at q
      exact q G2 (s'.trans s2)
    rw [if_pos c3]
    rw [ef, c3, Bool.true_and] at q
    have s02 := s'.trans s2
    exact ⟨_, SqT.of (s02 _ _ ea), _, atI_1, _, SqT.of (s02 _ _ ea), _, atI_2, v3, b, va, a2, ws, fs, rfl, q3.mono s02.tup, by omega, q2.mono s02.tup, tf.mono s02.tup, fun G3 s3 => q G3 (s02.trans s3)⟩
theorem ok_bad2 (T : Tx w K mg F) : FnOk P w K mg base CX0 4 F.f__law_bad_function F.d__law_bad_function ["_law_program_here"] spBad2 := by
  have G__law_function_good := ok_fn2 (P := P) (base := base) T
  refine T.F__law_bad_function.ok sc_law_bad_function (fun vs H Q E h => ?_) (fun cdv A outer s H vs Q E hr h => ?_)
  · obtain ⟨_, _, rfl, _⟩ := h
    rfl
  obtain ⟨v, t, rfl, tv, tw, q⟩ := h
  refine ⟨_, (pss_cons (ps_if (PW.pt (pw_or (pt_not (pt_val (pe_callB call_isi rfl T.z_isinstance (by decide +kernel) (pa_cons (pv 0) (pa_cons (pe_bltn (v := .ty "tuple") (u := .type "tuple") rfl T.z_tuple (by decide +kernel) rfl) pa_nil))))) (pw_or1 (pt_cmpR op_eq (pe_callB call_len rfl T.z_len PySem.boot_len (pa_cons (pv 0) pa_nil)) pe_int (nomark _))))) (pss_one (ps_ret pe_int)) pss_nil)
      (pss_cons (ps_for PassesOwn.never rfl (pi_range1 rfl T.z_range (pa_cons (pe_callB call_len rfl T.z_len PySem.boot_len (pa_cons (pv 0) pa_nil)) pa_nil)) (pg_name (i := 1) sc_law_bad_function.nd rfl (Or.inl rfl)) (pss_one (ps_if (pt_not (pt_val (pe_call G__law_function_good (hr.mono (by decide)) rfl T.m__law_function_good T.k__law_function_good T.b__law_function_good .nil pass0 (pa_cons (pv 0) (pa_cons (pv 1) pa_nil))))) (pss_one (ps_ret (pe_callTy call_int1 rfl T.z_int (by decide +kernel) (pa_cons (pv 1) pa_nil)))) pss_nil)))
      (pss_one (ps_ret (pe_un un_neg pe_int))))), ?_⟩
  rw [show start ["_law_program_here", "_law_at"] [v] = [some v, none] from rfl]
  walk_at "rd"
  cases t with
  | w s =>
    obtain rfl := tv.word
    refine isi_wt ⟨_, rfl, ?_⟩
    rw [if_pos rfl]
    exact q H (Same.refl H)
  | t fs =>
  obtain ⟨va, us, rfl, ep, tl⟩ := tv.tup
  have lu := tl.len
  refine isi_tt ep ⟨_, rfl, ?_⟩
  rw [if_neg (fun h => nomatch h)]
  rw [wt_t] at tw
  have lw := wtL_len fs
  refine ⟨_, lenT ep, rfl, ?_⟩
  by_cases c : (us.length : Int) = 0
  · rw [if_pos c]
    have z : badT (.t fs) = some 0 := if_pos (by omega)
    rw [z] at q
    exact q H (Same.refl H)
  rw [if_neg c]
  have eb : badT (.t fs) = badF fs := if_neg (by omega)
  rw [eb] at q
  refine ⟨_, lenT ep, by omega, by omega, ?_⟩
  refine loop_range (n := ((us.length : Nat) : Int).toNat) (BdInv H (.ref va) fs) ⟨⟨_, rfl⟩, Same.refl H, fun j h => absurd h (by omega)⟩ ?_ ?_
  · rintro i σ H' hi ⟨⟨u, rfl⟩, s', ok⟩
    have hi' : i < fs.length := by omega
    walk_at "rd"
    refine ⟨va, i, fs, rfl, tv.mono s'.tup, hi', by omega, fun j hj => ?_, fun H2 s2 => ⟨_, rfl, ?_⟩⟩
    · have z := ok j hj
      have ej : fs[j]? = some fs[j] := List.getElem?_eq_getElem (by omega)
      cases e : headOf fs[j] with
      | none => rw [fnOk_no ej e] at z; cases z
      | some p => exact ⟨_, p.1, p.2, ej, by rw [e]⟩
    · by_cases c2 : fnOk fs i = true
      case' neg =>
        have c2' : fnOk fs i = false := by simpa using c2
        rw [if_pos c2']
        rw [badF_at hi' ok c2'] at q
        exact q H2 (s'.trans s2)
      rw [if_neg (by rw [c2]; decide)]
      refine ⟨⟨_, rfl⟩, s'.trans s2, fun j hj => ?_⟩
      by_cases e : j = i
      · rw [e]; exact c2
      · exact ok j (by omega)
  · rintro σ H' ⟨⟨u, rfl⟩, s', ok⟩
    walk_at "rd"
    rw [badF_none (fun j hj => ok j (by omega))] at q
    exact q H' s'
end
end K4

namespace K4
open PySem PySem.Spec PyProof.Rows L2
local macro_rules | `(tactic| walk_at "rd") => `(tactic| simp only [tSeq, tAsg, tVar, tOp, tUn, rU, tTup, tLst, tNil, tCons, tCall, tCallS, tCB, tB, tTest, tAnd, tOr, tNot, tAndV, tOrV, tNotV, tIf, tNext, tDrop, tRet, tRetN, tIfS, tCont, tNever, tSl, tNoPart, tPart, tBM, tBM0, tM1, gName, gSub, gTup, gNil, gCons, tC, rI, rI0, rEq, rNe, rIxL, rIxT, rIxS, rSetL, rAppend, rPop, rIn, rSlS, rSlL, rCat, rIndex, rExtT, tGv, tGvL, rLn, rInK, rIsX, tRev, tXf, tDGet1, tDIn, tDNotIn, sDPut, tDNewK, WE, tFor_eq, tLc_eq, iTup, iList, iRng1, iStr, iEnumT, cx_K, cx_prog, cx_w, List.getElem?_cons_succ, List.getElem?_cons_zero, Option.some.injEq, exists_eq_left', exists_eq_left, exists_and_left, V.ref.injEq, V.int.injEq, V.str.injEq, V.bl.injEq, V.ty.injEq, List.cons.injEq, List.set_cons_zero, List.set_cons_succ, and_assoc, true_and, and_true, List.append_nil, List.map_cons, List.map_nil, Int.sub_self, reduceCtorEq, false_and, and_false, or_false, false_or, exists_false, if_true, if_false, Bool.not_true, Bool.not_false, Bool.false_eq_true, decide_eq_true_eq, Bool.not_eq_true', decide_eq_false_iff_not, Int.zero_add])
local macro_rules | `(tactic| walk_at "gv") => `(tactic| (repeat (first | exact gvl_nil | refine gvl_cons ?_ ?_ | exact gv_str | exact gv_gv | (exact gv_var (by assumption)) | refine gv_tup ?_)))
local macro_rules | `(tactic| walk_at "nx") => `(tactic| simp only [tSeq, List.set_cons_zero, List.set_cons_succ])
local macro_rules | `(tactic| walk_at "exd") => `(tactic| (repeat (first | exact ExD.word _ _ | exact ExD.quote _ _ | exact exdl_nil | refine exdl_cons ?_ ?_ | refine ExD.call ?_)))

def spIsRight : Sp := fun vs H Q _ => ∃ (v : V) (t : Tr), vs = [v] ∧ TrV H t v ∧ wt t ≤ 19000 ∧ ∀ H', Same H H' → Q (.bl true) H'
theorem call_isiK {X : Cx} {K : PySem.W.Frag} (h : X.K = K) : CallR X (.builtin "isinstance") (rIsi K) := by
  subst h
  exact call_isi
section
variable {P : Program} {w : World} {K : PySem.W.Frag} {mg : Str → Option Value} {base : Heap} {F : Fs}
theorem ok_right (T : Tx w K mg F) : FnOk P w K mg base CX0 8 F.f__law_is_right F.d__law_is_right ["_law_program_here"] spIsRight := by
  have G__law_bad_function := ok_bad2 (P := P) (base := base) T
  have G_check_program := ok_check (P := P) (base := base) T
  refine T.F__law_is_right.ok sc_law_is_right (fun vs H Q E h => ?_) (fun cdv A outer s H vs Q E hr h => ?_)
  · obtain ⟨_, _, rfl, _⟩ := h
    rfl
  obtain ⟨v, t, rfl, tv, tw, q⟩ := h
  refine ⟨_, (pss_cons (ps_set (i := 1) sc_law_is_right.nd rfl (Or.inl rfl) (pe_call G__law_bad_function (hr.mono (by decide)) rfl T.m__law_bad_function T.k__law_bad_function T.b__law_bad_function .nil pass0 (pa_cons (pv 0) pa_nil)))
      (pss_one (ps_try_as (i := 2) rfl rfl sc_law_is_right.nd rfl rfl ⟨rfl, by decide, Or.inl T.m_BadProgram⟩ takes0 (fun W pn xe tk _ => (pss_one (ps_ret (pe_and (pe_cmpR op_isN (pe_callS G_check_program (hr.mono (by decide)) rfl T.m_check_program T.k_check_program T.b_check_program (fun σ => passAt tk σ) (pa_cons (pv 0) pa_nil)) pe_non (nomark _)) (pe_one (pe_cmpR op_lt (pv 1) pe_int (nomark _))))))) (fun a oe cls d pn hz hf => (pss_cons (ps_if (PW.pt (pw_or (pt_not (pt_val (pe_callB (call_isE2 T.xc hz hf) rfl T.z_isinstance (by decide +kernel) (pa_cons (pv 2) (pa_cons (pe_glob (v := .ref F.cG) rfl T.m_GlassError rfl) pa_nil))))) (pw_or (pt_val (pe_callB (call_isE2 T.xc hz hf) rfl T.z_isinstance (by decide +kernel) (pa_cons (pv 2) (pa_cons (pe_glob (v := .ref F.cT) rfl T.m_BadText rfl) pa_nil)))) (pw_or1 (pt_val (pe_callB (call_isE2 T.xc hz hf) rfl T.z_isinstance (by decide +kernel) (pa_cons (pv 2) (pa_cons (pe_glob (v := .ref F.cI) rfl T.m_BadInputs rfl) pa_nil)))))))) (pss_one (ps_ret pe_bl)) pss_nil)
      (pss_one (ps_ret (pe_and (pe_cmpR op_ge (pv 1) pe_int (nomark _)) (pe_and (pe_callB (call_isiK (K := K) rfl) rfl T.z_isinstance (by decide +kernel) (pa_cons (pe_xf T.xf T.no_function hz hf (pv 2)) (pa_cons (pe_bltn (v := .ty "int") (u := .type "int") rfl T.z_int (by decide +kernel) rfl) pa_nil))) (pe_and (pe_not (pe_callB (call_isiK (K := K) rfl) rfl T.z_isinstance (by decide +kernel) (pa_cons (pe_xf T.xf T.no_function hz hf (pv 2)) (pa_cons (pe_bltn (v := .ty "bool") (u := .type "bool") rfl T.z_bool (by decide +kernel) rfl) pa_nil)))) (pe_one (pe_cmpR op_eq (pe_xf T.xf T.no_function hz hf (pv 2)) (pv 1) (nomark _))))))))))))), ?_⟩
  rw [show start ["_law_program_here", "_law_due", "e"] [v] = [some v, none, none] from rfl]
  walk_at "rd"
  refine ⟨v, t, rfl, tv, tw, fun H1 s1 => ⟨v, t, rfl, tv.mono s1.tup, tw, fun eb H2 s2 => ?_, fun i eb H2 d s2 ed => ?_⟩⟩
  · show if V.non = V.non then _ else _
    rw [if_pos rfl]
    refine ⟨_, rfl, ?_⟩
    rw [eb]
    exact q H2 (s1.trans s2)
  · refine ⟨true, T.te, fun _ a0 _ => ?_, fun z => Bool.noConfusion z⟩
    walk_at "rd"
    have rel : ∀ (C : Addr) (u : Value), L2.RelV (V.ref C) u → u = Value.ref C := fun C u r => by cases r; rfl
    have lk : List.lookup (Str.ofString "function") [(("function" : Str), V.int (i : Nat))] = some (V.int (i : Nat)) := List.lookup_cons_self
    refine ⟨_, true, _, ed, rel _, T.iG, ?_⟩
    rw [if_neg (fun h => nomatch h)]
    refine ⟨_, false, _, ed, rel _, T.iT, ?_⟩
    rw [if_neg (fun h => nomatch h)]
    refine ⟨_, false, _, ed, rel _, T.iI, ?_⟩
    rw [if_neg (fun h => nomatch h)]
    rw [eb, show manyI (some i) = ((i : Nat) : Int) from rfl]
    rw [if_pos (show (0 : Int) ≤ (i : Nat) by omega)]
    refine ⟨_, ed, _, lk, isi_ii ⟨_, rfl, ?_⟩⟩
    rw [if_pos rfl]
    refine ⟨_, ed, _, lk, isi_ib ⟨_, rfl, ?_⟩⟩
    rw [if_pos rfl]
    refine ⟨_, ed, _, lk, rfl, ?_⟩
    rw [decide_eq_true rfl]
    exact q H2 (s1.trans s2)
end
end K4

namespace K4
open PySem PySem.Spec PyProof.Rows L2
local macro_rules | `(tactic| walk_at "rd") => `(tactic| simp only [tSeq, tAsg, tVar, tOp, tUn, rU, tTup, tLst, tNil, tCons, tCall, tCallS, tCB, tB, tTest, tAnd, tOr, tNot, tAndV, tOrV, tNotV, tIf, tNext, tDrop, tRet, tRetN, tIfS, tCont, tNever, tSl, tNoPart, tPart, tBM, tBM0, tM1, gName, gSub, gTup, gNil, gCons, tC, rI, rI0, rEq, rNe, rIxL, rIxT, rIxS, rSetL, rAppend, rPop, rIn, rSlS, rSlL, rCat, rIndex, rExtT, tGv, tGvL, rLn, rInK, rIsX, tRev, tXf, tDGet1, tDIn, tDNotIn, sDPut, tDNewK, WE, tFor_eq, tLc_eq, iTup, iList, iRng1, iStr, iEnumT, cx_K, cx_prog, cx_w, List.getElem?_cons_succ, List.getElem?_cons_zero, Option.some.injEq, exists_eq_left', exists_eq_left, exists_and_left, V.ref.injEq, V.int.injEq, V.str.injEq, V.bl.injEq, V.ty.injEq, List.cons.injEq, List.set_cons_zero, List.set_cons_succ, and_assoc, true_and, and_true, List.append_nil, List.map_cons, List.map_nil, Int.sub_self, reduceCtorEq, false_and, and_false, or_false, false_or, exists_false, if_true, if_false, Bool.not_true, Bool.not_false, Bool.false_eq_true, decide_eq_true_eq, Bool.not_eq_true', decide_eq_false_iff_not, Int.zero_add])
local macro_rules | `(tactic| walk_at "gv") => `(tactic| (repeat (first | exact gvl_nil | refine gvl_cons ?_ ?_ | exact gv_str | exact gv_gv | (exact gv_var (by assumption)) | refine gv_tup ?_)))
local macro_rules | `(tactic| walk_at "nx") => `(tactic| simp only [tSeq, List.set_cons_zero, List.set_cons_succ])
local macro_rules | `(tactic| walk_at "exd") => `(tactic| (repeat (first | exact ExD.word _ _ | exact ExD.quote _ _ | exact exdl_nil | refine exdl_cons ?_ ?_ | refine ExD.call ?_)))

def spLaw (K : PySem.W.Frag) : Sp := fun vs H Q _ => ∃ (a : Addr) (ns : List Int), vs = [.ref a] ∧ SqL K H a (ns.map V.int) ∧ ns.length ≤ 63 ∧ ∀ H', Q (.bl true) H'
def LwInv (x : Hd) (pa sa : Addr) (fs : List Tr) (i : Nat) (σ : L2.St) (H : Hp) : Prop := (∃ u1 u2 u3 u4 u5 u6 u7 u8 : Option V, σ = [some (V.ref sa), some (V.ref x.g), some (V.ref pa), u1, u2, u3, u4, u5, u6, u7, u8]) ∧ Hand x H ∧ TrV H (.t fs) (.ref pa)
def LxInv (x : Hd) (sa pL : Addr) (HP : Hp) (i : Nat) (σ : L2.St) (H : Hp) : Prop := (∃ u1 u2 u3 u4 u5 u6 u7 u8 u9 : Option V, σ = [some (V.ref sa), some (V.ref x.g), u1, u2, u3, u4, u5, u6, u7, u8, u9]) ∧ Same HP H
section
variable {P : Program} {w : World} {K : PySem.W.Frag} {mg : Str → Option Value} {base : Heap} {F : Fs}
theorem ok_law (T : Tx w K mg F) : FnOk P w K mg base CX0 12 F.f_law F.d_law ["_law_script"] (spLaw K) := by
  have G__law_draws := ok_draws (P := P) (base := base) T
  have G__law_take := ok_take (P := P) (base := base) T
  have G__law_program := ok_program (P := P) (base := base) T
  have G__law_other_names := ok_other (P := P) (base := base) T
  have G__law_is_right := ok_right (P := P) (base := base) T
  have G__law_bent := ok_bent (P := P) (base := base) T 7
  have G__law_special := ok_special (P := P) (base := base) T
  have G__law_wide := ok_wide (P := P) (base := base) T
  have G__law_numbered := ok_numbered (P := P) (base := base) T
  have G__law_deep_body := ok_deep (P := P) (base := base) T
  refine T.F_law.ok sclaw (fun vs H Q E h => ?_) (fun cdv A outer s H vs Q E hr h => ?_)
  · obtain ⟨_, _, rfl, _⟩ := h
    rfl
  obtain ⟨sa, ns, rfl, hs, hl, q⟩ := h
  refine ⟨_, (pss_cons (ps_set (i := 1) sclaw.nd rfl (Or.inl rfl) (pe_lst (pa_cons (pe_call G__law_draws (hr.mono (by decide)) rfl T.m__law_draws T.k__law_draws T.b__law_draws .nil pass0 (pa_cons (pv 0) (pa_cons pe_int pa_nil))) (pa_cons pe_int pa_nil))))
      (pss_cons (ps_set (i := 2) sclaw.nd rfl (Or.inl rfl) (pe_call G__law_other_names (hr.mono (by decide)) rfl T.m__law_other_names T.k__law_other_names T.b__law_other_names .nil pass0 (pa_cons (pv 1) (pa_cons (pe_call G__law_program (hr.mono (by decide)) rfl T.m__law_program T.k__law_program T.b__law_program .nil pass0 (pa_cons (pv 1) (pa_cons (pe_op op_add pe_int (pe_call G__law_take (hr.mono (by decide)) rfl T.m__law_take T.k__law_take T.b__law_take .nil pass0 (pa_cons (pv 1) (pa_cons pe_int pa_nil)))) pa_nil))) pa_nil))))
      (pss_cons (ps_if (pt_not (pt_val (pe_call G__law_is_right (hr.mono (by decide)) rfl T.m__law_is_right T.k__law_is_right T.b__law_is_right .nil pass0 (pa_cons (pv 2) pa_nil)))) (pss_one (ps_ret pe_bl)) pss_nil)
      (pss_cons (ps_for PassesOwn.never rfl (pi_range1 rfl T.z_range (pa_cons pe_int pa_nil)) (pg_name (i := 3) sclaw.nd rfl (Or.inl rfl)) (pss_cons (ps_set (i := 4) sclaw.nd rfl (Or.inl rfl) (pe_call G__law_take (hr.mono (by decide)) rfl T.m__law_take T.k__law_take T.b__law_take .nil pass0 (pa_cons (pv 1) (pa_cons (pe_callB call_len rfl T.z_len PySem.boot_len (pa_cons (pv 2) pa_nil)) pa_nil))))
      (pss_cons (ps_set (i := 5) sclaw.nd rfl (Or.inl rfl) (pe_op op_catA (pe_op op_catA (pe_slice sl_tupA (pv 2) po_none (po_some (pv 4))) (pe_tup (pa_cons (pe_call G__law_bent (hr.mono (by decide)) rfl T.m__law_bent T.k__law_bent T.b__law_bent .nil pass0 (pa_cons (pv 1) (pa_cons (pv 2) (pa_cons (pe_ix ix_tup (pv 2) (pv 4) (fun _ _ => rfl)) (pa_cons pe_int pa_nil))))) pa_nil))) (pe_slice sl_tupA (pv 2) (po_some (pe_op op_add (pv 4) pe_int)) po_none)))
      (pss_cons (ps_if (pt_not (pt_val (pe_call G__law_is_right (hr.mono (by decide)) rfl T.m__law_is_right T.k__law_is_right T.b__law_is_right .nil pass0 (pa_cons (pv 5) pa_nil)))) (pss_one (ps_ret pe_bl)) pss_nil)
      (pss_cons (ps_set (i := 4) sclaw.nd rfl (Or.inl rfl) (pe_call G__law_take (hr.mono (by decide)) rfl T.m__law_take T.k__law_take T.b__law_take .nil pass0 (pa_cons (pv 1) (pa_cons (pe_callB call_len rfl T.z_len PySem.boot_len (pa_cons (pv 2) pa_nil)) pa_nil))))
      (pss_cons (ps_set (i := 6) sclaw.nd rfl (Or.inl rfl) (pe_op op_catA (pe_op op_catA (pe_slice sl_tupA (pv 5) po_none (po_some (pv 4))) (pe_tup (pa_cons (pe_call G__law_bent (hr.mono (by decide)) rfl T.m__law_bent T.k__law_bent T.b__law_bent .nil pass0 (pa_cons (pv 1) (pa_cons (pv 2) (pa_cons (pe_ix ix_tup (pv 2) (pv 4) (fun _ _ => rfl)) (pa_cons pe_int pa_nil))))) pa_nil))) (pe_slice sl_tupA (pv 5) (po_some (pe_op op_add (pv 4) pe_int)) po_none)))
      (pss_one (ps_if (PW.pt (pw_or (pt_not (pt_val (pe_call G__law_is_right (hr.mono (by decide)) rfl T.m__law_is_right T.k__law_is_right T.b__law_is_right .nil pass0 (pa_cons (pv 6) pa_nil)))) (pw_or1 (pt_not (pt_val (pe_call G__law_is_right (hr.mono (by decide)) rfl T.m__law_is_right T.k__law_is_right T.b__law_is_right .nil pass0 (pa_cons (pe_call G__law_bent (hr.mono (by decide)) rfl T.m__law_bent T.k__law_bent T.b__law_bent .nil pass0 (pa_cons (pv 1) (pa_cons (pv 2) (pa_cons (pv 2) (pa_cons pe_int pa_nil))))) pa_nil))))))) (pss_one (ps_ret pe_bl)) pss_nil))))))))
      (pss_cons (ps_set (i := 7) sclaw.nd rfl (Or.inl rfl) (pe_tup (pa_cons (pe_ix ix_list (pe_call0 G__law_special (hr.mono (by decide)) rfl T.m__law_special T.k__law_special T.b__law_special .nil pass0) (pe_call G__law_take (hr.mono (by decide)) rfl T.m__law_take T.k__law_take T.b__law_take .nil pass0 (pa_cons (pv 1) (pa_cons pe_int pa_nil))) (fun _ _ => rfl)) (pa_cons (pe_gv (t := (.t [(.w "x")])) (pe_tup (pa_cons pe_str pa_nil)) (fun _ _ => by walk_at "gv")) (pa_cons pe_str pa_nil)))))
      (pss_cons (ps_set (i := 8) sclaw.nd rfl (Or.inl rfl) (pe_op op_catA (pe_op op_catA (pe_slice sl_tupA (pv 2) po_none (po_some pe_int)) (pe_tup (pa_cons (pv 7) pa_nil))) (pe_slice sl_tupA (pv 2) (po_some pe_int) po_none)))
      (pss_cons (ps_for PassesOwn.never rfl (pi_list (pe_lst (pa_cons (pe_call G__law_wide (hr.mono (by decide)) rfl T.m__law_wide T.k__law_wide T.b__law_wide .nil pass0 (pa_cons (pv 1) pa_nil)) (pa_cons (pe_call G__law_numbered (hr.mono (by decide)) rfl T.m__law_numbered T.k__law_numbered T.b__law_numbered .nil pass0 (pa_cons (pv 1) pa_nil)) (pa_cons (pv 8) (pa_cons (pe_gv (t := (.t [])) (pe_tup pa_nil) (fun _ _ => by walk_at "gv")) (pa_cons pe_str (pa_cons (pe_gv (t := (.t [(.t [])])) (pe_tup (pa_cons (pe_gv (t := (.t [])) (pe_tup pa_nil) (fun _ _ => by walk_at "gv")) pa_nil)) (fun _ _ => by walk_at "gv")) (pa_cons (pe_gv (t := (.t [(.w "main"), (.w "x")])) (pe_tup (pa_cons pe_str (pa_cons pe_str pa_nil))) (fun _ _ => by walk_at "gv")) (pa_cons (pe_op op_catA (pv 2) (pe_slice sl_tupA (pv 2) po_none (po_some pe_int))) pa_nil)))))))))) (pg_name (i := 9) sclaw.nd rfl (Or.inl rfl)) (pss_one (ps_if (pt_not (pt_val (pe_call G__law_is_right (hr.mono (by decide)) rfl T.m__law_is_right T.k__law_is_right T.b__law_is_right .nil pass0 (pa_cons (pv 9) pa_nil)))) (pss_one (ps_ret pe_bl)) pss_nil)))
      (pss_cons (ps_if (pt_cmpR op_gt (pe_call G__law_take (hr.mono (by decide)) rfl T.m__law_take T.k__law_take T.b__law_take .nil pass0 (pa_cons (pv 1) (pa_cons pe_int pa_nil))) pe_int (nomark _)) (pss_one (ps_ret pe_bl)) pss_nil)
      (pss_cons (ps_set (i := 10) sclaw.nd rfl (Or.inl rfl) (pe_ix ix_list (pe_gvl (ts := [(.w "x"), (.w "y"), (.t [(.w "quote")]), (.t [(.w "head")]), (.t [(.w "main"), (.w "x"), (.w "x")]), (.t [])]) (pa_cons pe_str (pa_cons pe_str (pa_cons (pe_gv (t := (.t [(.w "quote")])) (pe_tup (pa_cons pe_str pa_nil)) (fun _ _ => by walk_at "gv")) (pa_cons (pe_gv (t := (.t [(.w "head")])) (pe_tup (pa_cons pe_str pa_nil)) (fun _ _ => by walk_at "gv")) (pa_cons (pe_gv (t := (.t [(.w "main"), (.w "x"), (.w "x")])) (pe_tup (pa_cons pe_str (pa_cons pe_str (pa_cons pe_str pa_nil)))) (fun _ _ => by walk_at "gv")) (pa_cons (pe_gv (t := (.t [])) (pe_tup pa_nil) (fun _ _ => by walk_at "gv")) pa_nil)))))) (fun _ _ => by walk_at "gv")) (pe_call G__law_take (hr.mono (by decide)) rfl T.m__law_take T.k__law_take T.b__law_take .nil pass0 (pa_cons (pv 1) (pa_cons pe_int pa_nil))) (fun _ _ => rfl)))
      (pss_one (ps_ret (pe_call G__law_is_right (hr.mono (by decide)) rfl T.m__law_is_right T.k__law_is_right T.b__law_is_right .nil pass0 (pa_cons (pe_call G__law_deep_body (hr.mono (by decide)) rfl T.m__law_deep_body T.k__law_deep_body T.b__law_deep_body .nil pass0 (pa_cons (pv 1) (pa_cons (pv 10) pa_nil))) pa_nil))))))))))))), ?_⟩
  rw [show start ["_law_script", "_law_hand", "_law_program_here", "_law_step", "_law_at", "_law_bent_here", "_law_other", "_law_special_here", "_law_named", "_law_one", "_law_inner"] [V.ref sa] = [some (V.ref sa), none, none, none, none, none, none, none, none, none, none] from rfl]
  walk_at "rd"
  refine ⟨sa, ns, 700, rfl, by decide, by omega, hs, fun H1 da ds s1 ed _ => ⟨by show 2 ≤ sizeLine; decide, fun ga hga => ?_⟩⟩
  have ngd : da ≠ ga := ne_of_none ed hga
  have hh : Hand ⟨ga, da, ds⟩ (upd H1 ga (.lst [V.ref da, V.int 0])) := ⟨ngd, by rw [upd_ne ngd]; exact ed, 0, by decide, upd_same⟩
  generalize hx : (⟨ga, da, ds⟩ : Hd) = x at hh
  obtain rfl : ga = x.g := by rw [← hx]
  generalize upd H1 x.g (.lst [V.ref da, V.int 0]) = H2 at hh
  refine ⟨x, 3, rfl, by decide, hh, fun H3 k b3 h3 k0 k1 => ⟨k, rfl, ?_⟩⟩
  refine ⟨x, 1 + k, rfl, by omega, by omega, h3, fun H4 v fs b4 h4 tv pf => ?_⟩
  obtain ⟨p4, vs4, rfl, e4, tl4⟩ := tv.tup
  refine ⟨x, p4, fs, rfl, h4, tv, pf, fun H5 v fs b5 h5 tv pf => ?_⟩
  obtain ⟨pa, us, rfl, ep, tl⟩ := tv.tup
  have wfs : wtL fs ≤ 2200 := by
    have z := wtL_all (l := fs) (n := 440) fun t ht => by obtain ⟨_, _, _, _, _, h⟩ := pf.2.2 t ht; exact h
    have := pf.2.1
    have z2 : fs.length * 440 ≤ 5 * 440 := Nat.mul_le_mul_right _ this
    omega
  have lu := tl.len
  have lf2 := pf.1
  have lf5 := pf.2.1
  refine ⟨_, .t fs, rfl, tv, by rw [wt_t]; omega, fun H6 s6 => ⟨_, rfl, ?_⟩⟩
  rw [if_neg (fun h => nomatch h)]
  refine ⟨by decide, by decide, ?_⟩
  refine loop_range (n := Int.toNat 4) (LwInv x pa sa fs) ⟨⟨_, _, _, _, _, _, _, _, rfl⟩, h5.but s6, tv.mono s6.tup⟩ ?_ ?_
  · rintro i σ H7 hi ⟨⟨u1, u2, u3, u4, u5, u6, u7, u8, rfl⟩, h7, tv7⟩
    walk_at "rd"
    obtain ⟨_, us7, ep', ep7, tl7⟩ := tv7.tup
    cases ep'
    have l7 := tl7.len
    refine ⟨_, lenT ep7, x, us7.length, rfl, by omega, h7, fun H8 j b8 h8 j0 j1 => ⟨j, rfl, ?_⟩⟩
    have t78 := h7.tup b8
    have tv8 := tv7.mono t78
    have tl8 := tl7.mono t78
    have ep8 := t78 _ _ ep7
    have j0' : 0 ≤ j + 1 := by omega
    have en : (j + 1).toNat = j.toNat + 1 := by omega
    have hj : j.toNat < fs.length := by omega
    have ej : fs[j.toNat]? = some fs[j.toNat] := List.getElem?_eq_getElem hj
    have wj : wt fs[j.toNat] ≤ 440 := by
      obtain ⟨_, _, _, _, _, h⟩ := pf.2.2 _ (List.getElem_mem hj)
      exact h
    generalize fs[j.toNat] = f1 at ej wj
    have wa := wtL_at ej
    refine slA_of ep8 fun r9 H9 s9 e9 => ?_
    rw [cutV_to _ j0] at e9
    obtain ⟨v1, hv1, tv1⟩ := (tl8.mono s9.tup).get ej
    refine ⟨_, j, rfl, SqT.of (s9 _ _ ep8), v1, atI_at j0 hv1, x, pa, fs, v1, f1, 6, rfl, by decide, h8.but s9, tv8.mono s9.tup, pf, tv1, by omega, fun HA bv bt bA hA tvA twA => ⟨by show 1 ≤ sizeLine; decide, fun pp hpp => ?_⟩⟩
    have t9A := (h8.but s9).tup bA
    have sB := same_new hpp (.tup [bv])
    have ll1 : (us7.take j.toNat).length ≤ us7.length := by rw [List.length_take]; exact Nat.min_le_right _ _
    have ll2 : (us7.drop (j.toNat + 1)).length ≤ us7.length := by rw [List.length_drop]; omega
    refine catA_of (sB _ _ (t9A _ _ e9)) upd_same (Nat.le_of_lt (small20 (by rw [List.length_singleton]; omega))) fun rC HC sC eC => ⟨j, rfl, slA_of (sC _ _ (sB _ _ (t9A _ _ (s9 _ _ ep8)))) fun rD HD sD eD => ?_⟩
    rw [cutV_from _ j0', en] at eD
    refine catA_of (sD _ _ eC) eD (Nat.le_of_lt (small20 (by rw [List.length_append, List.length_singleton]; omega))) fun rE HE sE eE => ?_
    have sAE := sB.trans (sC.trans (sD.trans sE))
    have tlE := ((tl8.mono s9.tup).mono t9A).mono sAE.tup
    have bentE : TrV HE (.t ((fs.take j.toNat ++ [bt]) ++ fs.drop (j.toNat + 1))) (.ref rE) := .t eE (((tlE.take _).append (.one (tvA.mono sAE.tup))).append (tlE.drop _))
    have wbent : wtL ((fs.take j.toNat ++ [bt]) ++ fs.drop (j.toNat + 1)) ≤ 4000 := by
      rw [wtL_append, wtL_append, wtL_cons, wtL_nil]; omega
    generalize ((fs.take j.toNat ++ [bt]) ++ fs.drop (j.toNat + 1)) = l1 at bentE wbent
    have hE := hA.but sAE
    have tvE := ((tv8.mono s9.tup).mono t9A).mono sAE.tup
    refine ⟨_, .t l1, rfl, bentE, by rw [wt_t]; omega, fun HF sF => ⟨_, rfl, ?_⟩⟩
    rw [if_neg (fun h => nomatch h)]
    have hF := hE.but sF
    have tvF := tvE.mono sF.tup
    have bentF := bentE.mono sF.tup
    have epF := sF _ _ (sE _ _ (sD _ _ (sC _ _ (sB _ _ (t9A _ _ (s9 _ _ ep8))))))
    clear wa ll1 ll2
    have tlF : TrL HF fs us7 := tlE.mono sF.tup
    refine ⟨_, lenT epF, x, us7.length, rfl, by omega, hF, fun H8 j b8 h8 j0 j1 => ⟨j, rfl, ?_⟩⟩
    have t78 := hF.tup b8
    have tv8 := tvF.mono t78
    have tl8 := tlF.mono t78
    have ep8 := t78 _ _ epF
    have bent8 := bentF.mono t78
    obtain ⟨_, ux, er8, eb8, tb8⟩ := bent8.tup
    cases er8
    have lux := tb8.len
    have wl1 := wtL_len l1
    have j0' : 0 ≤ j + 1 := by omega
    have en : (j + 1).toNat = j.toNat + 1 := by omega
    have hj : j.toNat < fs.length := by omega
    have ej : fs[j.toNat]? = some fs[j.toNat] := List.getElem?_eq_getElem hj
    have wj : wt fs[j.toNat] ≤ 440 := by
      obtain ⟨_, _, _, _, _, h⟩ := pf.2.2 _ (List.getElem_mem hj)
      exact h
    generalize fs[j.toNat] = f1 at ej wj
    refine slA_of eb8 fun r9 H9 s9 e9 => ?_
    rw [cutV_to _ j0] at e9
    obtain ⟨v1, hv1, tv1⟩ := (tl8.mono s9.tup).get ej
    refine ⟨_, j, rfl, SqT.of (s9 _ _ ep8), v1, atI_at j0 hv1, x, pa, fs, v1, f1, 6, rfl, by decide, h8.but s9, tv8.mono s9.tup, pf, tv1, by omega, fun HA bv bt bA hA tvA twA => ⟨by show 1 ≤ sizeLine; decide, fun pp hpp => ?_⟩⟩
    have t9A := (h8.but s9).tup bA
    have sB := same_new hpp (.tup [bv])
    have ll1 : (ux.take j.toNat).length ≤ ux.length := by rw [List.length_take]; exact Nat.min_le_right _ _
    have ll2 : (ux.drop (j.toNat + 1)).length ≤ ux.length := by rw [List.length_drop]; omega
    refine catA_of (sB _ _ (t9A _ _ e9)) upd_same (Nat.le_of_lt (small20 (by rw [List.length_singleton]; omega))) fun rC HC sC eC => ⟨j, rfl, slA_of (sC _ _ (sB _ _ (t9A _ _ (s9 _ _ eb8)))) fun rD HD sD eD => ?_⟩
    rw [cutV_from _ j0', en] at eD
    refine catA_of (sD _ _ eC) eD (Nat.le_of_lt (small20 (by rw [List.length_append, List.length_singleton]; omega))) fun rE2 HE sE eE => ?_
    have sAE := sB.trans (sC.trans (sD.trans sE))
    have tlE := ((tb8.mono s9.tup).mono t9A).mono sAE.tup
    have bentE : TrV HE (.t ((l1.take j.toNat ++ [bt]) ++ l1.drop (j.toNat + 1))) (.ref rE2) := .t eE (((tlE.take _).append (.one (tvA.mono sAE.tup))).append (tlE.drop _))
    have wta := wtL_take l1 j.toNat
    have wtb := wtL_drop l1 (j.toNat + 1)
    have hE := hA.but sAE
    have tvE := ((tv8.mono s9.tup).mono t9A).mono sAE.tup
    refine ⟨_, _, rfl, bentE, by rw [wt_t, wtL_append, wtL_append, wtL_cons, wtL_nil]; omega, fun HF sF => ⟨_, rfl, ?_⟩⟩
    rw [if_neg (fun h => nomatch h)]
    have hF := hE.but sF
    have tvF := tvE.mono sF.tup
    refine ⟨x, pa, fs, .ref pa, .t fs, 6, rfl, by decide, hF, tvF, pf, tvF, by rw [wt_t]; omega, fun HG vg tg bG hG tvG twG => ?_⟩
    rw [wt_t] at twG
    refine ⟨_, tg, rfl, tvG, by omega, fun HI sI => ⟨_, rfl, ?_⟩⟩
    rw [if_neg (fun h => nomatch h)]
    exact ⟨⟨_, _, _, _, _, _, _, _, rfl⟩, hG.but sI, (tvF.mono (hF.tup bG)).mono sI.tup⟩
  · rintro σ H7 ⟨⟨u1, u2, u3, u4, u5, u6, u7, u8, rfl⟩, h7, tv7⟩
    walk_at "rd"
    obtain ⟨_, us7, ep', ep7, tl7⟩ := tv7.tup
    cases ep'
    have l7 := tl7.len
    have one : ∀ n : Nat, n ≤ 10 → n ≤ sizeLine := fun n h => by rw [sizeLine_eq]; omega
    refine ⟨rfl, fun H8 sp8 s8 e8 => ?_⟩
    have h8 := h7.but s8
    have nsp : sp8 ≠ x.g := by
      intro e
      obtain ⟨_, _, pp, _, hg⟩ := h8
      rw [← e, e8] at hg
      cases hg
    refine ⟨x, 7, rfl, by decide, h8, fun H9 j b9 h9 j0 j1 => ?_⟩
    obtain ⟨sw, hz, osw, _⟩ := pick (ws := spec) (by decide +kernel) j0 j1
    refine ⟨sp8, rfl, _, j, rfl, SqL.of (b9 _ _ nsp e8), V.str sw, hz, fun vx HA sA tvx => ⟨one _ (by show 3 ≤ 10; decide), fun pf1 hpf1 => ?_⟩⟩
    have t7A : Tup H7 HA := s8.tup.trans ((h8.tup b9).trans sA.tup)
    have sB := same_new hpf1 (.tup [V.str sw, vx, V.str "x"])
    have fB : TrV _ (.t [.w sw, .t [.w "x"], .w "x"]) (.ref pf1) := .t (upd_same (H := HA) (a := pf1) (o := .tup [V.str sw, vx, V.str "x"])) (.cons (.w _) (.cons (tvx.mono sB.tup) (.one (.w _))))
    have hB := (h9.but sA).but sB
    have t7B := t7A.trans sB.tup
    generalize upd HA pf1 (.tup [V.str sw, vx, V.str "x"]) = HB at fB hB t7B
    have epB := t7B _ _ ep7
    refine slA_of epB fun rC HC sC eC => ⟨one _ (by show 1 ≤ 10; decide), fun pD hpD => ?_⟩
    rw [cutV_to _ (by decide)] at eC
    have sD := same_new hpD (.tup [V.ref pf1])
    have lt1 : (us7.take (1 : Int).toNat).length ≤ 1 := by rw [List.length_take]; exact Nat.min_le_left _ _
    have ld1 : (us7.drop (1 : Int).toNat).length ≤ us7.length := by rw [List.length_drop]; omega
    refine catA_of (sD _ _ eC) upd_same (Nat.le_of_lt (small20 (by rw [List.length_singleton]; omega))) fun rE HE sE eE => ?_
    refine slA_of (sE _ _ (sD _ _ (sC _ _ epB))) fun rF HF sF eF => ?_
    rw [cutV_from _ (by decide)] at eF
    refine catA_of (sF _ _ eE) eF (Nat.le_of_lt (small20 (by rw [List.length_append, List.length_singleton]; omega))) fun rG HG sG eG => ?_
    have sBG := sC.trans (sD.trans (sE.trans (sF.trans sG)))
    have tlG := (tl7.mono t7B).mono sBG.tup
    have named : TrV HG (.t ((fs.take (1 : Int).toNat ++ [.t [.w sw, .t [.w "x"], .w "x"]]) ++ fs.drop (1 : Int).toNat)) (.ref rG) := .t eG (((tlG.take _).append (.one (fB.mono sBG.tup))).append (tlG.drop _))
    have hG := hB.but sBG
    have tvG := (tv7.mono t7B).mono sBG.tup
    have wtk := wtL_take fs (1 : Int).toNat
    have wdr := wtL_drop fs (1 : Int).toNat
    have wnamed : wt (.t ((fs.take (1 : Int).toNat ++ [.t [.w sw, .t [.w "x"], .w "x"]]) ++ fs.drop (1 : Int).toNat)) ≤ 19000 := by
      have wx : wt (.w "x") = 1 := by decide +kernel
      rw [wt_t, wtL_append, wtL_append, wtL_cons, wtL_nil, wt_t, wtL_cons, wtL_cons, wtL_cons, wtL_nil, wt_ok osw, wt_t, wtL_cons, wtL_nil, wx]
      omega
    generalize ((fs.take (1 : Int).toNat ++ [.t [.w sw, .t [.w "x"], .w "x"]]) ++ fs.drop (1 : Int).toNat) = nm at named wnamed
    refine ⟨x, rfl, hG, fun HI v8 t8 bI hI tv8 tw8 => ⟨x, rfl, hI, fun HJ v9 t9 bJ hJ tv9 tw9 => fun w1 HK sK tw1 w2 HL sL tw2 w3 HM sM tw3 => ?_⟩⟩
    have tGI := hG.tup bI
    have tIJ := hI.tup bJ
    have sJM := sK.trans (sL.trans sM)
    have tGM := (tGI.trans tIJ).trans sJM.tup
    have tlM := tlG.mono tGM
    have tvM := tvG.mono tGM
    obtain ⟨_, usM, epm, epM, tlM'⟩ := tvM.tup
    cases epm
    have lM := tlM'.len
    refine slA_of epM fun rN HN sN eN => ?_
    rw [cutV_to _ (by decide)] at eN
    have lt2 : (usM.take (1 : Int).toNat).length ≤ 1 := by rw [List.length_take]; exact Nat.min_le_left _ _
    refine catA_of (sN _ _ epM) eN (Nat.le_of_lt (small20 (by omega))) fun rO HO_ sO eO => ⟨one _ (by show 8 ≤ 10; decide), fun pL hpL => ?_⟩
    have sMO := sN.trans sO
    have twice : TrV HO_ (.t (fs ++ fs.take (1 : Int).toNat)) (.ref rO) := .t eO ((tlM'.mono sMO.tup).append ((tlM'.mono sMO.tup).take _))
    have sP := same_new hpL (.lst [v8, v9, V.ref rG, w1, V.str (Str.ofString "main"), w2, w3, V.ref rO])
    have sMP := sMO.trans sP
    have tAll : TrL (upd HO_ pL (.lst [v8, v9, V.ref rG, w1, V.str (Str.ofString "main"), w2, w3, V.ref rO])) [t8, t9, .t nm, .t [], .w "main", .t [.t []], .t [.w "main", .w "x"], .t (fs ++ fs.take (1 : Int).toNat)] [v8, v9, V.ref rG, w1, V.str (Str.ofString "main"), w2, w3, V.ref rO] :=
      .cons (tv8.mono (tIJ.trans (sJM.trans sMP).tup)) (.cons (tv9.mono (sJM.trans sMP).tup) (.cons (named.mono (tGM.trans sMP.tup)) (.cons (tw1.mono (sL.trans (sM.trans sMP)).tup) (.cons (.w _) (.cons (tw2.mono (sM.trans sMP).tup) (.cons (tw3.mono sMP.tup) (.one (twice.mono sP.tup))))))))
    have wAll : ∀ t ∈ [t8, t9, .t nm, .t [], .w "main", .t [.t []], .t [.w "main", .w "x"], .t (fs ++ fs.take (1 : Int).toNat)], wt t ≤ 19000 := by
      intro t ht
      simp only [List.mem_cons, List.not_mem_nil, or_false] at ht
      rcases ht with rfl | rfl | rfl | rfl | rfl | rfl | rfl | rfl
      · omega
      · omega
      · exact wnamed
      · decide +kernel
      · decide +kernel
      · decide +kernel
      · decide +kernel
      · rw [wt_t, wtL_append]; omega
    have hP := hJ.but (sJM.trans sMP)
    have eP : upd HO_ pL (.lst [v8, v9, V.ref rG, w1, V.str (Str.ofString "main"), w2, w3, V.ref rO]) pL = some (.lst [v8, v9, V.ref rG, w1, V.str (Str.ofString "main"), w2, w3, V.ref rO]) := upd_same
    generalize upd HO_ pL (.lst [v8, v9, V.ref rG, w1, V.str (Str.ofString "main"), w2, w3, V.ref rO]) = HP at tAll hP eP
    generalize [t8, t9, .t nm, .t [], .w "main", .t [.t []], .t [.w "main", .w "x"], .t (fs ++ fs.take (1 : Int).toNat)] = ts at tAll wAll
    generalize [v8, v9, V.ref rG, w1, V.str (Str.ofString "main"), w2, w3, V.ref rO] = vs at tAll eP
    refine ⟨⟨_, SqL.of eP⟩, loop_list (xs := vs) (LxInv x sa pL HP) ⟨⟨_, _, _, _, _, _, _, _, _, rfl⟩, Same.refl HP⟩ ?_ ?_ ?_⟩
    · rintro i σ HQ ⟨_, s'⟩
      exact s' _ _ eP
    · rintro i v σ HQ hv ⟨⟨u1, u2, u3, u4, u5, u6, u7, u8, u9, rfl⟩, s'⟩
      walk_at "rd"
      obtain ⟨t, ht, tv⟩ := tAll.of hv
      refine ⟨v, t, rfl, tv.mono s'.tup, wAll t (List.mem_of_getElem? ht), fun HR sR => ⟨_, rfl, ?_⟩⟩
      rw [if_neg (fun h => nomatch h)]
      exact ⟨⟨_, _, _, _, _, _, _, _, _, rfl⟩, s'.trans sR⟩
    · rintro σ HQ ⟨⟨u1, u2, u3, u4, u5, u6, u7, u8, u9, rfl⟩, s'⟩
      walk_at "rd"
      have hQ := hP.but s'
      refine ⟨x, 2, rfl, by decide, hQ, fun HR k bR hR k0 k1 => ⟨k, rfl, ?_⟩⟩
      by_cases c : 0 < k
      · rw [if_pos c]
        exact q HR
      rw [if_neg c]
      intro pS vs HS sS l1 eS tlS
      have hS := hR.but sS
      have nS := (hR.free l1).1
      refine ⟨x, 6, rfl, by decide, hS, fun HT j bT hT j0 j1 => ?_⟩
      have tlT := tlS.mono (hS.tup bT)
      obtain ⟨v, t, hv, tv, et⟩ := pickT tlT j0 j1
      refine ⟨_, j, rfl, SqL.of (bT _ _ nS eS), v, hv, x, v, t, rfl, hT, tv, Nat.le_trans (wtL_get et) (by decide +kernel), fun HU v2 t2 bU hU tv2 tw2 => ?_⟩
      exact ⟨v2, t2, rfl, tv2, by omega, fun HV _ => q HV⟩
end
end K4

/-! ### Z. The top, and the end -/
namespace K4
open PySem PySem.Spec PyProof.Rows L2
/-- a text and a number -/
def entT (e : DictEntry) : Option (Str × Int) := match e.key, e.val with
  | .str x _, .int i _ => some (x, i)
  | _, _ => none
def entK (e : DictEntry) : Key × Value := (match e.key with
  | .str x _ => Sum.inr x
  | _ => Sum.inl 0, e.val)
theorem ent_of {e : DictEntry} {p : Str × Nat} (h : entT e = some (p.1, (p.2 : Int))) : ∃ t u, e.key = .str p.1 t ∧ e.val = .int p.2 u := by
  unfold entT at h
  split at h
  · rename_i x t i u e1 e2
    have h1 := Prod.mk.inj (Option.some.inj h)
    exact ⟨t, u, by rw [e1, h1.1], by rw [e2, h1.2]⟩
  · cases h
theorem ents_pairs {P : Program} {w : World} : ∀ {l : List DictEntry} {ps : List (Str × Nat)}, l.map entT = (ps.map fun p => some (p.1, (p.2 : Int))) → Pairs (mixKind P w) l (l.map entK)
  | [], _, _ => .nil
  | e :: r, [], h => by cases h
  | e :: r, p :: ps, h => by
    rw [List.map_cons, List.map_cons] at h
    obtain ⟨h1, h2⟩ := List.cons.inj h
    obtain ⟨t, u, e1, e2⟩ := ent_of h1
    refine .cons ?_ rfl (ents_pairs h2)
    unfold entK
    rw [e1]
    exact kV_is (P := P) (w := w) (k := .inr p.1) ⟨t, rfl⟩
theorem ents_kv : ∀ {l : List DictEntry} {ps : List (Str × Nat)}, l.map entT = (ps.map fun p => some (p.1, (p.2 : Int))) → KV (κ := Key) (ps.map fun p => (Sum.inr p.1, V.int p.2)) (l.map entK)
  | [], [], _ => .nil
  | [], p :: ps, h => by cases h
  | e :: r, [], h => by cases h
  | e :: r, p :: ps, h => by
    rw [List.map_cons, List.map_cons] at h
    obtain ⟨h1, h2⟩ := List.cons.inj h
    obtain ⟨t, u, e1, e2⟩ := ent_of h1
    refine .cons ⟨?_, ?_⟩ (ents_kv h2)
    · unfold entK; rw [e1]
    · unfold entK; rw [e2]; exact ⟨u, rfl⟩
theorem ents_keys : ∀ {l : List DictEntry} {ps : List (Str × Nat)}, l.map entT = (ps.map fun p => some (p.1, (p.2 : Int))) → (l.map entK).map (·.1) = ps.map fun p => (Sum.inr p.1 : Key)
  | [], [], _ => rfl
  | [], p :: ps, h => by cases h
  | e :: r, [], h => by cases h
  | e :: r, p :: ps, h => by
    rw [List.map_cons, List.map_cons] at h
    obtain ⟨h1, h2⟩ := List.cons.inj h
    obtain ⟨t, u, e1, e2⟩ := ent_of h1
    rw [List.map_cons, List.map_cons, List.map_cons, ents_keys h2]
    unfold entK
    rw [e1]
theorem kdc_of {w : World} {K : PySem.W.Frag} {a : Addr} {es : Array DictEntry} {n : Nat} (hl : K.lookup a = some ⟨.type "dict", none, .dict es n, #[]⟩) (hk : PySem.W.KeysLit w.params es.toList)
    (he : es.toList.map entT = specK.map fun p => some (p.1, (p.2 : Int))) (lo : (a == sysModules) = false) : KDc w K a specKV := by
  refine ⟨lo, by decide, es.toList.map entK, ents_kv he, fun P h X => ⟨_, es, n, X _ _ hl, ⟨rfl, rfl, rfl⟩, rfl, fun e m => ?_, ents_pairs he, ?_⟩⟩
  · obtain ⟨x, t, e1, e2⟩ := hk.all e (Array.mem_toList_iff.mpr m)
    exact ⟨.inr x, by rw [e1]; exact kV_is (P := P) (w := w) (k := .inr x) ⟨t, rfl⟩, e2⟩
  · rw [ents_keys he]
    decide +kernel
theorem cls_ok {K : PySem.W.Frag} {C : Addr} (h1 : PySem.W.isClsIn K C = true) (h2 : PySem.W.typeIn K (.ref C) = some (.type "type")) : ((PySem.W.clsIn K C).isSome && PySem.W.typeIn K (.ref C) == some (.type "type")) = true := by
  have h : (PySem.W.clsIn K C).isSome = true := h1
  rw [h, h2] <;> rfl
theorem kit_of {K : PySem.W.Frag} {E C : Addr} {b : Bool} (h0 : ((Value.ref E) == (Value.ref C)) = false) (h1 : PySem.W.isClsIn K C = true) (h2 : PySem.W.typeIn K (.ref C) = some (.type "type")) (h3 : PySem.W.subIn K (.ref E) (.ref C) = some b) : PySem.W.kitOne K (.ref E) (.ref C) = some b := by
  unfold PySem.W.kitOne PySem.W.kitCls
  rw [if_neg (by rw [h0]; decide)]
  show (if _ then _ else _) = _
  rw [if_pos (cls_ok h1 h2)]
  exact h3
theorem exm_of {K : PySem.W.Frag} {C : Addr} (h0 : PySem.W.subIn K (.ref C) (.type "BaseException") = some true) (h1 : PySem.W.isClsIn K C = true) (h2 : PySem.W.typeIn K (.ref C) = some (.type "type")) (h3 : PySem.W.subIn K (.ref C) (.ref C) = some true) : PySem.W.exmOne K (.ref C) (.ref C) = some true := by
  unfold PySem.W.exmOne PySem.W.kitCls
  rw [if_pos (by rw [h0]; rfl)]
  show (if _ then _ else _) = _
  rw [if_pos (cls_ok h1 h2)]
  exact h3

theorem all_mk {l : PySem.W.OpenLaw} {w : World} {K : PySem.W.Frag} {h : Heap} {mg : Str → Option Value} {fa : Addr} (X : K.In h) (G : h.Ns mainGlobals mg) (hfa : mg "law" = some (.ref fa))
    {cG : Addr}
    {cT : Addr}
    {cP : Addr}
    {cI : Addr}
    {nm q : Str} {N : Addr} {bs bm : List Value} {sn : List Str} {sub : List Value} {ab : Bool} {col : Option Bool} {dd : Option Addr} {m0 m1 m2 m3 m5 : Option Value}
    {fn : Addr} {odn ann : Option Addr} {sln : Array (Option Value)} {ocn kVn dcn pmn cdn ctn : Value}
    {aS : Addr} {es : Array DictEntry} {ne : Nat} {tF tM : Tok}
    {f0 : Addr} {od0 an0 : Option Addr} {sl0 : Array (Option Value)} {oc0 kV0 dc0 pm0 cd0 ct0 : Value}
    {f1 : Addr} {od1 an1 : Option Addr} {sl1 : Array (Option Value)} {oc1 kV1 dc1 pm1 cd1 ct1 : Value}
    {f2 : Addr} {od2 an2 : Option Addr} {sl2 : Array (Option Value)} {oc2 kV2 dc2 pm2 cd2 ct2 : Value}
    {f3 : Addr} {od3 an3 : Option Addr} {sl3 : Array (Option Value)} {oc3 kV3 dc3 pm3 cd3 ct3 : Value}
    {f4 : Addr} {od4 an4 : Option Addr} {sl4 : Array (Option Value)} {oc4 kV4 dc4 pm4 cd4 ct4 : Value}
    {f5 : Addr} {od5 an5 : Option Addr} {sl5 : Array (Option Value)} {oc5 kV5 dc5 pm5 cd5 ct5 : Value}
    {f6 : Addr} {od6 an6 : Option Addr} {sl6 : Array (Option Value)} {oc6 kV6 dc6 pm6 cd6 ct6 : Value}
    {f7 : Addr} {od7 an7 : Option Addr} {sl7 : Array (Option Value)} {oc7 kV7 dc7 pm7 cd7 ct7 : Value}
    {f8 : Addr} {od8 an8 : Option Addr} {sl8 : Array (Option Value)} {oc8 kV8 dc8 pm8 cd8 ct8 : Value}
    {f9 : Addr} {od9 an9 : Option Addr} {sl9 : Array (Option Value)} {oc9 kV9 dc9 pm9 cd9 ct9 : Value}
    {f10 : Addr} {od10 an10 : Option Addr} {sl10 : Array (Option Value)} {oc10 kV10 dc10 pm10 cd10 ct10 : Value}
    {f11 : Addr} {od11 an11 : Option Addr} {sl11 : Array (Option Value)} {oc11 kV11 dc11 pm11 cd11 ct11 : Value}
    {f12 : Addr} {od12 an12 : Option Addr} {sl12 : Array (Option Value)} {oc12 kV12 dc12 pm12 cd12 ct12 : Value}
    {f13 : Addr} {od13 an13 : Option Addr} {sl13 : Array (Option Value)} {oc13 kV13 dc13 pm13 cd13 ct13 : Value}
    {f14 : Addr} {od14 an14 : Option Addr} {sl14 : Array (Option Value)} {oc14 kV14 dc14 pm14 cd14 ct14 : Value}
    {f15 : Addr} {od15 an15 : Option Addr} {sl15 : Array (Option Value)} {oc15 kV15 dc15 pm15 cd15 ct15 : Value}
    {f16 : Addr} {od16 an16 : Option Addr} {sl16 : Array (Option Value)} {oc16 kV16 dc16 pm16 cd16 ct16 : Value}
    {f17 : Addr} {od17 an17 : Option Addr} {sl17 : Array (Option Value)} {oc17 kV17 dc17 pm17 cd17 ct17 : Value}
    {f18 : Addr} {od18 an18 : Option Addr} {sl18 : Array (Option Value)} {oc18 kV18 dc18 pm18 cd18 ct18 : Value}
    {f19 : Addr} {od19 an19 : Option Addr} {sl19 : Array (Option Value)} {oc19 kV19 dc19 pm19 cd19 ct19 : Value}
    {f20 : Addr} {od20 an20 : Option Addr} {sl20 : Array (Option Value)} {oc20 kV20 dc20 pm20 cd20 ct20 : Value}
    {f21 : Addr} {od21 an21 : Option Addr} {sl21 : Array (Option Value)} {oc21 kV21 dc21 pm21 cd21 ct21 : Value}
    {f22 : Addr} {od22 an22 : Option Addr} {sl22 : Array (Option Value)} {oc22 kV22 dc22 pm22 cd22 ct22 : Value}
    {f23 : Addr} {od23 an23 : Option Addr} {sl23 : Array (Option Value)} {oc23 kV23 dc23 pm23 cd23 ct23 : Value}
    {f24 : Addr} {od24 an24 : Option Addr} {sl24 : Array (Option Value)} {oc24 kV24 dc24 pm24 cd24 ct24 : Value}
    {f25 : Addr} {od25 an25 : Option Addr} {sl25 : Array (Option Value)} {oc25 kV25 dc25 pm25 cd25 ct25 : Value}
    {f26 : Addr} {od26 an26 : Option Addr} {sl26 : Array (Option Value)} {oc26 kV26 dc26 pm26 cd26 ct26 : Value}
    {f27 : Addr} {od27 an27 : Option Addr} {sl27 : Array (Option Value)} {oc27 kV27 dc27 pm27 cd27 ct27 : Value}
    (aG : PySem.W.nsIn K mainGlobals "GlassError" = some (some (.ref cG)))
    (aT : PySem.W.nsIn K mainGlobals "BadText" = some (some (.ref cT)))
    (aP : PySem.W.nsIn K mainGlobals "BadProgram" = some (some (.ref cP)))
    (aI : PySem.W.nsIn K mainGlobals "BadInputs" = some (some (.ref cI)))
    (xP : K.lookup cP = some (excClassObj nm q cP N bs bm true sn sub ab col dd m0 m1 m2 m3 m5 "ValueError.__new__"))
    (rP : PySem.HandSPX.refsVE bm = true)
    (sa : PySem.W.findIn K (.ref cP) "__setattr__" = some (some (.builtin "object.__setattr__")))
    (exC : PySem.W.subIn K (.ref cP) (.type "BaseException") = some true)
    (tyC : PySem.W.typeIn K (.ref cP) = some (.type "type"))
    (kC : PySem.W.keepIn K (.ref cP) = true)
    (ga : PySem.W.findIn K (.ref cP) "__getattribute__" = some (some (.builtin "BaseException.__getattribute__")))
    (gg : PySem.W.findIn K (.ref cP) "__getattr__" = some none)
    (hdC : PySem.W.hasDictIn K cP = true)
    (ha : PySem.W.findIn K (.ref cP) "__class__" = some (some (.builtin "object.__class__")))
    (hn : PySem.W.specialIn K (.builtin "object.__class__") "__get__" = some (some (.builtin "getset_descriptor.__get__")))
    (ht : PySem.W.takesIn K (.builtin "object.__class__") = some true)
    (hm : PySem.W.mroIn K cP (.type "object") = some true)
    (nf : PySem.W.findIn K (.ref cP) "function" = some none)
    (isP : PySem.W.isClsIn K cP = true)
    (suP : PySem.W.subIn K (.ref cP) (.ref cP) = some true)
    (isG : PySem.W.isClsIn K cG = true)
    (tyG : PySem.W.typeIn K (.ref cG) = some (.type "type"))
    (suG : PySem.W.subIn K (.ref cP) (.ref cG) = some true)
    (neG : ((Value.ref cP) == (Value.ref cG)) = false)
    (isT : PySem.W.isClsIn K cT = true)
    (tyT : PySem.W.typeIn K (.ref cT) = some (.type "type"))
    (suT : PySem.W.subIn K (.ref cP) (.ref cT) = some false)
    (neT : ((Value.ref cP) == (Value.ref cT)) = false)
    (isI : PySem.W.isClsIn K cI = true)
    (tyI : PySem.W.typeIn K (.ref cI) = some (.type "type"))
    (suI : PySem.W.subIn K (.ref cP) (.ref cI) = some false)
    (neI : ((Value.ref cP) == (Value.ref cI)) = false)
    (an : PySem.W.findIn K (.ref cP) "__init__" = some (some (.ref fn)))
    (ln : K.lookup fn = some ⟨ocn, odn, .func (PySem.W.fnOf "__init__" "BadProgram.__init__" (defArgs s_init) (defBody s_init) (defScope s_init) .none kVn dcn pmn ann cdn ctn), sln⟩)
    (cn : PySem.W.codeIn K cdn "BadProgram.__init__" = true)
    (kn : PySem.W.keepIn K (.ref fn) = true)
    (tn : PySem.W.typeIn K (.ref fn) = some (.type "function"))
    (aF : PySem.W.nsIn K mainGlobals "FIGURES" = some (some (.str "0123456789" tF)))
    (aM : PySem.W.nsIn K mainGlobals "MOST_PARAMETERS" = some (some (.int 12 tM)))
    (gS : PySem.W.nsIn K mainGlobals "SPECIAL_WORDS" = some (some (.ref aS)))
    (lS : K.lookup aS = some ⟨.type "dict", none, .dict es ne, #[]⟩)
    (kS : PySem.W.KeysLit w.params es.toList)
    (eS : es.toList.map entT = specK.map fun p => some (p.1, (p.2 : Int)))
    (oS : (aS == sysModules) = false)
    (a0 : PySem.W.nsIn K mainGlobals "is_word" = some (some (.ref f0)))
    (l0 : K.lookup f0 = some ⟨oc0, od0, .func (PySem.W.fnOf "is_word" "is_word" (defArgs s_is_word) (defBody s_is_word) (defScope s_is_word) .none kV0 dc0 pm0 an0 cd0 ct0), sl0⟩)
    (c0 : PySem.W.codeIn K cd0 "is_word" = true)
    (k0 : PySem.W.keepIn K (.ref f0) = true)
    (a1 : PySem.W.nsIn K mainGlobals "has_head" = some (some (.ref f1)))
    (l1 : K.lookup f1 = some ⟨oc1, od1, .func (PySem.W.fnOf "has_head" "has_head" (defArgs s_has_head) (defBody s_has_head) (defScope s_has_head) .none kV1 dc1 pm1 an1 cd1 ct1), sl1⟩)
    (c1 : PySem.W.codeIn K cd1 "has_head" = true)
    (k1 : PySem.W.keepIn K (.ref f1) = true)
    (a2 : PySem.W.nsIn K mainGlobals "counts_of" = some (some (.ref f2)))
    (l2 : K.lookup f2 = some ⟨oc2, od2, .func (PySem.W.fnOf "counts_of" "counts_of" (defArgs s_counts_of) (defBody s_counts_of) (defScope s_counts_of) .none kV2 dc2 pm2 an2 cd2 ct2), sl2⟩)
    (c2 : PySem.W.codeIn K cd2 "counts_of" = true)
    (k2 : PySem.W.keepIn K (.ref f2) = true)
    (a3 : PySem.W.nsIn K mainGlobals "name_fits" = some (some (.ref f3)))
    (l3 : K.lookup f3 = some ⟨oc3, od3, .func (PySem.W.fnOf "name_fits" "name_fits" (defArgs s_name_fits) (defBody s_name_fits) (defScope s_name_fits) .none kV3 dc3 pm3 an3 cd3 ct3), sl3⟩)
    (c3 : PySem.W.codeIn K cd3 "name_fits" = true)
    (k3 : PySem.W.keepIn K (.ref f3) = true)
    (a4 : PySem.W.nsIn K mainGlobals "parameters_fit" = some (some (.ref f4)))
    (l4 : K.lookup f4 = some ⟨oc4, od4, .func (PySem.W.fnOf "parameters_fit" "parameters_fit" (defArgs s_parameters_fit) (defBody s_parameters_fit) (defScope s_parameters_fit) .none kV4 dc4 pm4 an4 cd4 ct4), sl4⟩)
    (c4 : PySem.W.codeIn K cd4 "parameters_fit" = true)
    (k4 : PySem.W.keepIn K (.ref f4) = true)
    (a5 : PySem.W.nsIn K mainGlobals "body_fits" = some (some (.ref f5)))
    (l5 : K.lookup f5 = some ⟨oc5, od5, .func (PySem.W.fnOf "body_fits" "body_fits" (defArgs s_body_fits) (defBody s_body_fits) (defScope s_body_fits) .none kV5 dc5 pm5 an5 cd5 ct5), sl5⟩)
    (c5 : PySem.W.codeIn K cd5 "body_fits" = true)
    (k5 : PySem.W.keepIn K (.ref f5) = true)
    (a6 : PySem.W.nsIn K mainGlobals "check_program" = some (some (.ref f6)))
    (l6 : K.lookup f6 = some ⟨oc6, od6, .func (PySem.W.fnOf "check_program" "check_program" (defArgs s_check_program) (defBody s_check_program) (defScope s_check_program) .none kV6 dc6 pm6 an6 cd6 ct6), sl6⟩)
    (c6 : PySem.W.codeIn K cd6 "check_program" = true)
    (k6 : PySem.W.keepIn K (.ref f6) = true)
    (a7 : PySem.W.nsIn K mainGlobals "_law_draws" = some (some (.ref f7)))
    (l7 : K.lookup f7 = some ⟨oc7, od7, .func (PySem.W.fnOf "_law_draws" "_law_draws" (defArgs s__law_draws) (defBody s__law_draws) (defScope s__law_draws) .none kV7 dc7 pm7 an7 cd7 ct7), sl7⟩)
    (c7 : PySem.W.codeIn K cd7 "_law_draws" = true)
    (k7 : PySem.W.keepIn K (.ref f7) = true)
    (a8 : PySem.W.nsIn K mainGlobals "_law_take" = some (some (.ref f8)))
    (l8 : K.lookup f8 = some ⟨oc8, od8, .func (PySem.W.fnOf "_law_take" "_law_take" (defArgs s__law_take) (defBody s__law_take) (defScope s__law_take) .none kV8 dc8 pm8 an8 cd8 ct8), sl8⟩)
    (c8 : PySem.W.codeIn K cd8 "_law_take" = true)
    (k8 : PySem.W.keepIn K (.ref f8) = true)
    (a9 : PySem.W.nsIn K mainGlobals "_law_value" = some (some (.ref f9)))
    (l9 : K.lookup f9 = some ⟨oc9, od9, .func (PySem.W.fnOf "_law_value" "_law_value" (defArgs s__law_value) (defBody s__law_value) (defScope s__law_value) .none kV9 dc9 pm9 an9 cd9 ct9), sl9⟩)
    (c9 : PySem.W.codeIn K cd9 "_law_value" = true)
    (k9 : PySem.W.keepIn K (.ref f9) = true)
    (a10 : PySem.W.nsIn K mainGlobals "_law_expression" = some (some (.ref f10)))
    (l10 : K.lookup f10 = some ⟨oc10, od10, .func (PySem.W.fnOf "_law_expression" "_law_expression" (defArgs s__law_expression) (defBody s__law_expression) (defScope s__law_expression) .none kV10 dc10 pm10 an10 cd10 ct10), sl10⟩)
    (c10 : PySem.W.codeIn K cd10 "_law_expression" = true)
    (k10 : PySem.W.keepIn K (.ref f10) = true)
    (a11 : PySem.W.nsIn K mainGlobals "_law_library" = some (some (.ref f11)))
    (l11 : K.lookup f11 = some ⟨oc11, od11, .func (PySem.W.fnOf "_law_library" "_law_library" (defArgs s__law_library) (defBody s__law_library) (defScope s__law_library) .none kV11 dc11 pm11 an11 cd11 ct11), sl11⟩)
    (c11 : PySem.W.codeIn K cd11 "_law_library" = true)
    (k11 : PySem.W.keepIn K (.ref f11) = true)
    (a12 : PySem.W.nsIn K mainGlobals "_law_program" = some (some (.ref f12)))
    (l12 : K.lookup f12 = some ⟨oc12, od12, .func (PySem.W.fnOf "_law_program" "_law_program" (defArgs s__law_program) (defBody s__law_program) (defScope s__law_program) .none kV12 dc12 pm12 an12 cd12 ct12), sl12⟩)
    (c12 : PySem.W.codeIn K cd12 "_law_program" = true)
    (k12 : PySem.W.keepIn K (.ref f12) = true)
    (a13 : PySem.W.nsIn K mainGlobals "_law_many" = some (some (.ref f13)))
    (l13 : K.lookup f13 = some ⟨oc13, od13, .func (PySem.W.fnOf "_law_many" "_law_many" (defArgs s__law_many) (defBody s__law_many) (defScope s__law_many) .none kV13 dc13 pm13 an13 cd13 ct13), sl13⟩)
    (c13 : PySem.W.codeIn K cd13 "_law_many" = true)
    (k13 : PySem.W.keepIn K (.ref f13) = true)
    (a14 : PySem.W.nsIn K mainGlobals "_law_special" = some (some (.ref f14)))
    (l14 : K.lookup f14 = some ⟨oc14, od14, .func (PySem.W.fnOf "_law_special" "_law_special" (defArgs s__law_special) (defBody s__law_special) (defScope s__law_special) .none kV14 dc14 pm14 an14 cd14 ct14), sl14⟩)
    (c14 : PySem.W.codeIn K cd14 "_law_special" = true)
    (k14 : PySem.W.keepIn K (.ref f14) = true)
    (a15 : PySem.W.nsIn K mainGlobals "_law_expression_good" = some (some (.ref f15)))
    (l15 : K.lookup f15 = some ⟨oc15, od15, .func (PySem.W.fnOf "_law_expression_good" "_law_expression_good" (defArgs s__law_expression_good) (defBody s__law_expression_good) (defScope s__law_expression_good) .none kV15 dc15 pm15 an15 cd15 ct15), sl15⟩)
    (c15 : PySem.W.codeIn K cd15 "_law_expression_good" = true)
    (k15 : PySem.W.keepIn K (.ref f15) = true)
    (a16 : PySem.W.nsIn K mainGlobals "_law_name_good" = some (some (.ref f16)))
    (l16 : K.lookup f16 = some ⟨oc16, od16, .func (PySem.W.fnOf "_law_name_good" "_law_name_good" (defArgs s__law_name_good) (defBody s__law_name_good) (defScope s__law_name_good) .none kV16 dc16 pm16 an16 cd16 ct16), sl16⟩)
    (c16 : PySem.W.codeIn K cd16 "_law_name_good" = true)
    (k16 : PySem.W.keepIn K (.ref f16) = true)
    (a17 : PySem.W.nsIn K mainGlobals "_law_function_good" = some (some (.ref f17)))
    (l17 : K.lookup f17 = some ⟨oc17, od17, .func (PySem.W.fnOf "_law_function_good" "_law_function_good" (defArgs s__law_function_good) (defBody s__law_function_good) (defScope s__law_function_good) .none kV17 dc17 pm17 an17 cd17 ct17), sl17⟩)
    (c17 : PySem.W.codeIn K cd17 "_law_function_good" = true)
    (k17 : PySem.W.keepIn K (.ref f17) = true)
    (a18 : PySem.W.nsIn K mainGlobals "_law_bad_function" = some (some (.ref f18)))
    (l18 : K.lookup f18 = some ⟨oc18, od18, .func (PySem.W.fnOf "_law_bad_function" "_law_bad_function" (defArgs s__law_bad_function) (defBody s__law_bad_function) (defScope s__law_bad_function) .none kV18 dc18 pm18 an18 cd18 ct18), sl18⟩)
    (c18 : PySem.W.codeIn K cd18 "_law_bad_function" = true)
    (k18 : PySem.W.keepIn K (.ref f18) = true)
    (a19 : PySem.W.nsIn K mainGlobals "_law_is_right" = some (some (.ref f19)))
    (l19 : K.lookup f19 = some ⟨oc19, od19, .func (PySem.W.fnOf "_law_is_right" "_law_is_right" (defArgs s__law_is_right) (defBody s__law_is_right) (defScope s__law_is_right) .none kV19 dc19 pm19 an19 cd19 ct19), sl19⟩)
    (c19 : PySem.W.codeIn K cd19 "_law_is_right" = true)
    (k19 : PySem.W.keepIn K (.ref f19) = true)
    (a20 : PySem.W.nsIn K mainGlobals "_law_called" = some (some (.ref f20)))
    (l20 : K.lookup f20 = some ⟨oc20, od20, .func (PySem.W.fnOf "_law_called" "_law_called" (defArgs s__law_called) (defBody s__law_called) (defScope s__law_called) .none kV20 dc20 pm20 an20 cd20 ct20), sl20⟩)
    (c20 : PySem.W.codeIn K cd20 "_law_called" = true)
    (k20 : PySem.W.keepIn K (.ref f20) = true)
    (a21 : PySem.W.nsIn K mainGlobals "_law_other_names" = some (some (.ref f21)))
    (l21 : K.lookup f21 = some ⟨oc21, od21, .func (PySem.W.fnOf "_law_other_names" "_law_other_names" (defArgs s__law_other_names) (defBody s__law_other_names) (defScope s__law_other_names) .none kV21 dc21 pm21 an21 cd21 ct21), sl21⟩)
    (c21 : PySem.W.codeIn K cd21 "_law_other_names" = true)
    (k21 : PySem.W.keepIn K (.ref f21) = true)
    (a22 : PySem.W.nsIn K mainGlobals "_law_odd" = some (some (.ref f22)))
    (l22 : K.lookup f22 = some ⟨oc22, od22, .func (PySem.W.fnOf "_law_odd" "_law_odd" (defArgs s__law_odd) (defBody s__law_odd) (defScope s__law_odd) .none kV22 dc22 pm22 an22 cd22 ct22), sl22⟩)
    (c22 : PySem.W.codeIn K cd22 "_law_odd" = true)
    (k22 : PySem.W.keepIn K (.ref f22) = true)
    (a23 : PySem.W.nsIn K mainGlobals "_law_bent" = some (some (.ref f23)))
    (l23 : K.lookup f23 = some ⟨oc23, od23, .func (PySem.W.fnOf "_law_bent" "_law_bent" (defArgs s__law_bent) (defBody s__law_bent) (defScope s__law_bent) .none kV23 dc23 pm23 an23 cd23 ct23), sl23⟩)
    (c23 : PySem.W.codeIn K cd23 "_law_bent" = true)
    (k23 : PySem.W.keepIn K (.ref f23) = true)
    (a24 : PySem.W.nsIn K mainGlobals "_law_wide" = some (some (.ref f24)))
    (l24 : K.lookup f24 = some ⟨oc24, od24, .func (PySem.W.fnOf "_law_wide" "_law_wide" (defArgs s__law_wide) (defBody s__law_wide) (defScope s__law_wide) .none kV24 dc24 pm24 an24 cd24 ct24), sl24⟩)
    (c24 : PySem.W.codeIn K cd24 "_law_wide" = true)
    (k24 : PySem.W.keepIn K (.ref f24) = true)
    (a25 : PySem.W.nsIn K mainGlobals "_law_numbered" = some (some (.ref f25)))
    (l25 : K.lookup f25 = some ⟨oc25, od25, .func (PySem.W.fnOf "_law_numbered" "_law_numbered" (defArgs s__law_numbered) (defBody s__law_numbered) (defScope s__law_numbered) .none kV25 dc25 pm25 an25 cd25 ct25), sl25⟩)
    (c25 : PySem.W.codeIn K cd25 "_law_numbered" = true)
    (k25 : PySem.W.keepIn K (.ref f25) = true)
    (a26 : PySem.W.nsIn K mainGlobals "_law_deep_body" = some (some (.ref f26)))
    (l26 : K.lookup f26 = some ⟨oc26, od26, .func (PySem.W.fnOf "_law_deep_body" "_law_deep_body" (defArgs s__law_deep_body) (defBody s__law_deep_body) (defScope s__law_deep_body) .none kV26 dc26 pm26 an26 cd26 ct26), sl26⟩)
    (c26 : PySem.W.codeIn K cd26 "_law_deep_body" = true)
    (k26 : PySem.W.keepIn K (.ref f26) = true)
    (a27 : PySem.W.nsIn K mainGlobals "law" = some (some (.ref f27)))
    (l27 : K.lookup f27 = some ⟨oc27, od27, .func (PySem.W.fnOf "law" "law" (defArgs s_law) (defBody s_law) (defScope s_law) .none kV27 dc27 pm27 an27 cd27 ct27), sl27⟩)
    (c27 : PySem.W.codeIn K cd27 "law" = true)
    (k27 : PySem.W.keepIn K (.ref f27) = true)
    (z0 : PySem.W.nsIn K mainGlobals "len" = some none)
    (z1 : PySem.W.nsIn K mainGlobals "isinstance" = some none)
    (z2 : PySem.W.nsIn K mainGlobals "abs" = some none)
    (z3 : PySem.W.nsIn K mainGlobals "int" = some none)
    (z4 : PySem.W.nsIn K mainGlobals "str" = some none)
    (z5 : PySem.W.nsIn K mainGlobals "tuple" = some none)
    (z6 : PySem.W.nsIn K mainGlobals "list" = some none)
    (z7 : PySem.W.nsIn K mainGlobals "dict" = some none)
    (z8 : PySem.W.nsIn K mainGlobals "bool" = some none)
    (z9 : PySem.W.nsIn K mainGlobals "range" = some none)
    (z10 : PySem.W.nsIn K mainGlobals "enumerate" = some none)
    : ∃ fd : FuncData, (∀ (s : Shared) (v : Value), BindsTo s fd ⟨[v], []⟩ [("_law_script", v)]) ∧ ∀ base : Heap, K.In base → base.Ns mainGlobals mg → FnOk l.prog w K mg base CX0 12 fa fd ["_law_script"] (spLaw K) := by
  have e := hfa.symm.trans (PySem.W.mg_of X G a27)
  cases e
  have Fn := fun_mk (st := s_init) ln cn kn
  have F0 := fun_mk (st := s_is_word) l0 c0 k0
  have F1 := fun_mk (st := s_has_head) l1 c1 k1
  have F2 := fun_mk (st := s_counts_of) l2 c2 k2
  have F3 := fun_mk (st := s_name_fits) l3 c3 k3
  have F4 := fun_mk (st := s_parameters_fit) l4 c4 k4
  have F5 := fun_mk (st := s_body_fits) l5 c5 k5
  have F6 := fun_mk (st := s_check_program) l6 c6 k6
  have F7 := fun_mk (st := s__law_draws) l7 c7 k7
  have F8 := fun_mk (st := s__law_take) l8 c8 k8
  have F9 := fun_mk (st := s__law_value) l9 c9 k9
  have F10 := fun_mk (st := s__law_expression) l10 c10 k10
  have F11 := fun_mk (st := s__law_library) l11 c11 k11
  have F12 := fun_mk (st := s__law_program) l12 c12 k12
  have F13 := fun_mk (st := s__law_many) l13 c13 k13
  have F14 := fun_mk (st := s__law_special) l14 c14 k14
  have F15 := fun_mk (st := s__law_expression_good) l15 c15 k15
  have F16 := fun_mk (st := s__law_name_good) l16 c16 k16
  have F17 := fun_mk (st := s__law_function_good) l17 c17 k17
  have F18 := fun_mk (st := s__law_bad_function) l18 c18 k18
  have F19 := fun_mk (st := s__law_is_right) l19 c19 k19
  have F20 := fun_mk (st := s__law_called) l20 c20 k20
  have F21 := fun_mk (st := s__law_other_names) l21 c21 k21
  have F22 := fun_mk (st := s__law_odd) l22 c22 k22
  have F23 := fun_mk (st := s__law_bent) l23 c23 k23
  have F24 := fun_mk (st := s__law_wide) l24 c24 k24
  have F25 := fun_mk (st := s__law_numbered) l25 c25 k25
  have F26 := fun_mk (st := s__law_deep_body) l26 c26 k26
  have F27 := fun_mk (st := s_law) l27 c27 k27
  have T : Tx w K mg ({ cG := cG, cT := cT, cP := cP, cI := cI, fi := fn, aS := aS, di := (PySem.W.fnOf "__init__" "BadProgram.__init__" (defArgs s_init) (defBody s_init) (defScope s_init) .none kVn dcn pmn ann cdn ctn), tF := tF, tM := tM, f_is_word := f0, d_is_word := (PySem.W.fnOf "is_word" "is_word" (defArgs s_is_word) (defBody s_is_word) (defScope s_is_word) .none kV0 dc0 pm0 an0 cd0 ct0), f_has_head := f1, d_has_head := (PySem.W.fnOf "has_head" "has_head" (defArgs s_has_head) (defBody s_has_head) (defScope s_has_head) .none kV1 dc1 pm1 an1 cd1 ct1), f_counts_of := f2, d_counts_of := (PySem.W.fnOf "counts_of" "counts_of" (defArgs s_counts_of) (defBody s_counts_of) (defScope s_counts_of) .none kV2 dc2 pm2 an2 cd2 ct2), f_name_fits := f3, d_name_fits := (PySem.W.fnOf "name_fits" "name_fits" (defArgs s_name_fits) (defBody s_name_fits) (defScope s_name_fits) .none kV3 dc3 pm3 an3 cd3 ct3), f_parameters_fit := f4, d_parameters_fit := (PySem.W.fnOf "parameters_fit" "parameters_fit" (defArgs s_parameters_fit) (defBody s_parameters_fit) (defScope s_parameters_fit) .none kV4 dc4 pm4 an4 cd4 ct4), f_body_fits := f5, d_body_fits := (PySem.W.fnOf "body_fits" "body_fits" (defArgs s_body_fits) (defBody s_body_fits) (defScope s_body_fits) .none kV5 dc5 pm5 an5 cd5 ct5), f_check_program := f6, d_check_program := (PySem.W.fnOf "check_program" "check_program" (defArgs s_check_program) (defBody s_check_program) (defScope s_check_program) .none kV6 dc6 pm6 an6 cd6 ct6), f__law_draws := f7, d__law_draws := (PySem.W.fnOf "_law_draws" "_law_draws" (defArgs s__law_draws) (defBody s__law_draws) (defScope s__law_draws) .none kV7 dc7 pm7 an7 cd7 ct7), f__law_take := f8, d__law_take := (PySem.W.fnOf "_law_take" "_law_take" (defArgs s__law_take) (defBody s__law_take) (defScope s__law_take) .none kV8 dc8 pm8 an8 cd8 ct8), f__law_value := f9, d__law_value := (PySem.W.fnOf "_law_value" "_law_value" (defArgs s__law_value) (defBody s__law_value) (defScope s__law_value) .none kV9 dc9 pm9 an9 cd9 ct9), f__law_expression := f10, d__law_expression := (PySem.W.fnOf "_law_expression" "_law_expression" (defArgs s__law_expression) (defBody s__law_expression) (defScope s__law_expression) .none kV10 dc10 pm10 an10 cd10 ct10), f__law_library := f11, d__law_library := (PySem.W.fnOf "_law_library" "_law_library" (defArgs s__law_library) (defBody s__law_library) (defScope s__law_library) .none kV11 dc11 pm11 an11 cd11 ct11), f__law_program := f12, d__law_program := (PySem.W.fnOf "_law_program" "_law_program" (defArgs s__law_program) (defBody s__law_program) (defScope s__law_program) .none kV12 dc12 pm12 an12 cd12 ct12), f__law_many := f13, d__law_many := (PySem.W.fnOf "_law_many" "_law_many" (defArgs s__law_many) (defBody s__law_many) (defScope s__law_many) .none kV13 dc13 pm13 an13 cd13 ct13), f__law_special := f14, d__law_special := (PySem.W.fnOf "_law_special" "_law_special" (defArgs s__law_special) (defBody s__law_special) (defScope s__law_special) .none kV14 dc14 pm14 an14 cd14 ct14), f__law_expression_good := f15, d__law_expression_good := (PySem.W.fnOf "_law_expression_good" "_law_expression_good" (defArgs s__law_expression_good) (defBody s__law_expression_good) (defScope s__law_expression_good) .none kV15 dc15 pm15 an15 cd15 ct15), f__law_name_good := f16, d__law_name_good := (PySem.W.fnOf "_law_name_good" "_law_name_good" (defArgs s__law_name_good) (defBody s__law_name_good) (defScope s__law_name_good) .none kV16 dc16 pm16 an16 cd16 ct16), f__law_function_good := f17, d__law_function_good := (PySem.W.fnOf "_law_function_good" "_law_function_good" (defArgs s__law_function_good) (defBody s__law_function_good) (defScope s__law_function_good) .none kV17 dc17 pm17 an17 cd17 ct17), f__law_bad_function := f18, d__law_bad_function := (PySem.W.fnOf "_law_bad_function" "_law_bad_function" (defArgs s__law_bad_function) (defBody s__law_bad_function) (defScope s__law_bad_function) .none kV18 dc18 pm18 an18 cd18 ct18), f__law_is_right := f19, d__law_is_right := (PySem.W.fnOf "_law_is_right" "_law_is_right" (defArgs s__law_is_right) (defBody s__law_is_right) (defScope s__law_is_right) .none kV19 dc19 pm19 an19 cd19 ct19), f__law_called := f20, d__law_called := (PySem.W.fnOf "_law_called" "_law_called" (defArgs s__law_called) (defBody s__law_called) (defScope s__law_called) .none kV20 dc20 pm20 an20 cd20 ct20), f__law_other_names := f21, d__law_other_names := (PySem.W.fnOf "_law_other_names" "_law_other_names" (defArgs s__law_other_names) (defBody s__law_other_names) (defScope s__law_other_names) .none kV21 dc21 pm21 an21 cd21 ct21), f__law_odd := f22, d__law_odd := (PySem.W.fnOf "_law_odd" "_law_odd" (defArgs s__law_odd) (defBody s__law_odd) (defScope s__law_odd) .none kV22 dc22 pm22 an22 cd22 ct22), f__law_bent := f23, d__law_bent := (PySem.W.fnOf "_law_bent" "_law_bent" (defArgs s__law_bent) (defBody s__law_bent) (defScope s__law_bent) .none kV23 dc23 pm23 an23 cd23 ct23), f__law_wide := f24, d__law_wide := (PySem.W.fnOf "_law_wide" "_law_wide" (defArgs s__law_wide) (defBody s__law_wide) (defScope s__law_wide) .none kV24 dc24 pm24 an24 cd24 ct24), f__law_numbered := f25, d__law_numbered := (PySem.W.fnOf "_law_numbered" "_law_numbered" (defArgs s__law_numbered) (defBody s__law_numbered) (defScope s__law_numbered) .none kV25 dc25 pm25 an25 cd25 ct25), f__law_deep_body := f26, d__law_deep_body := (PySem.W.fnOf "_law_deep_body" "_law_deep_body" (defArgs s__law_deep_body) (defBody s__law_deep_body) (defScope s__law_deep_body) .none kV26 dc26 pm26 an26 cd26 ct26), f_law := fa, d_law := (PySem.W.fnOf "law" "law" (defArgs s_law) (defBody s_law) (defScope s_law) .none kV27 dc27 pm27 an27 cd27 ct27) } : Fs) :=
    { F_init := Fn, b_init := Fn.binds (ps := ["self", "function"]) fun _ _ _ _ _ _ us hl => match us, hl with | [_, _], _ => rfl
      F_is_word := F0, m_is_word := PySem.W.mg_of X G a0, k_is_word := k0, b_is_word := F0.binds (ps := ["value"]) fun _ _ _ _ _ _ us hl => match us, hl with | [_], _ => rfl
      F_has_head := F1, m_has_head := PySem.W.mg_of X G a1, k_has_head := k1, b_has_head := F1.binds (ps := ["function"]) fun _ _ _ _ _ _ us hl => match us, hl with | [_], _ => rfl
      F_counts_of := F2, m_counts_of := PySem.W.mg_of X G a2, k_counts_of := k2, b_counts_of := F2.binds (ps := ["program"]) fun _ _ _ _ _ _ us hl => match us, hl with | [_], _ => rfl
      F_name_fits := F3, m_name_fits := PySem.W.mg_of X G a3, k_name_fits := k3, b_name_fits := F3.binds (ps := ["name", "names", "many"]) fun _ _ _ _ _ _ us hl => match us, hl with | [_, _, _], _ => rfl
      F_parameters_fit := F4, m_parameters_fit := PySem.W.mg_of X G a4, k_parameters_fit := k4, b_parameters_fit := F4.binds (ps := ["parameters"]) fun _ _ _ _ _ _ us hl => match us, hl with | [_], _ => rfl
      F_body_fits := F5, m_body_fits := PySem.W.mg_of X G a5, k_body_fits := k5, b_body_fits := F5.binds (ps := ["body", "parameters", "counts"]) fun _ _ _ _ _ _ us hl => match us, hl with | [_, _, _], _ => rfl
      F_check_program := F6, m_check_program := PySem.W.mg_of X G a6, k_check_program := k6, b_check_program := F6.binds (ps := ["value"]) fun _ _ _ _ _ _ us hl => match us, hl with | [_], _ => rfl
      F__law_draws := F7, m__law_draws := PySem.W.mg_of X G a7, k__law_draws := k7, b__law_draws := F7.binds (ps := ["_law_script", "_law_many_here"]) fun _ _ _ _ _ _ us hl => match us, hl with | [_, _], _ => rfl
      F__law_take := F8, m__law_take := PySem.W.mg_of X G a8, k__law_take := k8, b__law_take := F8.binds (ps := ["_law_hand", "_law_many_here"]) fun _ _ _ _ _ _ us hl => match us, hl with | [_, _], _ => rfl
      F__law_value := F9, m__law_value := PySem.W.mg_of X G a9, k__law_value := k9, b__law_value := F9.binds (ps := ["_law_hand", "_law_depth"]) fun _ _ _ _ _ _ us hl => match us, hl with | [_, _], _ => rfl
      F__law_expression := F10, m__law_expression := PySem.W.mg_of X G a10, k__law_expression := k10, b__law_expression := F10.binds (ps := ["_law_hand", "_law_parameters", "_law_calls", "_law_depth"]) fun _ _ _ _ _ _ us hl => match us, hl with | [_, _, _, _], _ => rfl
      F__law_library := F11, m__law_library := PySem.W.mg_of X G a11, k__law_library := k11, b__law_library := F11.binds (ps := []) fun _ _ _ _ _ _ us hl => match us, hl with | [], _ => rfl
      F__law_program := F12, m__law_program := PySem.W.mg_of X G a12, k__law_program := k12, b__law_program := F12.binds (ps := ["_law_hand", "_law_inputs"]) fun _ _ _ _ _ _ us hl => match us, hl with | [_, _], _ => rfl
      F__law_many := F13, m__law_many := PySem.W.mg_of X G a13, k__law_many := k13, b__law_many := F13.binds (ps := ["_law_program_here", "_law_name"]) fun _ _ _ _ _ _ us hl => match us, hl with | [_, _], _ => rfl
      F__law_special := F14, m__law_special := PySem.W.mg_of X G a14, k__law_special := k14, b__law_special := F14.binds (ps := []) fun _ _ _ _ _ _ us hl => match us, hl with | [], _ => rfl
      F__law_expression_good := F15, m__law_expression_good := PySem.W.mg_of X G a15, k__law_expression_good := k15, b__law_expression_good := F15.binds (ps := ["_law_program_here", "_law_parameters", "_law_body"]) fun _ _ _ _ _ _ us hl => match us, hl with | [_, _, _], _ => rfl
      F__law_name_good := F16, m__law_name_good := PySem.W.mg_of X G a16, k__law_name_good := k16, b__law_name_good := F16.binds (ps := ["_law_program_here", "_law_at"]) fun _ _ _ _ _ _ us hl => match us, hl with | [_, _], _ => rfl
      F__law_function_good := F17, m__law_function_good := PySem.W.mg_of X G a17, k__law_function_good := k17, b__law_function_good := F17.binds (ps := ["_law_program_here", "_law_at"]) fun _ _ _ _ _ _ us hl => match us, hl with | [_, _], _ => rfl
      F__law_bad_function := F18, m__law_bad_function := PySem.W.mg_of X G a18, k__law_bad_function := k18, b__law_bad_function := F18.binds (ps := ["_law_program_here"]) fun _ _ _ _ _ _ us hl => match us, hl with | [_], _ => rfl
      F__law_is_right := F19, m__law_is_right := PySem.W.mg_of X G a19, k__law_is_right := k19, b__law_is_right := F19.binds (ps := ["_law_program_here"]) fun _ _ _ _ _ _ us hl => match us, hl with | [_], _ => rfl
      F__law_called := F20, m__law_called := PySem.W.mg_of X G a20, k__law_called := k20, b__law_called := F20.binds (ps := ["_law_value_here", "_law_old", "_law_new"]) fun _ _ _ _ _ _ us hl => match us, hl with | [_, _, _], _ => rfl
      F__law_other_names := F21, m__law_other_names := PySem.W.mg_of X G a21, k__law_other_names := k21, b__law_other_names := F21.binds (ps := ["_law_hand", "_law_program_here"]) fun _ _ _ _ _ _ us hl => match us, hl with | [_, _], _ => rfl
      F__law_odd := F22, m__law_odd := PySem.W.mg_of X G a22, k__law_odd := k22, b__law_odd := F22.binds (ps := ["_law_hand", "_law_program_here"]) fun _ _ _ _ _ _ us hl => match us, hl with | [_, _], _ => rfl
      F__law_bent := F23, m__law_bent := PySem.W.mg_of X G a23, k__law_bent := k23, b__law_bent := F23.binds (ps := ["_law_hand", "_law_program_here", "_law_value_here", "_law_depth"]) fun _ _ _ _ _ _ us hl => match us, hl with | [_, _, _, _], _ => rfl
      F__law_wide := F24, m__law_wide := PySem.W.mg_of X G a24, k__law_wide := k24, b__law_wide := F24.binds (ps := ["_law_hand"]) fun _ _ _ _ _ _ us hl => match us, hl with | [_], _ => rfl
      F__law_numbered := F25, m__law_numbered := PySem.W.mg_of X G a25, k__law_numbered := k25, b__law_numbered := F25.binds (ps := ["_law_hand"]) fun _ _ _ _ _ _ us hl => match us, hl with | [_], _ => rfl
      F__law_deep_body := F26, m__law_deep_body := PySem.W.mg_of X G a26, k__law_deep_body := k26, b__law_deep_body := F26.binds (ps := ["_law_hand", "_law_inner"]) fun _ _ _ _ _ _ us hl => match us, hl with | [_, _], _ => rfl
      F_law := F27, m_law := PySem.W.mg_of X G a27, k_law := k27, b_law := F27.binds (ps := ["_law_script"]) fun _ _ _ _ _ _ us hl => match us, hl with | [_], _ => rfl
      z_len := PySem.W.mg_none_of X G z0
      z_isinstance := PySem.W.mg_none_of X G z1
      z_abs := PySem.W.mg_none_of X G z2
      z_int := PySem.W.mg_none_of X G z3
      z_str := PySem.W.mg_none_of X G z4
      z_tuple := PySem.W.mg_none_of X G z5
      z_list := PySem.W.mg_none_of X G z6
      z_dict := PySem.W.mg_none_of X G z7
      z_bool := PySem.W.mg_none_of X G z8
      z_range := PySem.W.mg_none_of X G z9
      z_enumerate := PySem.W.mg_none_of X G z10
      m_FIGURES := PySem.W.mg_of X G aF, m_MOST_PARAMETERS := PySem.W.mg_of X G aM, m_SPECIAL_WORDS := PySem.W.mg_of X G gS
      m_GlassError := PySem.W.mg_of X G aG, m_BadText := PySem.W.mg_of X G aT, m_BadProgram := PySem.W.mg_of X G aP, m_BadInputs := PySem.W.mg_of X G aI
      oex := ⟨⟨nm, q, N, bs, bm, sn, sub, ab, col, dd, m0, m1, m2, m3, m5, xP, rP⟩, sa, exC, tyC, kC⟩
      iC := an, tI := tn, xf := ⟨ga, gg, exC, hdC⟩, no_function := nf
      kd := kdc_of lS kS eS oS
      xc := ⟨ga, gg, exC, hdC, ha, hn, ht, hm⟩
      iG := kit_of neG isG tyG suG, iT := kit_of neT isT tyT suT, iI := kit_of neI isI tyI suI, te := exm_of exC isP tyC suP }
  exact ⟨(PySem.W.fnOf "law" "law" (defArgs s_law) (defBody s_law) (defScope s_law) .none kV27 dc27 pm27 an27 cd27 ct27), fun s v => .of_eq rfl, fun base _ _ => ok_law T⟩
end K4
open PySem PySem.W PyProof.Rows
set_option maxRecDepth 100000 in
set_option maxHeartbeats 0 in
theorem PySem.Challenge.cw_ownglass_k04_good_and_bad_programs_holds : PySem.Challenge.rw_ownglass_k04_good_and_bad_programs.Holds := by
  w_on; o_law; k_head; (case hw => w_witness2)
  k_fill
  refine L2.walk_of (l := PySem.Challenge.rw_ownglass_k04_good_and_bad_programs) (n := 63) (k := 12) (x := "_law_script") (CX := fun _ => L2.CX0) (sp := fun w => K4.spLaw _) rfl (by decide) rfl ⟨rfl, by decide, by decide⟩ (fun w h Y => PySem.W.kIn_of Y) ?F (fun _ _ a ns hl _ hS => ⟨a, ns, rfl, hS, hl, fun _ => rfl⟩) fun _ _ _ _ _ z => z
  case F =>
    intro w mg fa h KX G hmg
    refine' K4.all_mk KX G hmg ?aG ?aT ?aP ?aI ?xP ?rP ?sa ?exC ?tyC ?kC ?ga ?gg ?hdC ?ha ?hn ?ht ?hm ?nf ?isP ?suP ?isG ?tyG ?suG ?neG ?isT ?tyT ?suT ?neT ?isI ?tyI ?suI ?neI ?an ?ln ?cn ?kn ?tn ?aF ?aM ?gS ?lS ?kS ?eS ?oS ?a0 ?l0 ?c0 ?k0 ?a1 ?l1 ?c1 ?k1 ?a2 ?l2 ?c2 ?k2 ?a3 ?l3 ?c3 ?k3 ?a4 ?l4 ?c4 ?k4 ?a5 ?l5 ?c5 ?k5 ?a6 ?l6 ?c6 ?k6 ?a7 ?l7 ?c7 ?k7 ?a8 ?l8 ?c8 ?k8 ?a9 ?l9 ?c9 ?k9 ?a10 ?l10 ?c10 ?k10 ?a11 ?l11 ?c11 ?k11 ?a12 ?l12 ?c12 ?k12 ?a13 ?l13 ?c13 ?k13 ?a14 ?l14 ?c14 ?k14 ?a15 ?l15 ?c15 ?k15 ?a16 ?l16 ?c16 ?k16 ?a17 ?l17 ?c17 ?k17 ?a18 ?l18 ?c18 ?k18 ?a19 ?l19 ?c19 ?k19 ?a20 ?l20 ?c20 ?k20 ?a21 ?l21 ?c21 ?k21 ?a22 ?l22 ?c22 ?k22 ?a23 ?l23 ?c23 ?k23 ?a24 ?l24 ?c24 ?k24 ?a25 ?l25 ?c25 ?k25 ?a26 ?l26 ?c26 ?k26 ?a27 ?l27 ?c27 ?k27 ?z0 ?z1 ?z2 ?z3 ?z4 ?z5 ?z6 ?z7 ?z8 ?z9 ?z10
    (case aG => k_is)
    (case aT => k_is)
    (case aP => k_is)
    (case aI => k_is)
    (case xP => k_is)
    (case rP => rfl)
    (case sa => k_is)
    (case exC => k_is)
    (case tyC => k_is)
    (case kC => k_is)
    (case ga => k_is)
    (case gg => k_is)
    (case hdC => k_is)
    (case ha => k_is)
    (case hn => k_is)
    (case ht => k_is)
    (case hm => k_is)
    (case nf => k_is)
    (case isP => k_is)
    (case suP => first | rfl | k_is)
    (case isG => k_is)
    (case tyG => k_is)
    (case suG => k_is)
    (case neG => decide +kernel)
    (case isT => k_is)
    (case tyT => k_is)
    (case suT => k_is)
    (case neT => decide +kernel)
    (case isI => k_is)
    (case tyI => k_is)
    (case suI => k_is)
    (case neI => decide +kernel)
    (case an => k_is)
    (case ln => k_is)
    (case cn => k_is)
    (case kn => k_is)
    (case tn => k_is)
    (case aF => k_is)
    (case aM => k_is)
    (case gS => k_is)
    (case lS => k_is)
    (case kS => repeat (first | exact True.intro | refine And.intro ⟨_, _, rfl, rfl⟩ ?_))
    (case eS => rfl)
    (case oS => decide)
    (case a0 => k_is)
    (case l0 => k_is)
    (case c0 => k_is)
    (case k0 => k_is)
    (case a1 => k_is)
    (case l1 => k_is)
    (case c1 => k_is)
    (case k1 => k_is)
    (case a2 => k_is)
    (case l2 => k_is)
    (case c2 => k_is)
    (case k2 => k_is)
    (case a3 => k_is)
    (case l3 => k_is)
    (case c3 => k_is)
    (case k3 => k_is)
    (case a4 => k_is)
    (case l4 => k_is)
    (case c4 => k_is)
    (case k4 => k_is)
    (case a5 => k_is)
    (case l5 => k_is)
    (case c5 => k_is)
    (case k5 => k_is)
    (case a6 => k_is)
    (case l6 => k_is)
    (case c6 => k_is)
    (case k6 => k_is)
    (case a7 => k_is)
    (case l7 => k_is)
    (case c7 => k_is)
    (case k7 => k_is)
    (case a8 => k_is)
    (case l8 => k_is)
    (case c8 => k_is)
    (case k8 => k_is)
    (case a9 => k_is)
    (case l9 => k_is)
    (case c9 => k_is)
    (case k9 => k_is)
    (case a10 => k_is)
    (case l10 => k_is)
    (case c10 => k_is)
    (case k10 => k_is)
    (case a11 => k_is)
    (case l11 => k_is)
    (case c11 => k_is)
    (case k11 => k_is)
    (case a12 => k_is)
    (case l12 => k_is)
    (case c12 => k_is)
    (case k12 => k_is)
    (case a13 => k_is)
    (case l13 => k_is)
    (case c13 => k_is)
    (case k13 => k_is)
    (case a14 => k_is)
    (case l14 => k_is)
    (case c14 => k_is)
    (case k14 => k_is)
    (case a15 => k_is)
    (case l15 => k_is)
    (case c15 => k_is)
    (case k15 => k_is)
    (case a16 => k_is)
    (case l16 => k_is)
    (case c16 => k_is)
    (case k16 => k_is)
    (case a17 => k_is)
    (case l17 => k_is)
    (case c17 => k_is)
    (case k17 => k_is)
    (case a18 => k_is)
    (case l18 => k_is)
    (case c18 => k_is)
    (case k18 => k_is)
    (case a19 => k_is)
    (case l19 => k_is)
    (case c19 => k_is)
    (case k19 => k_is)
    (case a20 => k_is)
    (case l20 => k_is)
    (case c20 => k_is)
    (case k20 => k_is)
    (case a21 => k_is)
    (case l21 => k_is)
    (case c21 => k_is)
    (case k21 => k_is)
    (case a22 => k_is)
    (case l22 => k_is)
    (case c22 => k_is)
    (case k22 => k_is)
    (case a23 => k_is)
    (case l23 => k_is)
    (case c23 => k_is)
    (case k23 => k_is)
    (case a24 => k_is)
    (case l24 => k_is)
    (case c24 => k_is)
    (case k24 => k_is)
    (case a25 => k_is)
    (case l25 => k_is)
    (case c25 => k_is)
    (case k25 => k_is)
    (case a26 => k_is)
    (case l26 => k_is)
    (case c26 => k_is)
    (case k26 => k_is)
    (case a27 => k_is)
    (case l27 => k_is)
    (case c27 => k_is)
    (case k27 => k_is)
    (case z0 => k_is)
    (case z1 => k_is)
    (case z2 => k_is)
    (case z3 => k_is)
    (case z4 => k_is)
    (case z5 => k_is)
    (case z6 => k_is)
    (case z7 => k_is)
    (case z8 => k_is)
    (case z9 => k_is)
    (case z10 => k_is)
#print axioms PySem.Challenge.cw_ownglass_k04_good_and_bad_programs_holds


