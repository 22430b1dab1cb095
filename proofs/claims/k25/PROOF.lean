import PyProof.Rows.All
import Wide.All
import OpenK.AllK
import Wide.FinOn
import HandS.ForMost
import HandS.ForExc
import HandS.TupAny
import HandS.TupMul
import HandS.Wide
import HandS.TupLe
import HandS.Deep
import HandS.More
import HandS.FStr
import HandS.SortInts
import HandS.Style
import HandS.Text
import HandS.Dict
import HandS.IsInst
import HandS.DictTup
import PySem.Challenge.RW_fewestmirrors_k25_pieces_of_tables
set_option Elab.async false
set_option maxRecDepth 100000
set_option autoImplicit false
set_option linter.all false
/-! DL0: values without a heap (D), how they lie in the heap (R), states of a def's slots (RS). -/
namespace DL
open PySem PySem.Spec L2

inductive KK where
  | flat | tup | nest
  deriving DecidableEq, Repr

inductive D where
  | non | bl (b : Bool) | int (i : Int) | str (s : Str)
  | tup (xs : List D)
  | lst (m : Bool) (xs : List D)
  | dct (m : Bool) (k : KK) (ks vs : List D)
  | obj (m : Bool) (C : Addr) (fs : List Str) (vs : List D)
  | frl (xs : List D)
  | kt (xs : List D)
  | any

mutual
/-- no part of it may be written -/
def D.sh : D → Bool
  | .tup xs => shL xs
  | .lst m xs => !m && shL xs
  | .dct m _ _ vs => !m && shL vs
  | .obj m _ _ vs => !m && shL vs
  | .frl xs => shL xs
  | .kt xs => shL xs
  | _ => true
def shL : List D → Bool
  | [] => true
  | x :: xs => x.sh && shL xs
end
mutual
def D.fz : D → D
  | .tup xs => .tup (fzL xs)
  | .lst _ xs => .lst false (fzL xs)
  | .dct _ k ks vs => .dct false k ks (fzL vs)
  | .obj _ C fs vs => .obj false C fs (fzL vs)
  | .frl xs => .frl (fzL xs)
  | .kt xs => .kt (fzL xs)
  | d => d
def fzL : List D → List D
  | [] => []
  | x :: xs => x.fz :: fzL xs
end

mutual
theorem fz_sh : ∀ d : D, d.fz.sh = true
  | .non | .bl _ | .int _ | .str _ | .any => by simp [D.fz, D.sh]
  | .tup xs => by simp [D.fz, D.sh, fzL_sh xs]
  | .lst _ xs => by simp [D.fz, D.sh, fzL_sh xs]
  | .dct _ _ _ vs => by simp [D.fz, D.sh, fzL_sh vs]
  | .obj _ _ _ vs => by simp [D.fz, D.sh, fzL_sh vs]
  | .frl xs => by simp [D.fz, D.sh, fzL_sh xs]
  | .kt xs => by simp [D.fz, D.sh, fzL_sh xs]
theorem fzL_sh : ∀ xs : List D, shL (fzL xs) = true
  | [] => by simp [fzL, shL]
  | x :: xs => by simp [fzL, shL, fz_sh x, fzL_sh xs]
end
mutual
theorem fz_of_sh : ∀ d : D, d.sh = true → d.fz = d
  | .non, _ | .bl _, _ | .int _, _ | .str _, _ | .any, _ => rfl
  | .tup xs, h => by simp only [D.sh] at h; simp [D.fz, fzL_of_sh xs h]
  | .lst m xs, h => by simp only [D.sh, Bool.and_eq_true, Bool.not_eq_true'] at h; simp [D.fz, fzL_of_sh xs h.2, h.1]
  | .dct m k ks vs, h => by simp only [D.sh, Bool.and_eq_true, Bool.not_eq_true'] at h; simp [D.fz, fzL_of_sh vs h.2, h.1]
  | .obj m C fs vs, h => by simp only [D.sh, Bool.and_eq_true, Bool.not_eq_true'] at h; simp [D.fz, fzL_of_sh vs h.2, h.1]
  | .frl xs, h => by simp only [D.sh] at h; simp [D.fz, fzL_of_sh xs h]
  | .kt xs, h => by simp only [D.sh] at h; simp [D.fz, fzL_of_sh xs h]
theorem fzL_of_sh : ∀ xs : List D, shL xs = true → fzL xs = xs
  | [], _ => rfl
  | x :: xs, h => by simp only [shL, Bool.and_eq_true] at h; simp [fzL, fz_of_sh x h.1, fzL_of_sh xs h.2]
end
theorem shL_all : ∀ {xs : List D}, shL xs = true ↔ ∀ x ∈ xs, x.sh = true
  | [] => by simp [shL]
  | x :: xs => by simp [shL, shL_all (xs := xs)]
theorem shL_append {xs ys : List D} : shL (xs ++ ys) = (shL xs && shL ys) := by
  induction xs with
  | nil => simp [shL]
  | cons x xs ih => simp [shL, ih, Bool.and_assoc]

/-- a key as a value -/
def kD : Key → D
  | .inl i => .int i
  | .inr x => .str x

abbrev ASet := Addr → Prop

mutual
/-- v is the value d, its writable parts at the addresses p; M: all addresses that may be written -/
inductive R (K : PySem.W.Frag) (H : Hp) (M : ASet) : V → D → List Addr → Prop
  | non : R K H M .non .non []
  | bl (b : Bool) : R K H M (.bl b) (.bl b) []
  | int (i : Int) : R K H M (.int i) (.int i) []
  | str (s : Str) : R K H M (.str s) (.str s) []
  | any (v : V) : R K H M v .any []
  | tup {a : Addr} {vs : List V} {ds : List D} {p : List Addr} : H a = some (.tup vs) → ¬ M a → RL K H M vs ds p → R K H M (.ref a) (.tup ds) p
  | kt {a : Addr} {vs : List V} {ds : List D} : (∀ G : Hp, SqT K G a vs) → RL K H M vs ds [] → R K H M (.ref a) (.kt ds) []
  | lstM {a : Addr} {vs : List V} {ds : List D} {p : List Addr} : H a = some (.lst vs) → M a → a ∉ p → RL K H M vs ds p → R K H M (.ref a) (.lst true ds) (a :: p)
  | lstF {a : Addr} {vs : List V} {ds : List D} : H a = some (.lst vs) → ¬ M a → RL K H M vs ds [] → R K H M (.ref a) (.lst false ds) []
  | frl {a : Addr} {vs : List V} {ds : List D} {o : Obj} : H a = some (.frz o (.lst vs)) → ¬ M a → RL K H M vs ds [] → R K H M (.ref a) (.frl ds) []
  | frk {a : Addr} {vs : List V} {ds : List D} : (∀ G : Hp, SqL K G a vs) → RL K H M vs ds [] → R K H M (.ref a) (.frl ds) []
  | dKM {a : Addr} {kvs : List (Key × V)} {ds : List D} {p : List Addr} : H a = some (.dK kvs) → M a → a ∉ p → RL K H M (kvs.map (·.2)) ds p → R K H M (.ref a) (.dct true .flat (kvs.map fun q => kD q.1) ds) (a :: p)
  | dKF {a : Addr} {kvs : List (Key × V)} {ds : List D} : H a = some (.dK kvs) → ¬ M a → RL K H M (kvs.map (·.2)) ds [] → R K H M (.ref a) (.dct false .flat (kvs.map fun q => kD q.1) ds) []
  | dTM {a : Addr} {kvs : List (List Key × V)} {ds : List D} {p : List Addr} : H a = some (.dT kvs) → M a → a ∉ p → RL K H M (kvs.map (·.2)) ds p → R K H M (.ref a) (.dct true .tup (kvs.map fun q => .tup (q.1.map kD)) ds) (a :: p)
  | dTF {a : Addr} {kvs : List (List Key × V)} {ds : List D} : H a = some (.dT kvs) → ¬ M a → RL K H M (kvs.map (·.2)) ds [] → R K H M (.ref a) (.dct false .tup (kvs.map fun q => .tup (q.1.map kD)) ds) []
  | objM {a C dx : Addr} {fs : List (Str × V)} {ds : List D} {p : List Addr} : H a = some (.ins C dx fs) → M a → a ∉ p → RL K H M (fs.map (·.2)) ds p → R K H M (.ref a) (.obj true C (fs.map (·.1)) ds) (a :: p)
  | objF {a C dx : Addr} {fs : List (Str × V)} {ds : List D} : H a = some (.ins C dx fs) → ¬ M a → RL K H M (fs.map (·.2)) ds [] → R K H M (.ref a) (.obj false C (fs.map (·.1)) ds) []
inductive RL (K : PySem.W.Frag) (H : Hp) (M : ASet) : List V → List D → List Addr → Prop
  | nil : RL K H M [] [] []
  | cons {v : V} {d : D} {p : List Addr} {vs : List V} {ds : List D} {ps : List Addr} : R K H M v d p → RL K H M vs ds ps → (∀ a ∈ p, a ∉ ps) → RL K H M (v :: vs) (d :: ds) (p ++ ps)
end

section
variable {K : PySem.W.Frag} {H H' : Hp} {M M' : ASet}

theorem RL.cons0 {v : V} {d : D} {vs : List V} {ds : List D} (a : R K H M v d []) (b : RL K H M vs ds []) : RL K H M (v :: vs) (d :: ds) [] :=
  RL.cons (p := []) (ps := []) a b (fun _ h => nomatch h)
theorem RL.len : ∀ {vs : List V} {ds : List D} {p : List Addr}, RL K H M vs ds p → vs.length = ds.length
  | _, _, _, .nil => rfl
  | _, _, _, .cons _ t _ => by simp [RL.len t]
theorem Rd.stay {a : Addr} {u : HO} (h : Rd H a u) (k : ∀ o, H a = some o → H' a = some o) : Rd H' a u := by
  rcases h with h | ⟨o, h⟩
  · exact .inl (k _ h)
  · exact .inr ⟨o, k _ h⟩
theorem Rd.ex {a : Addr} {u : HO} (h : Rd H a u) : ∃ o, H a = some o := by
  rcases h with h | ⟨o, h⟩
  · exact ⟨_, h⟩
  · exact ⟨_, h⟩
/-- a set of addresses whose objects are known and may be untracked only outside -/
theorem notM {a : Addr} (hM : ∀ b, M' b → M b ∨ H b = none) (h : ¬ M a) {o : HO} (e : H a = some o) : ¬ M' a := fun z => by
  rcases hM a z with q | q
  · exact h q
  · rw [q] at e; cases e
end

/-- what carries a description over from one heap to another -/
structure Carry (H H' : Hp) (M M' : ASet) (p : List Addr) : Prop where
  keep : ∀ a o, H a = some o → a ∈ p ∨ ¬ M a → H' a = some o
  set : ∀ a, M' a → M a ∨ H a = none
  own : ∀ a ∈ p, M' a
theorem Carry.sub {H H' : Hp} {M M' : ASet} {p q : List Addr} (c : Carry H H' M M' p) (h : ∀ a ∈ q, a ∈ p) : Carry H H' M M' q :=
  ⟨fun a o e z => c.keep a o e (z.imp (h a) id), c.set, fun a z => c.own a (h a z)⟩
theorem Carry.left {H H' : Hp} {M M' : ASet} {p q : List Addr} (c : Carry H H' M M' (p ++ q)) : Carry H H' M M' p := c.sub fun _ h => List.mem_append_left _ h
theorem Carry.right {H H' : Hp} {M M' : ASet} {p q : List Addr} (c : Carry H H' M M' (p ++ q)) : Carry H H' M M' q := c.sub fun _ h => List.mem_append_right _ h
theorem Carry.tail {H H' : Hp} {M M' : ASet} {a : Addr} {p : List Addr} (c : Carry H H' M M' (a :: p)) : Carry H H' M M' p := c.sub fun _ h => List.mem_cons_of_mem _ h

theorem Carry.rd {H H' : Hp} {M M' : ASet} {p : List Addr} {a : Addr} {u : HO} (c : Carry H H' M M' p) (h : Rd H a u) (n : ¬ M a) : Rd H' a u ∧ ¬ M' a := by
  obtain ⟨o, e⟩ := Rd.ex h
  exact ⟨Rd.stay h fun o e => c.keep a o e (.inr n), DL.notM c.set n e⟩
theorem Carry.no {H H' : Hp} {M M' : ASet} {p : List Addr} {a : Addr} {o : HO} (c : Carry H H' M M' p) (h : H a = some o) (n : ¬ M a) : H' a = some o ∧ ¬ M' a :=
  ⟨c.keep a o h (.inr n), DL.notM c.set n h⟩

section
variable {K : PySem.W.Frag} {H H' : Hp} {M M' : ASet}
mutual
theorem R.carry : ∀ {v : V} {d : D} {p : List Addr}, R K H M v d p → Carry H H' M M' p → R K H' M' v d p
  | _, _, _, .non, _ => .non
  | _, _, _, .bl b, _ => .bl b
  | _, _, _, .int i, _ => .int i
  | _, _, _, .str s, _ => .str s
  | _, _, _, .any v, _ => .any v
  | _, _, _, .tup h n t, c => .tup (c.no h n).1 (c.no h n).2 (RL.carry t c)
  | _, _, _, .kt h t, c => .kt h (RL.carry t c)
  | _, _, _, .lstM h _ na t, c => .lstM (c.keep _ _ h (.inl (List.mem_cons_self ..))) (c.own _ (List.mem_cons_self ..)) na (RL.carry t c.tail)
  | _, _, _, .lstF h n t, c => .lstF (c.no h n).1 (c.no h n).2 (RL.carry t c)
  | _, _, _, .frl h n t, c => .frl (c.no h n).1 (c.no h n).2 (RL.carry t c)
  | _, _, _, .frk h t, c => .frk h (RL.carry t c)
  | _, _, _, .dKM h _ na t, c => .dKM (c.keep _ _ h (.inl (List.mem_cons_self ..))) (c.own _ (List.mem_cons_self ..)) na (RL.carry t c.tail)
  | _, _, _, .dKF h n t, c => .dKF (c.no h n).1 (c.no h n).2 (RL.carry t c)
  | _, _, _, .dTM h _ na t, c => .dTM (c.keep _ _ h (.inl (List.mem_cons_self ..))) (c.own _ (List.mem_cons_self ..)) na (RL.carry t c.tail)
  | _, _, _, .dTF h n t, c => .dTF (c.no h n).1 (c.no h n).2 (RL.carry t c)
  | _, _, _, .objM h _ na t, c => .objM (c.keep _ _ h (.inl (List.mem_cons_self ..))) (c.own _ (List.mem_cons_self ..)) na (RL.carry t c.tail)
  | _, _, _, .objF h n t, c => .objF (c.no h n).1 (c.no h n).2 (RL.carry t c)
theorem RL.carry : ∀ {vs : List V} {ds : List D} {p : List Addr}, RL K H M vs ds p → Carry H H' M M' p → RL K H' M' vs ds p
  | _, _, _, .nil, _ => .nil
  | _, _, _, .cons h t n, c => .cons (R.carry h c.left) (RL.carry t c.right) n
end
mutual
theorem R.mem : ∀ {v : V} {d : D} {p : List Addr}, R K H M v d p → ∀ a ∈ p, M a
  | _, _, _, .non, _, h => nomatch h
  | _, _, _, .bl b, _, h => nomatch h
  | _, _, _, .int i, _, h => nomatch h
  | _, _, _, .str s, _, h => nomatch h
  | _, _, _, .any v, _, h => nomatch h
  | _, _, _, .tup _ _ t, a, h => RL.mem t a h
  | _, _, _, .kt _ _, _, h => nomatch h
  | _, _, _, .lstM _ m _ t, a, h => (List.mem_cons.mp h).elim (fun e => e ▸ m) (RL.mem t a)
  | _, _, _, .lstF _ _ _, _, h => nomatch h
  | _, _, _, .frl _ _ _, _, h => nomatch h
  | _, _, _, .frk _ _, _, h => nomatch h
  | _, _, _, .dKM _ m _ t, a, h => (List.mem_cons.mp h).elim (fun e => e ▸ m) (RL.mem t a)
  | _, _, _, .dKF _ _ _, _, h => nomatch h
  | _, _, _, .dTM _ m _ t, a, h => (List.mem_cons.mp h).elim (fun e => e ▸ m) (RL.mem t a)
  | _, _, _, .dTF _ _ _, _, h => nomatch h
  | _, _, _, .objM _ m _ t, a, h => (List.mem_cons.mp h).elim (fun e => e ▸ m) (RL.mem t a)
  | _, _, _, .objF _ _ _, _, h => nomatch h
theorem RL.mem : ∀ {vs : List V} {ds : List D} {p : List Addr}, RL K H M vs ds p → ∀ a ∈ p, M a
  | _, _, _, .nil, _, h => nomatch h
  | _, _, _, .cons h t _, a, z => (List.mem_append.mp z).elim (R.mem h a) (RL.mem t a)
end
mutual
theorem R.sh0 : ∀ {v : V} {d : D} {p : List Addr}, R K H M v d p → d.sh = true → p = []
  | _, _, _, .non, _ => rfl
  | _, _, _, .bl b, _ => rfl
  | _, _, _, .int i, _ => rfl
  | _, _, _, .str s, _ => rfl
  | _, _, _, .any v, _ => rfl
  | _, _, _, .tup _ _ t, h => RL.sh0 t (by simpa only [D.sh] using h)
  | _, _, _, .kt _ _, _ => rfl
  | _, _, _, .lstM _ _ _ _, h => by simp [D.sh] at h
  | _, _, _, .lstF _ _ _, _ => rfl
  | _, _, _, .frl _ _ _, _ => rfl
  | _, _, _, .frk _ _, _ => rfl
  | _, _, _, .dKM _ _ _ _, h => by simp [D.sh] at h
  | _, _, _, .dKF _ _ _, _ => rfl
  | _, _, _, .dTM _ _ _ _, h => by simp [D.sh] at h
  | _, _, _, .dTF _ _ _, _ => rfl
  | _, _, _, .objM _ _ _ _, h => by simp [D.sh] at h
  | _, _, _, .objF _ _ _, _ => rfl
theorem RL.sh0 : ∀ {vs : List V} {ds : List D} {p : List Addr}, RL K H M vs ds p → shL ds = true → p = []
  | _, _, _, .nil, _ => rfl
  | _, _, _, .cons h t _, z => by
    simp only [shL, Bool.and_eq_true] at z
    rw [R.sh0 h z.1, RL.sh0 t z.2]; rfl
end
/-- frozen: its own addresses are no longer written -/
structure Freeze (H : Hp) (M M' : ASet) (p : List Addr) : Prop where
  sub : ∀ a, M' a → M a ∨ H a = none
  off : ∀ a ∈ p, ¬ M' a
theorem Freeze.left {p q : List Addr} (c : Freeze H M M' (p ++ q)) : Freeze H M M' p := ⟨c.sub, fun a h => c.off a (List.mem_append_left _ h)⟩
theorem Freeze.right {p q : List Addr} (c : Freeze H M M' (p ++ q)) : Freeze H M M' q := ⟨c.sub, fun a h => c.off a (List.mem_append_right _ h)⟩
theorem Freeze.tail {a : Addr} {p : List Addr} (c : Freeze H M M' (a :: p)) : Freeze H M M' p := ⟨c.sub, fun b h => c.off b (List.mem_cons_of_mem _ h)⟩
theorem Freeze.hd {a : Addr} {p : List Addr} (c : Freeze H M M' (a :: p)) : ¬ M' a := c.off a (List.mem_cons_self ..)
theorem Freeze.rd {a : Addr} {u : HO} {p : List Addr} (c : Freeze H M M' p) (h : Rd H a u) (n : ¬ M a) : ¬ M' a := by
  obtain ⟨o, e⟩ := Rd.ex h
  exact DL.notM c.sub n e
theorem Freeze.no {a : Addr} {u : HO} {p : List Addr} (c : Freeze H M M' p) (h : H a = some u) (n : ¬ M a) : ¬ M' a := DL.notM c.sub n h
mutual
theorem R.freeze : ∀ {v : V} {d : D} {p : List Addr}, R K H M v d p → Freeze H M M' p → R K H M' v d.fz []
  | _, _, _, .non, _ => .non
  | _, _, _, .bl b, _ => .bl b
  | _, _, _, .int i, _ => .int i
  | _, _, _, .str s, _ => .str s
  | _, _, _, .any v, _ => .any v
  | _, _, _, .tup h n t, c => .tup h (c.no h n) (RL.freeze t c)
  | _, _, _, .kt h t, c => .kt h (RL.freeze t c)
  | _, _, _, .lstM h _ _ t, c => .lstF h c.hd (RL.freeze t c.tail)
  | _, _, _, .lstF h n t, c => .lstF h (c.no h n) (RL.freeze t c)
  | _, _, _, .frl h n t, c => .frl h (c.no h n) (RL.freeze t c)
  | _, _, _, .frk h t, c => .frk h (RL.freeze t c)
  | _, _, _, .dKM h _ _ t, c => .dKF h c.hd (RL.freeze t c.tail)
  | _, _, _, .dKF h n t, c => .dKF h (c.no h n) (RL.freeze t c)
  | _, _, _, .dTM h _ _ t, c => .dTF h c.hd (RL.freeze t c.tail)
  | _, _, _, .dTF h n t, c => .dTF h (c.no h n) (RL.freeze t c)
  | _, _, _, .objM h _ _ t, c => .objF h c.hd (RL.freeze t c.tail)
  | _, _, _, .objF h n t, c => .objF h (c.no h n) (RL.freeze t c)
theorem RL.freeze : ∀ {vs : List V} {ds : List D} {p : List Addr}, RL K H M vs ds p → Freeze H M M' p → RL K H M' vs (fzL ds) []
  | _, _, _, .nil, _ => .nil
  | _, _, _, .cons h t _, c => RL.cons0 (R.freeze h c.left) (RL.freeze t c.right)
end
theorem RL.append : ∀ {vs : List V} {ds : List D} {p : List Addr} {vs' : List V} {ds' : List D} {p' : List Addr}, RL K H M vs ds p → RL K H M vs' ds' p' → (∀ a ∈ p, a ∉ p') → RL K H M (vs ++ vs') (ds ++ ds') (p ++ p')
  | _, _, _, _, _, _, .nil, u, _ => u
  | _, _, _, _, _, _, .cons (p := p) (ps := ps) h t n, u, c => by
    rw [List.append_assoc]
    refine .cons h (RL.append t u fun a z => c a (List.mem_append_right _ z)) fun a z w => ?_
    rcases List.mem_append.mp w with w | w
    · exact n a z w
    · exact c a (List.mem_append_left _ z) w
theorem RL.get : ∀ {vs : List V} {ds : List D} {p : List Addr} {i : Nat} {d : D}, RL K H M vs ds p → ds[i]? = some d → ∃ v q, vs[i]? = some v ∧ R K H M v d q
  | _, _, _, _, _, .nil, e => by simp at e
  | _, _, _, 0, _, .cons h _ _, e => by simp at e; subst e; exact ⟨_, _, rfl, h⟩
  | _, _, _, i + 1, d, .cons _ t _, e => by
    obtain ⟨v, q, h1, h2⟩ := RL.get (i := i) (d := d) t (by simpa using e)
    exact ⟨v, q, by simpa using h1, h2⟩
theorem RL.get' {vs : List V} {ds : List D} {p : List Addr} {i : Nat} {v : V} (h : RL K H M vs ds p) (e : vs[i]? = some v) : ∃ d q, ds[i]? = some d ∧ R K H M v d q := by
  have hl := h.len
  have hi : i < ds.length := by
    have := (List.getElem?_eq_some_iff.mp e).1
    omega
  obtain ⟨v', q, h1, h2⟩ := h.get (i := i) (d := ds[i]) (List.getElem?_eq_getElem hi)
  rw [e] at h1; cases h1
  exact ⟨_, q, List.getElem?_eq_getElem hi, h2⟩
end
end DL

/-! DL1: states of slots, judgements over data, names, constants, operators, tests, blocks. -/
namespace DL
open PySem PySem.Spec L2

abbrev DS := List (Option D)
/-- all that may be written: the outer part and the slots' own -/
def MM (O : ASet) (fp : Nat → List Addr) : ASet := fun a => O a ∨ ∃ i, a ∈ fp i
/-- an outer part with temporary addresses -/
def OO (O : ASet) (p : List Addr) : ASet := fun a => O a ∨ a ∈ p
theorem OO_nil {O : ASet} : OO O [] = O := by funext a; simp [OO]
theorem OO_OO {O : ASet} {p q : List Addr} : OO (OO O p) q = OO O (p ++ q) := by
  funext a; simp only [OO, List.mem_append, eq_iff_iff, or_assoc]

structure RS (K : PySem.W.Frag) (O : ASet) (σ : St) (H : Hp) (ds : DS) (fp : Nat → List Addr) : Prop where
  len : σ.length = ds.length
  sl : ∀ i d, ds[i]? = some (some d) → ∃ v, σ[i]? = some (some v) ∧ R K H (MM O fp) v d (fp i)
  em : ∀ i, (∀ d, ds[i]? ≠ some (some d)) → fp i = []
  dj : ∀ i j a, a ∈ fp i → a ∈ fp j → i = j
  off : ∀ i a, a ∈ fp i → ¬ O a
  tr : ∀ a, MM O fp a → H a ≠ none

/-- from one state to the next: outside the slots' own addresses all stays; own addresses are old ones or new -/
structure Step (H H' : Hp) (fp fp' : Nat → List Addr) (x : List Addr) : Prop where
  keep : ∀ a o, H a = some o → (∀ i, a ∉ fp i) → H' a = some o
  org : ∀ a, ((∃ i, a ∈ fp' i) ∨ a ∈ x) → (∃ i, a ∈ fp i) ∨ H a = none

section
variable {K : PySem.W.Frag} {O O' : ASet} {σ : St} {H H' H1 H2 : Hp} {ds : DS} {fp fp' fp1 fp2 : Nat → List Addr} {x p q : List Addr}
theorem Step.refl : Step H H fp fp [] := ⟨fun _ _ h _ => h, fun _ h => .inl (h.elim id fun z => nomatch z)⟩
theorem Step.trans (a : Step H H1 fp fp1 p) (b : Step H1 H2 fp1 fp2 q) (hp : ∀ c ∈ p, ∀ i, c ∉ fp1 i) : Step H H2 fp fp2 (q ++ p) where
  keep := fun c o e n => b.keep c o (a.keep c o e n) fun i z => by
    rcases a.org c (.inl ⟨i, z⟩) with ⟨j, w⟩ | w
    · exact n j w
    · rw [w] at e; cases e
  org := fun c h => by
    have k : (∃ i, c ∈ fp1 i) ∨ H1 c = none → (∃ i, c ∈ fp i) ∨ H c = none := fun z => by
      rcases z with z | z
      · exact a.org c (.inl z)
      · cases e : H c with
        | none => exact .inr rfl
        | some o =>
          by_cases w : ∃ i, c ∈ fp i
          · exact .inl w
          · have := a.keep c o e fun i r => w ⟨i, r⟩
            rw [z] at this; cases this
    rcases h with h | h
    · exact k (b.org c (.inl h))
    · rcases List.mem_append.mp h with h | h
      · exact k (b.org c (.inr h))
      · exact a.org c (.inr h)
theorem Step.less {y : List Addr} (a : Step H H1 fp fp1 x) (h : ∀ c ∈ y, c ∈ x) : Step H H1 fp fp1 y := ⟨a.keep, fun c z => a.org c (z.imp id (h c))⟩

/-- what is held by temporaries is carried over a step of the slots -/
theorem RS.carry (r : RS K O σ H ds fp) (s : Step H H' fp fp' x) {q : List Addr} (hq : ∀ a ∈ q, O a) (hx : ∀ a, O' a → O a ∨ a ∈ x) (hO : ∀ a, O a → O' a) : Carry H H' (MM O fp) (MM O' fp') q where
  keep := fun a o e h => s.keep a o e fun i z => by
    rcases h with h | h
    · exact r.off i a z (hq a h)
    · exact h (.inr ⟨i, z⟩)
  set := fun a h => by
    rcases h with h | h
    · rcases hx a h with h | h
      · exact .inl (.inl h)
      · rcases s.org a (.inr h) with h | h
        · exact .inl (.inr h)
        · exact .inr h
    · rcases s.org a (.inl h) with h | h
      · exact .inl (.inr h)
      · exact .inr h
  own := fun a h => .inl (hO a (hq a h))
theorem RS.get {i : Nat} {d : D} (r : RS K O σ H ds fp) (e : ds[i]? = some (some d)) : ∃ v, σ[i]? = some (some v) ∧ R K H (MM O fp) v d (fp i) := r.sl i d e
/-- fewer outer addresses -/
theorem RS.outer (r : RS K O σ H ds fp) (h : ∀ a, O' a → O a) : RS K O' σ H ds fp where
  len := r.len
  sl := fun i d e => by
    obtain ⟨v, h1, h2⟩ := r.sl i d e
    exact ⟨v, h1, h2.carry ⟨fun _ _ e _ => e, fun a z => .inl (z.imp (h a) id), fun a z => .inr ⟨i, z⟩⟩⟩
  em := r.em
  dj := r.dj
  off := fun i a z w => r.off i a z (h a w)
  tr := fun a z => r.tr a (z.imp (h a) id)
end

/-! ### judgements -/
section
variable (X : Cx)
/-- an expression: a new or a shared value, the state behind it -/
def PEd (e : Expr) (f : DS → Option (D × DS)) : Prop := ∃ t, PE X e t ∧ ∀ (O : ASet) (σ : St) (H : Hp) (ds : DS) (fp : Nat → List Addr) (d : D) (ds' : DS) (Q : VK), RS X.K O σ H ds fp → f ds = some (d, ds') →
  (∀ v H' fp' p, RS X.K (OO O p) σ H' ds' fp' → R X.K H' (MM (OO O p) fp') v d p → (∀ a ∈ p, ¬ O a) → Step H H' fp fp' p → Q v H') → t σ H Q
/-- an expression that is only read: the heap stays -/
def PEb (e : Expr) (g : DS → Option D) : Prop := ∃ t, PE X e t ∧ ∀ (O : ASet) (σ : St) (H : Hp) (ds : DS) (fp : Nat → List Addr) (d : D) (Q : VK), RS X.K O σ H ds fp → g ds = some d →
  (∀ v p, R X.K H (MM O fp) v d p → Q v H) → t σ H Q
/-- an operand: a value, x its temporary addresses -/
def PEo (e : Expr) (f : DS → Option (D × DS)) : Prop := ∃ t, PE X e t ∧ ∀ (O : ASet) (σ : St) (H : Hp) (ds : DS) (fp : Nat → List Addr) (d : D) (ds' : DS) (Q : VK), RS X.K O σ H ds fp → f ds = some (d, ds') →
  (∀ v H' fp' p x, RS X.K (OO O x) σ H' ds' fp' → R X.K H' (MM (OO O x) fp') v d p → (∀ a ∈ x, ¬ O a) → Step H H' fp fp' x → Q v H') → t σ H Q
/-- a test -/
def PTd (e : Expr) (f : DS → Option (Bool × DS)) : Prop := ∃ t, PT X e t ∧ ∀ (O : ASet) (σ : St) (H : Hp) (ds : DS) (fp : Nat → List Addr) (b : Bool) (ds' : DS) (Q : Bool → Hp → Prop), RS X.K O σ H ds fp → f ds = some (b, ds') →
  (∀ H' fp', RS X.K O σ H' ds' fp' → Step H H' fp fp' [] → Q b H') → t σ H Q
def PWd (e : Expr) (f : DS → Option (Bool × DS)) : Prop := ∃ t, PW X e t ∧ ∀ (O : ASet) (σ : St) (H : Hp) (ds : DS) (fp : Nat → List Addr) (b : Bool) (ds' : DS) (Q : Bool → Hp → Prop), RS X.K O σ H ds fp → f ds = some (b, ds') →
  (∀ H' fp', RS X.K O σ H' ds' fp' → Step H H' fp fp' [] → Q b H') → t σ H Q
/-- two expressions, one behind the other -/
def P2d (a b : Expr) (f : DS → Option (D × D × DS)) : Prop := ∃ ta tb, PE X a ta ∧ PE X b tb ∧ ∀ (O : ASet) (σ : St) (H : Hp) (ds : DS) (fp : Nat → List Addr) (c d : D) (ds' : DS) (Q : V → V → Hp → Prop), RS X.K O σ H ds fp → f ds = some (c, d, ds') →
  (∀ v u H' fp' p q x, RS X.K (OO O x) σ H' ds' fp' → R X.K H' (MM (OO O x) fp') v c p → R X.K H' (MM (OO O x) fp') u d q → (∀ a ∈ x, ¬ O a) → Step H H' fp fp' x → Q v u H') →
  ta σ H fun v H1 => tb σ H1 fun u H2 => Q v u H2
end

inductive Fl where
  | nx | rt (d : D) | bk | ct
  | ex (C : Addr) (fs : List (Str × D))
/-- an exception's own fields -/
def ExD (K : PySem.W.Frag) (H : Hp) (M : ASet) (dx : Option Addr) (fs : List (Str × D)) : Prop :=
  (fs = [] ∧ dx = none) ∨ ∃ a vs, dx = some a ∧ H a = some (.xd vs) ∧ vs.map (·.1) = fs.map (·.1) ∧ RL K H M (vs.map (·.2)) (fs.map (·.2)) []
/-- what is wanted of an exception: its class, its own dict, the slots, the heap -/
abbrev WXd := Value → Option Addr → St → Hp → Prop
/-- a statement: what it leaves; W: the slots that it may store; Wx: what is wanted of an exception -/
def PostS (X : Cx) (Wx : WXd) (O : ASet) (σ : St) (H : Hp) (fp : Nat → List Addr) (W : List Nat) (Dn : Ends) (fl : Fl) (ds' : DS) : Prop :=
  match fl with
  | .nx => ∀ σ' H' fp', RS X.K O σ' H' ds' fp' → Step H H' fp fp' [] → (∀ i, i ∉ W → σ'[i]? = σ[i]?) → Dn.nx σ' H'
  | .bk => ∀ σ' H' fp', RS X.K O σ' H' ds' fp' → Step H H' fp fp' [] → (∀ i, i ∉ W → σ'[i]? = σ[i]?) → Dn.bk σ' H'
  | .ct => ∀ σ' H' fp', RS X.K O σ' H' ds' fp' → Step H H' fp fp' [] → (∀ i, i ∉ W → σ'[i]? = σ[i]?) → Dn.ct σ' H'
  | .rt d => ∀ v σ' H' fp' p, RS X.K (OO O p) σ' H' ds' fp' → R X.K H' (MM (OO O p) fp') v d p → (∀ a ∈ p, ¬ O a) → Step H H' fp fp' p → (∀ i, i ∉ W → σ'[i]? = σ[i]?) → Dn.rt v H'
  | .ex C fs => ∀ σ' H' fp' dx, RS X.K O σ' H' ds' fp' → ExD X.K H' (MM O fp') dx fs → Step H H' fp fp' [] → (∀ i, i ∉ W → σ'[i]? = σ[i]?) → Wx (.ref C) dx σ' H'
def PSd (X : Cx) (Wx : WXd) (st : Stmt) (f : DS → Option (Fl × DS)) (W : List Nat) : Prop := ∃ t, PS X st t ∧ ∀ (O : ASet) (σ : St) (H : Hp) (ds : DS) (fp : Nat → List Addr) (fl : Fl) (ds' : DS) (Dn : Ends), RS X.K O σ H ds fp → f ds = some (fl, ds') → PostS X Wx O σ H fp W Dn fl ds' → t Dn σ H
def PSsd (X : Cx) (Wx : WXd) (sts : List Stmt) (f : DS → Option (Fl × DS)) (W : List Nat) : Prop := ∃ t, PSs X sts t ∧ ∀ (O : ASet) (σ : St) (H : Hp) (ds : DS) (fp : Nat → List Addr) (fl : Fl) (ds' : DS) (Dn : Ends), RS X.K O σ H ds fp → f ds = some (fl, ds') → PostS X Wx O σ H fp W Dn fl ds' → t Dn σ H

/-! ### from one judgement to another -/
section
variable {X : Cx} {e a b : Expr}
/-- a shared value that is read -/
def dSh (g : DS → Option D) : DS → Option (D × DS) := fun ds => match g ds with
  | some d => if d.sh then some (d, ds) else none
  | none => none
theorem dSh_some {g : DS → Option D} {ds ds' : DS} {d : D} : dSh g ds = some (d, ds') ↔ g ds = some d ∧ d.sh = true ∧ ds' = ds := by
  unfold dSh
  cases g ds with
  | none => simp
  | some c =>
    simp only []
    split
    · rename_i h
      simp only [Option.some.injEq, Prod.mk.injEq]
      constructor
      · rintro ⟨rfl, rfl⟩; exact ⟨rfl, h, rfl⟩
      · rintro ⟨rfl, _, rfl⟩; exact ⟨rfl, rfl⟩
    · rename_i h
      simp only [Option.some.injEq, reduceCtorEq, false_iff, not_and]
      rintro rfl z
      exact absurd z h
theorem PEb.d {g : DS → Option D} (h : PEb X e g) : PEd X e (dSh g) := by
  obtain ⟨t, ht, s⟩ := h
  refine ⟨t, ht, fun O σ H ds fp d ds' Q r ef k => ?_⟩
  obtain ⟨e1, e2, rfl⟩ := dSh_some.mp ef
  refine s O σ H ds' fp d Q r e1 fun v p rv => ?_
  have hp := rv.sh0 e2
  subst hp
  exact k v H fp [] (by rw [OO_nil]; exact r) (by rw [OO_nil]; exact rv) (fun _ h => nomatch h) Step.refl
def dRd (g : DS → Option D) : DS → Option (D × DS) := fun ds => match g ds with
  | some d => some (d, ds)
  | none => none
theorem dRd_some {g : DS → Option D} {ds ds' : DS} {d : D} : dRd g ds = some (d, ds') ↔ g ds = some d ∧ ds' = ds := by
  unfold dRd
  cases g ds <;> simp [eq_comm]
theorem PEb.o {g : DS → Option D} (h : PEb X e g) : PEo X e (dRd g) := by
  obtain ⟨t, ht, s⟩ := h
  refine ⟨t, ht, fun O σ H ds fp d ds' Q r ef k => ?_⟩
  obtain ⟨e1, rfl⟩ := dRd_some.mp ef
  refine s O σ H ds' fp d Q r e1 fun v p rv => ?_
  exact k v H fp p [] (by rw [OO_nil]; exact r) (by rw [OO_nil]; exact rv) (fun _ h => nomatch h) Step.refl
theorem PEd.o {f : DS → Option (D × DS)} (h : PEd X e f) : PEo X e f := by
  obtain ⟨t, ht, s⟩ := h
  exact ⟨t, ht, fun O σ H ds fp d ds' Q r ef k => s O σ H ds fp d ds' Q r ef fun v H' fp' p r' rv n st => k v H' fp' p p r' rv n st⟩
/-- a value that is no longer written -/
def dFz (f : DS → Option (D × DS)) : DS → Option (D × DS) := fun ds => match f ds with
  | some (d, ds') => some (d.fz, ds')
  | none => none
theorem dFz_some {f : DS → Option (D × DS)} {ds ds' : DS} {d : D} : dFz f ds = some (d, ds') ↔ ∃ c, f ds = some (c, ds') ∧ d = c.fz := by
  unfold dFz
  cases f ds with
  | none => simp
  | some c =>
    obtain ⟨c, ds1⟩ := c
    simp only [Option.some.injEq, Prod.mk.injEq]
    constructor
    · rintro ⟨rfl, rfl⟩; exact ⟨c, ⟨rfl, rfl⟩, rfl⟩
    · rintro ⟨_, ⟨rfl, rfl⟩, rfl⟩; exact ⟨rfl, rfl⟩
theorem PEd.fz {f : DS → Option (D × DS)} (h : PEd X e f) : PEd X e (dFz f) := by
  obtain ⟨t, ht, s⟩ := h
  refine ⟨t, ht, fun O σ H ds fp d ds' Q r ef k => ?_⟩
  obtain ⟨c, e1, rfl⟩ := dFz_some.mp ef
  refine s O σ H ds fp c ds' Q r e1 fun v H' fp' p r' rv n st => ?_
  have r2 : RS X.K O σ H' ds' fp' := r'.outer fun a h => .inl h
  refine k v H' fp' [] (by rw [OO_nil]; exact r2) ?_ (fun _ h => nomatch h) (st.less fun _ h => nomatch h)
  rw [OO_nil]
  refine rv.freeze ⟨fun a h => .inl (h.imp .inl id), fun a h z => ?_⟩
  rcases z with z | ⟨i, z⟩
  · exact n a h z
  · exact r'.off i a z (.inr h)
/-- an expression's denotation may be any other that answers no more -/
theorem PEd.le {f g : DS → Option (D × DS)} (h : PEd X e f) (le : ∀ ds d ds', g ds = some (d, ds') → f ds = some (d, ds')) : PEd X e g := by
  obtain ⟨t, ht, s⟩ := h
  exact ⟨t, ht, fun O σ H ds fp d ds' Q r ef k => s O σ H ds fp d ds' Q r (le _ _ _ ef) k⟩
end
end DL

/-! DL2: slots read and stored, constants, operators. -/
namespace DL
open PySem PySem.Spec L2

def upF (fp : Nat → List Addr) (i : Nat) (p : List Addr) : Nat → List Addr := fun j => if j = i then p else fp j
theorem upF_same {fp : Nat → List Addr} {i : Nat} {p : List Addr} : upF fp i p i = p := by simp [upF]
theorem upF_ne {fp : Nat → List Addr} {i j : Nat} {p : List Addr} (h : j ≠ i) : upF fp i p j = fp j := by simp [upF, h]
theorem upF_mem {fp : Nat → List Addr} {i j : Nat} {p : List Addr} {a : Addr} (h : a ∈ upF fp i p j) : (j = i ∧ a ∈ p) ∨ (j ≠ i ∧ a ∈ fp j) := by
  by_cases e : j = i
  · subst e; rw [upF_same] at h; exact .inl ⟨rfl, h⟩
  · rw [upF_ne e] at h; exact .inr ⟨e, h⟩

section
variable {K : PySem.W.Frag} {O O' : ASet} {σ : St} {H H' H1 H2 : Hp} {ds : DS} {fp fp' fp1 fp2 : Nat → List Addr} {x p q : List Addr}
mutual
theorem R.trk {K : PySem.W.Frag} {H : Hp} {M : ASet} : ∀ {v : V} {d : D} {p : List Addr}, R K H M v d p → ∀ a ∈ p, H a ≠ none
  | _, _, _, .non, _, h => nomatch h
  | _, _, _, .bl b, _, h => nomatch h
  | _, _, _, .int i, _, h => nomatch h
  | _, _, _, .str s, _, h => nomatch h
  | _, _, _, .any v, _, h => nomatch h
  | _, _, _, .tup _ _ t, a, h => RL.trk t a h
  | _, _, _, .kt _ _, _, h => nomatch h
  | _, _, _, .lstM e m _ t, a, h => (List.mem_cons.mp h).elim (fun z => z ▸ (by rw [e]; exact fun w => nomatch w)) (RL.trk t a)
  | _, _, _, .lstF _ _ _, _, h => nomatch h
  | _, _, _, .frl _ _ _, _, h => nomatch h
  | _, _, _, .frk _ _, _, h => nomatch h
  | _, _, _, .dKM e m _ t, a, h => (List.mem_cons.mp h).elim (fun z => z ▸ (by rw [e]; exact fun w => nomatch w)) (RL.trk t a)
  | _, _, _, .dKF _ _ _, _, h => nomatch h
  | _, _, _, .dTM e m _ t, a, h => (List.mem_cons.mp h).elim (fun z => z ▸ (by rw [e]; exact fun w => nomatch w)) (RL.trk t a)
  | _, _, _, .dTF _ _ _, _, h => nomatch h
  | _, _, _, .objM e m _ t, a, h => (List.mem_cons.mp h).elim (fun z => z ▸ (by rw [e]; exact fun w => nomatch w)) (RL.trk t a)
  | _, _, _, .objF _ _ _, _, h => nomatch h
theorem RL.trk {K : PySem.W.Frag} {H : Hp} {M : ASet} : ∀ {vs : List V} {ds : List D} {p : List Addr}, RL K H M vs ds p → ∀ a ∈ p, H a ≠ none
  | _, _, _, .nil, _, h => nomatch h
  | _, _, _, .cons h t _, a, z => (List.mem_append.mp z).elim (R.trk h a) (RL.trk t a)
end
/-- fewer writable addresses, the value's own among them -/
theorem R.fewer {M M' : ASet} {v : V} {d : D} (r : R K H M v d p) (h : ∀ a, M' a → M a) (own : ∀ a ∈ p, M' a) : R K H M' v d p :=
  r.carry ⟨fun _ _ e _ => e, fun a z => .inl (h a z), own⟩
theorem RL.fewer {M M' : ASet} {vs : List V} {ds : List D} (r : RL K H M vs ds p) (h : ∀ a, M' a → M a) (own : ∀ a ∈ p, M' a) : RL K H M' vs ds p :=
  r.carry ⟨fun _ _ e _ => e, fun a z => .inl (h a z), own⟩
/-- new objects are laid -/
theorem R.more {M M' : ASet} {v : V} {d : D} (r : R K H M v d p) (k : ∀ a o, H a = some o → H' a = some o) (h : ∀ a, M' a → M a ∨ H a = none) (own : ∀ a ∈ p, M' a) : R K H' M' v d p :=
  r.carry ⟨fun a o e _ => k a o e, h, own⟩
theorem RL.more {M M' : ASet} {vs : List V} {ds : List D} (r : RL K H M vs ds p) (k : ∀ a o, H a = some o → H' a = some o) (h : ∀ a, M' a → M a ∨ H a = none) (own : ∀ a ∈ p, M' a) : RL K H' M' vs ds p :=
  r.carry ⟨fun a o e _ => k a o e, h, own⟩
theorem RS.more (r : RS K O σ H ds fp) (k : ∀ a o, H a = some o → H' a = some o) (h : ∀ a, O' a → O a ∨ H a = none ∧ H' a ≠ none) : RS K O' σ H' ds fp where
  len := r.len
  sl := fun i d e => by
    obtain ⟨v, h1, h2⟩ := r.sl i d e
    exact ⟨v, h1, h2.more k (fun a z => z.elim (fun z => (h a z).imp .inl And.left) fun z => .inl (.inr z)) fun a z => .inr ⟨i, z⟩⟩
  em := r.em
  dj := r.dj
  off := fun i a z w => by
    rcases h a w with w | w
    · exact r.off i a z w
    · exact r.tr a (.inr ⟨i, z⟩) w.1
  tr := fun a z => by
    have keep : H a ≠ none → H' a ≠ none := fun n => by
      cases e : H a with
      | none => exact absurd e n
      | some o => rw [k a o e]; exact fun w => nomatch w
    rcases z with z | z
    · rcases h a z with z | z
      · exact keep (r.tr a (.inl z))
      · exact z.2
    · exact keep (r.tr a (.inr z))
theorem Step.grow (s : Step H H1 fp fp1 x) (k : ∀ a o, H1 a = some o → H2 a = some o) (hz : ∀ a ∈ q, H1 a = none) : Step H H2 fp fp1 q where
  keep := fun a o e n => k a o (s.keep a o e n)
  org := fun a h => by
    rcases h with h | h
    · exact s.org a (.inl h)
    · by_cases w : ∃ i, a ∈ fp i
      · exact .inl w
      · cases e : H a with
        | none => exact .inr rfl
        | some o =>
          have := s.keep a o e fun i z => w ⟨i, z⟩
          rw [hz a h] at this; cases this
/-- a value is stored in a slot -/
theorem RS.put {i : Nat} {v : V} {d : D} (r : RS K (OO O p) σ H ds fp) (rv : R K H (MM (OO O p) fp) v d p) (n : ∀ a ∈ p, ¬ O a) (hi : i < ds.length) : RS K O (σ.set i (some v)) H (ds.set i (some d)) (upF fp i p) := by
  have sub : ∀ a, MM O (upF fp i p) a → MM (OO O p) fp a := fun a z => by
    rcases z with z | ⟨j, z⟩
    · exact .inl (.inl z)
    · rcases upF_mem z with ⟨_, z⟩ | ⟨_, z⟩
      · exact .inl (.inr z)
      · exact .inr ⟨j, z⟩
  refine ⟨by simp [r.len], fun j c e => ?_, fun j h => ?_, fun j k a h1 h2 => ?_, fun j a h => ?_, fun a z => r.tr a (sub a z)⟩
  · by_cases ej : j = i
    · subst ej
      rw [List.getElem?_set_self hi] at e
      simp only [Option.some.injEq] at e
      subst e
      refine ⟨v, List.getElem?_set_self (by rw [r.len]; exact hi), ?_⟩
      rw [upF_same]
      exact rv.fewer sub fun a z => .inr ⟨j, by rw [upF_same]; exact z⟩
    · rw [List.getElem?_set_ne (Ne.symm ej)] at e ⊢
      obtain ⟨u, h1, h2⟩ := r.sl j c e
      refine ⟨u, h1, ?_⟩
      rw [upF_ne ej]
      exact h2.fewer sub fun a z => .inr ⟨j, by rw [upF_ne ej]; exact z⟩
  · by_cases ej : j = i
    · subst ej
      exact absurd (List.getElem?_set_self hi) (h d)
    · rw [upF_ne ej]
      refine r.em j fun c e => h c ?_
      rw [List.getElem?_set_ne (Ne.symm ej)]; exact e
  · rcases upF_mem h1 with ⟨e1, h1⟩ | ⟨e1, h1⟩ <;> rcases upF_mem h2 with ⟨e2, h2⟩ | ⟨e2, h2⟩
    · rw [e1, e2]
    · exact absurd (.inr h1) (r.off k a h2)
    · exact absurd (.inr h2) (r.off j a h1)
    · exact r.dj j k a h1 h2
  · rcases upF_mem h with ⟨_, h⟩ | ⟨_, h⟩
    · exact n a h
    · exact fun z => r.off j a h (.inl z)
/-- a slot's value is taken out of it -/
theorem RS.take {i : Nat} {d : D} (r : RS K O σ H ds fp) (e : ds[i]? = some (some d)) : ∃ v, σ[i]? = some (some v) ∧ RS K (OO O (fp i)) σ H (ds.set i none) (upF fp i []) ∧ R K H (MM (OO O (fp i)) (upF fp i [])) v d (fp i) := by
  obtain ⟨v, h1, h2⟩ := r.sl i d e
  have sub : ∀ a, MM (OO O (fp i)) (upF fp i []) a → MM O fp a := fun a z => by
    rcases z with (z | z) | ⟨j, z⟩
    · exact .inl z
    · exact .inr ⟨i, z⟩
    · rcases upF_mem z with ⟨_, z⟩ | ⟨_, z⟩
      · exact nomatch z
      · exact .inr ⟨j, z⟩
  refine ⟨v, h1, ⟨by simp [r.len], fun j c e => ?_, fun j h => ?_, fun j k a h1 h2 => ?_, fun j a h => ?_, fun a z => r.tr a (sub a z)⟩, h2.fewer sub fun a z => .inl (.inr z)⟩
  · by_cases ej : j = i
    · subst ej
      rw [List.getElem?_set] at e
      split at e
      · split at e <;> cases e
      · exact absurd rfl (by assumption)
    · rw [List.getElem?_set_ne (Ne.symm ej)] at e
      obtain ⟨u, h1, h2⟩ := r.sl j c e
      refine ⟨u, h1, ?_⟩
      rw [upF_ne ej]
      exact h2.fewer sub fun a z => .inr ⟨j, by rw [upF_ne ej]; exact z⟩
  · by_cases ej : j = i
    · subst ej; exact upF_same
    · rw [upF_ne ej]
      refine r.em j fun c e => h c ?_
      rw [List.getElem?_set_ne (Ne.symm ej)]; exact e
  · rcases upF_mem h1 with ⟨_, h1⟩ | ⟨_, h1⟩
    · exact nomatch h1
    · rcases upF_mem h2 with ⟨_, h2⟩ | ⟨_, h2⟩
      · exact nomatch h2
      · exact r.dj j k a h1 h2
  · rcases upF_mem h with ⟨_, h⟩ | ⟨ej, h⟩
    · exact nomatch h
    · rintro (z | z)
      · exact r.off j a h z
      · exact ej (r.dj j i a h z)
theorem Step.putF {i : Nat} (s : Step H H' fp fp1 p) (sub : ∀ a ∈ q, a ∈ p ∨ ∃ j, a ∈ fp1 j) : Step H H' fp (upF fp1 i q) [] := ⟨s.keep, fun a h => by
  rcases h with ⟨j, h⟩ | h
  · rcases upF_mem h with ⟨_, h⟩ | ⟨_, h⟩
    · rcases sub a h with h | h
      · exact s.org a (.inr h)
      · exact s.org a (.inl h)
    · exact s.org a (.inl ⟨j, h⟩)
  · exact nomatch h⟩
end

/-! ### names and constants -/
section
variable {X : Cx}
def dNm (i : Nat) : DS → Option D := fun ds => match ds[i]? with
  | some (some d) => some d
  | _ => none
theorem dNm_some {i : Nat} {ds : DS} {d : D} : dNm i ds = some d ↔ ds[i]? = some (some d) := by
  unfold dNm
  split
  · rename_i c e; rw [e]; simp
  · rename_i h
    constructor
    · intro z; cases z
    · intro z; exact absurd z (h d)
theorem b_nm (i : Nat) {x : Str} {pos : Pos} (hN : X.N[i]? = some x := by rfl) (hv : Vis X.env.scope x := by first | exact Or.inl rfl | exact Or.inr (Or.inl rfl) | exact Or.inr (Or.inr rfl)) (hd : (x == ("__debug__" : Str)) = false := by decide)
    (hcd : (x == ("__classdict__" : Str)) = false := by decide) : PEb X (.Name x pos) (dNm i) := by
  refine ⟨_, pe_var hN hv hd hcd, fun O σ H ds fp d Q r e k => ?_⟩
  obtain ⟨v, h1, h2⟩ := r.sl i d (dNm_some.mp e)
  exact ⟨v, h1, k v _ h2⟩
/-- a name's value, no longer written from here on -/
def dFr (i : Nat) : DS → Option (D × DS) := fun ds => match ds[i]? with
  | some (some d) => some (d.fz, ds.set i (some d.fz))
  | _ => none
theorem e_fr (i : Nat) {x : Str} {pos : Pos} (hN : X.N[i]? = some x := by rfl) (hv : Vis X.env.scope x := by first | exact Or.inl rfl | exact Or.inr (Or.inl rfl) | exact Or.inr (Or.inr rfl)) (hd : (x == ("__debug__" : Str)) = false := by decide)
    (hcd : (x == ("__classdict__" : Str)) = false := by decide) : PEd X (.Name x pos) (dFr i) := by
  refine ⟨_, pe_var hN hv hd hcd, fun O σ H ds fp d ds' Q r e k => ?_⟩
  unfold dFr at e
  split at e
  · rename_i c ec
    simp only [Option.some.injEq, Prod.mk.injEq] at e
    obtain ⟨rfl, rfl⟩ := e
    obtain ⟨v, h1, r1, rv⟩ := r.take ec
    have hi : i < (ds.set i none).length := by
      rw [List.length_set]; exact (List.getElem?_eq_some_iff.mp ec).1
    have rf : R X.K H (MM (OO O []) (upF fp i [])) v c.fz [] := by
      refine rv.freeze ⟨fun a z => .inl ?_, fun a ha z => ?_⟩
      · rcases z with (z | z) | z
        · exact .inl (.inl z)
        · exact nomatch z
        · exact .inr z
      · rcases z with (z | z) | ⟨j, z⟩
        · exact r.off i a ha z
        · exact nomatch z
        · exact r1.off j a z (.inr ha)
    have r2 : RS X.K (OO O []) σ H (ds.set i none) (upF fp i []) := r1.outer fun a z => z.elim .inl fun w => nomatch w
    have r3 := r2.put rf (fun _ z => nomatch z) hi
    have es : σ.set i (some v) = σ := by
      refine List.ext_getElem? fun j => ?_
      rw [List.getElem?_set]
      split
      · subst_vars
        split
        · rw [h1]
        · rename_i z
          exact absurd (List.getElem?_eq_some_iff.mp h1).1 z
      · rfl
    rw [es, List.set_set] at r3
    have ef : upF (upF fp i []) i [] = upF fp i [] := by
      funext j; unfold upF; split <;> rfl
    rw [ef] at r3
    refine ⟨v, h1, k v H (upF fp i []) [] (by rw [OO_nil]; exact r3) (by rw [OO_nil] at rf ⊢; exact rf) (fun _ z => nomatch z) ?_⟩
    exact Step.putF (p := []) Step.refl fun a z => nomatch z
  · cases e
def dC (d : D) : DS → Option D := fun _ => some d
theorem b_int {i : Int} {j pos} : PEb X (.Constant (.int i) j pos) (dC (.int i)) :=
  ⟨_, pe_int, fun O σ H ds fp d Q r e k => by cases e; exact k _ [] (.int i)⟩
theorem b_bl {b : Bool} {j pos} : PEb X (.Constant (.bool b) j pos) (dC (.bl b)) :=
  ⟨_, pe_bl, fun O σ H ds fp d Q r e k => by cases e; exact k _ [] (.bl b)⟩
theorem b_non {j pos} : PEb X (.Constant .none j pos) (dC .non) :=
  ⟨_, pe_non, fun O σ H ds fp d Q r e k => by cases e; exact k _ [] .non⟩
theorem b_str {x : Str} {j pos} : PEb X (.Constant (.str x) j pos) (dC (.str x)) :=
  ⟨_, pe_str, fun O σ H ds fp d Q r e k => by cases e; exact k _ [] (.str x)⟩

/-! ### two operands -/
variable {a b : Expr}
def dP (f g : DS → Option (D × DS)) : DS → Option (D × D × DS) := fun ds => (f ds).bind fun r => (g r.2).bind fun q => some (r.1, q.1, q.2)
theorem dP_some {f g : DS → Option (D × DS)} {ds ds2 : DS} {c d : D} (h : dP f g ds = some (c, d, ds2)) : ∃ ds1, f ds = some (c, ds1) ∧ g ds1 = some (d, ds2) := by
  obtain ⟨⟨c', ds1⟩, e1, h⟩ := Option.bind_eq_some_iff.mp h
  obtain ⟨⟨d', ds2'⟩, e2, h⟩ := Option.bind_eq_some_iff.mp h
  cases h
  exact ⟨ds1, e1, e2⟩
theorem p2_dd {f g : DS → Option (D × DS)} (ha : PEd X a f) (hb : PEo X b g) : P2d X a b (dP f g) := by
  obtain ⟨ta, ha, sa⟩ := ha
  obtain ⟨tb, hb, sb⟩ := hb
  refine ⟨ta, tb, ha, hb, fun O σ H ds fp c d ds' Q r e k => ?_⟩
  obtain ⟨ds1, e1, e2⟩ := dP_some e
  refine sa O σ H ds fp c ds1 _ r e1 fun v H1 fp1 p r1 rv n1 s1 => ?_
  refine sb (OO O p) σ H1 ds1 fp1 d ds' _ r1 e2 fun u H2 fp2 q x r2 ru n2 s2 => ?_
  rw [OO_OO] at r2 ru
  have cv := r1.carry (O' := OO O (p ++ x)) s2 (q := p) (fun a z => .inr z) (fun a z => z.elim (fun z => .inl (.inl z)) fun z => (List.mem_append.mp z).imp .inr id) (fun a z => z.elim .inl fun z => .inr (List.mem_append_left _ z))
  refine k v u H2 fp2 p q (p ++ x) r2 (rv.carry cv) ru (fun a z => (List.mem_append.mp z).elim (n1 a) fun z w => n2 a z (.inl w)) ?_
  exact (s1.trans s2 fun a z i w => r1.off i a w (.inr z)).less fun a z => List.mem_append.mpr (List.mem_append.mp z).symm
/-- the right operand is only read -/
def dPb (f : DS → Option (D × DS)) (g : DS → Option D) : DS → Option (D × D × DS) := fun ds => (f ds).bind fun r => (g r.2).bind fun d => some (r.1, d, r.2)
theorem dPb_some {f : DS → Option (D × DS)} {g : DS → Option D} {ds ds2 : DS} {c d : D} (h : dPb f g ds = some (c, d, ds2)) : f ds = some (c, ds2) ∧ g ds2 = some d := by
  obtain ⟨⟨c', ds1⟩, e1, h⟩ := Option.bind_eq_some_iff.mp h
  obtain ⟨d', e2, h⟩ := Option.bind_eq_some_iff.mp h
  cases h
  exact ⟨e1, e2⟩
theorem p2_ob {f : DS → Option (D × DS)} {g : DS → Option D} (ha : PEo X a f) (hb : PEb X b g) : P2d X a b (dPb f g) := by
  obtain ⟨ta, ha, sa⟩ := ha
  obtain ⟨tb, hb, sb⟩ := hb
  refine ⟨ta, tb, ha, hb, fun O σ H ds fp c d ds' Q r e k => ?_⟩
  obtain ⟨e1, e2⟩ := dPb_some e
  refine sa O σ H ds fp c ds' _ r e1 fun v H1 fp1 p x r1 rv n1 s1 => ?_
  exact sb (OO O x) σ H1 ds' fp1 d _ r1 e2 fun u q ru => k v u H1 fp1 p q x r1 rv ru n1 s1
/-- the left operand is a name, read behind the right one -/
def dPn (i : Nat) (g : DS → Option (D × DS)) : DS → Option (D × D × DS) := fun ds => (dNm i ds).bind fun _ => (g ds).bind fun r => (dNm i r.2).bind fun c => some (c, r.1, r.2)
theorem dPn_some {i : Nat} {g : DS → Option (D × DS)} {ds ds2 : DS} {c d : D} (h : dPn i g ds = some (c, d, ds2)) : (∃ c0, dNm i ds = some c0) ∧ g ds = some (d, ds2) ∧ dNm i ds2 = some c := by
  obtain ⟨c0, e0, h⟩ := Option.bind_eq_some_iff.mp h
  obtain ⟨⟨c', ds1⟩, e1, h⟩ := Option.bind_eq_some_iff.mp h
  obtain ⟨d', e2, h⟩ := Option.bind_eq_some_iff.mp h
  cases h
  exact ⟨⟨c0, e0⟩, e1, e2⟩
theorem p2_nm (i : Nat) {x : Str} {pos : Pos} {g : DS → Option (D × DS)} (hb : PEo X b g) (hN : X.N[i]? = some x := by rfl) (hv : Vis X.env.scope x := by first | exact Or.inl rfl | exact Or.inr (Or.inl rfl) | exact Or.inr (Or.inr rfl)) (hd : (x == ("__debug__" : Str)) = false := by decide)
    (hcd : (x == ("__classdict__" : Str)) = false := by decide) : P2d X (.Name x pos) b (dPn i g) := by
  obtain ⟨tb, hb, sb⟩ := hb
  refine ⟨_, tb, pe_var hN hv hd hcd, hb, fun O σ H ds fp c d ds' Q r e k => ?_⟩
  obtain ⟨⟨c0, e0⟩, e1, e2⟩ := dPn_some e
  obtain ⟨v, h0, _⟩ := r.sl i c0 (dNm_some.mp e0)
  refine ⟨v, h0, sb O σ H ds fp d ds' _ r e1 fun u H2 fp2 q x r2 ru n2 s2 => ?_⟩
  obtain ⟨v', h1, h2⟩ := r2.sl i c (dNm_some.mp e2)
  rw [h0] at h1; cases h1
  exact k v u H2 fp2 _ q x r2 h2 ru n2 s2
end
end DL

/-! DL3: operators by values, comparisons, calls of built-ins by values. -/
namespace DL
open PySem PySem.Spec L2

/-- what an operation by values may lean on, and what it gives: z its new addresses -/
def GiveV (K : PySem.W.Frag) (M : ASet) (H : Hp) (e : D) (Q : VK) : Prop :=
  ∀ v H' z, (∀ a o, H a = some o → H' a = some o) → (∀ a ∈ z, H a = none) → R K H' (fun a => M a ∨ a ∈ z) v e z → Q v H'
def OpD (X : Cx) (f : Value → Value → Sem Value) (op : D → D → Option D) : Prop := ∃ r : R2, OpR X f r ∧ ∀ (M : ASet) (H : Hp) (x y : V) (c d e : D) (p q : List Addr) (Q : VK), (∀ a, M a → H a ≠ none) → R X.K H M x c p → R X.K H M y d q → op c d = some e → GiveV X.K M H e Q → r x y H Q
def CallD (X : Cx) (f : Value) (F : List D → Option D) : Prop := ∃ r : List V → Hp → VK → Prop, CallR X f r ∧ ∀ (M : ASet) (H : Hp) (vs : List V) (ds : List D) (e : D) (Q : VK), (∀ a, M a → H a ≠ none) → Paired (fun v d => ∃ p, R X.K H M v d p) vs ds → F ds = some e → GiveV X.K M H e Q → r vs H Q

section
variable {X : Cx} {K : PySem.W.Frag} {M : ASet} {H : Hp} {Q : VK} {e : D}
/-- a value without objects -/
theorem GiveV.flat {v : V} (g : GiveV K M H e Q) (h : ∀ G N, R K G N v e []) : Q v H := g v H [] (fun _ _ z => z) (fun _ z => nomatch z) (h _ _)
theorem GiveV.int {i : Int} (g : GiveV K M H (.int i) Q) : Q (.int i) H := g.flat fun _ _ => .int i
theorem GiveV.bl {b : Bool} (g : GiveV K M H (.bl b) Q) : Q (.bl b) H := g.flat fun _ _ => .bl b
theorem GiveV.str {x : Str} (g : GiveV K M H (.str x) Q) : Q (.str x) H := g.flat fun _ _ => .str x
/-- a shared value that was there -/
theorem GiveV.same {v : V} {p : List Addr} (g : GiveV K M H e Q) (r : R K H M v e p) (h : e.sh = true) : Q v H := by
  have := r.sh0 h
  subst this
  exact g v H [] (fun _ _ z => z) (fun _ z => nomatch z) (r.fewer (fun a z => z.elim id fun w => nomatch w) fun _ z => nomatch z)
theorem more_upd {a : Addr} {o : HO} (hp : H a = none) : ∀ b u, H b = some u → upd H a o b = some u := fun b u e => by
  rw [upd_ne (ne_of_none e hp)]; exact e
theorem RL.sh {vs : List V} {ds : List D} {p : List Addr} (r : RL K H M vs ds p) (h : shL ds = true) : RL K H M vs ds [] := by
  have := r.sh0 h
  subst this; exact r
/-- a new tuple of shared items -/
theorem GiveV.tup {vs : List V} {ds : List D} {p : List Addr} (g : GiveV K M H (.tup ds) Q) (hM : ∀ a, M a → H a ≠ none) (r : RL K H M vs ds p) (h : shL ds = true) : ∀ a, H a = none → Q (.ref a) (upd H a (.tup vs)) := fun a ha => by
  refine g (.ref a) _ [] (more_upd ha) (fun _ z => nomatch z) (.tup upd_same (fun z => ?_) ?_)
  · rcases z with z | z
    · exact hM a z ha
    · exact nomatch z
  · exact (r.sh h).more (more_upd ha) (fun b z => z.elim .inl fun z => nomatch z) fun _ z => nomatch z
/-- a new list of shared items -/
theorem GiveV.lst {vs : List V} {ds : List D} {p : List Addr} (g : GiveV K M H (.lst true ds) Q) (hM : ∀ a, M a → H a ≠ none) (r : RL K H M vs ds p) (h : shL ds = true) : ∀ a, H a = none → Q (.ref a) (upd H a (.lst vs)) := fun a ha => by
  refine g (.ref a) _ [a] (more_upd ha) (fun b z => by rw [List.mem_singleton] at z; rw [z]; exact ha) (.lstM upd_same (.inr (List.mem_singleton.mpr rfl)) (fun z => nomatch z) ?_)
  exact (r.sh h).more (more_upd ha) (fun b z => z.elim .inl fun z => .inr (by rw [List.mem_singleton] at z; rw [z]; exact ha)) fun _ z => nomatch z

/-! ### arithmetic -/
def dI2 (C : Int → Int → Bool) (g : Int → Int → D) : D → D → Option D
  | .int i, .int j => if C i j then some (g i j) else none
  | _, _ => none
theorem opd_int {f : Value → Value → Sem Value} {C : Int → Int → Prop} {Cb : Int → Int → Bool} {g : Int → Int → Int} (ho : OpR X f (rI C fun i j => .int (g i j))) (h : ∀ i j, Cb i j = true → C i j) : OpD X f (dI2 Cb fun i j => .int (g i j)) := by
  refine ⟨_, ho, fun M H x y c d e p q Q hM rx ry eo k => ?_⟩
  cases rx <;> cases ry <;> simp only [dI2, reduceCtorEq] at eo
  rename_i i j
  split at eo
  · rename_i hc
    cases eo
    exact ⟨i, j, rfl, rfl, h i j hc, k.int⟩
  · cases eo
def tt2 : Int → Int → Bool := fun _ _ => true
theorem opd_int0 {f : Value → Value → Sem Value} {g : Int → Int → Int} (ho : OpR X f (rI0 fun i j => .int (g i j))) : OpD X f (dI2 tt2 fun i j => .int (g i j)) := by
  refine ⟨_, ho, fun M H x y c d e p q Q hM rx ry eo k => ?_⟩
  cases rx <;> cases ry <;> simp only [dI2, reduceCtorEq, tt2, if_true] at eo
  rename_i i j
  cases eo
  exact ⟨i, j, rfl, rfl, k.int⟩
theorem opd_cmp {f : Value → Value → Sem Value} {g : Int → Int → Bool} (ho : OpR X f (rI0 fun i j => .bl (g i j))) : OpD X f (dI2 tt2 fun i j => .bl (g i j)) := by
  refine ⟨_, ho, fun M H x y c d e p q Q hM rx ry eo k => ?_⟩
  cases rx <;> cases ry <;> simp only [dI2, reduceCtorEq, tt2, if_true] at eo
  rename_i i j
  cases eo
  exact ⟨i, j, rfl, rfl, k.bl⟩
/-- either of two -/
theorem OpD.or {f : Value → Value → Sem Value} {g h : D → D → Option D} (a : OpD X f g) (b : OpD X f h) : OpD X f (fun c d => (g c d).or (h c d)) := by
  obtain ⟨r, hr, sr⟩ := a
  obtain ⟨t, ht, st⟩ := b
  refine ⟨_, hr.or ht, fun M H x y c d e p q Q hM rx ry eo k => ?_⟩
  have eo : (g c d).or (h c d) = some e := eo
  cases ec : g c d with
  | none => rw [ec, Option.none_or] at eo; exact .inr (st M H x y c d e p q Q hM rx ry eo k)
  | some e' =>
    rw [ec, Option.some_or] at eo
    cases eo
    exact .inl (sr M H x y c d _ p q Q hM rx ry ec k)
theorem OpD.le {f : Value → Value → Sem Value} {g h : D → D → Option D} (a : OpD X f g) (le : ∀ c d e, h c d = some e → g c d = some e) : OpD X f h := by
  obtain ⟨r, hr, sr⟩ := a
  exact ⟨r, hr, fun M H x y c d e p q Q hM rx ry eo k => sr M H x y c d e p q Q hM rx ry (le _ _ _ eo) k⟩

def dAddS : D → D → Option D
  | .str x, .str y => if x.length + y.length ≤ sizeLine then some (.str (x ++ y)) else none
  | _, _ => none
theorem opd_adds : OpD X (binaryOp .Add) dAddS := by
  refine ⟨_, op_add_str, fun M H x y c d e p q Q hM rx ry eo k => ?_⟩
  cases rx <;> cases ry <;> simp only [dAddS, reduceCtorEq] at eo
  rename_i i j
  split at eo
  · cases eo
    exact ⟨i, j, rfl, rfl, by assumption, k.str⟩
  · cases eo
theorem SqT_of_Rd {a : Addr} {vs : List V} (h : Rd H a (.tup vs)) : SqT K H a vs := .inl h
/-- a tuple that is read -/
theorem R.tupS {v : V} {ds : List D} {p : List Addr} (r : R K H M v (.tup ds) p) : ∃ a vs, v = .ref a ∧ SqT K H a vs ∧ RL K H M vs ds p := by
  cases r with
  | tup h n t => exact ⟨_, _, rfl, .inl (.inl h), t⟩
/-- a list that is read -/
theorem R.lstS {v : V} {m : Bool} {ds : List D} {p : List Addr} (r : R K H M v (.lst m ds) p) : ∃ a vs q, v = .ref a ∧ H a = some (.lst vs) ∧ RL K H M vs ds q ∧ (∀ b ∈ q, b ∈ p) := by
  cases r with
  | lstM h n _ t => exact ⟨_, _, _, rfl, h, t, fun b z => List.mem_cons_of_mem _ z⟩
  | lstF h n t => exact ⟨_, _, _, rfl, h, t, fun b z => z⟩
def dAddT : D → D → Option D
  | .tup xs, .tup ys => if shL xs && shL ys && decide (xs.length + ys.length ≤ sizeLine) then some (.tup (xs ++ ys)) else none
  | _, _ => none
theorem rap {vs ws : List V} {xs ys : List D} {p q : List Addr} (a : RL K H M vs xs p) (b : RL K H M ws ys q) (h1 : shL xs = true) (h2 : shL ys = true) : RL K H M (vs ++ ws) (xs ++ ys) [] := by
  have := (a.sh h1).append (b.sh h2) (fun _ z => nomatch z)
  exact this
theorem opd_addt : OpD X (binaryOp .Add) dAddT := by
  refine ⟨_, op_catA, fun M H x y c d e p q Q hM rx ry eo k => ?_⟩
  unfold dAddT at eo
  split at eo
  · split at eo
    · rename_i xs ys hc
      simp only [Bool.and_eq_true, decide_eq_true_eq] at hc
      obtain ⟨⟨h1, h2⟩, h3⟩ := hc
      cases eo
      obtain ⟨a, vs, rfl, sa, ra⟩ := rx.tupS
      obtain ⟨b, ws, rfl, sb, rb⟩ := ry.tupS
      have hl := ra.len
      have hl2 := rb.len
      have rr := rap ra rb h1 h2
      have hs : shL (xs ++ ys) = true := by rw [shL_append, h1, h2]; rfl
      refine ⟨a, b, vs, ws, rfl, rfl, sa, sb, by omega, fun e => ?_, fun _ e => ?_, fun _ _ => k.tup hM rr hs⟩
      · subst e
        have : xs = [] := by cases xs with | nil => rfl | cons _ _ => simp at hl
        subst this
        exact k.same ry (by rw [D.sh]; exact h2)
      · subst e
        have : ys = [] := by cases ys with | nil => rfl | cons _ _ => simp at hl2
        subst this
        rw [List.append_nil] at k
        exact k.same rx (by rw [D.sh]; exact h1)
    · cases eo
  · cases eo

def dAddL : D → D → Option D
  | .lst _ xs, .lst _ ys => if shL xs && shL ys && decide (xs.length + ys.length ≤ sizeLine) then some (.lst true (xs ++ ys)) else none
  | _, _ => none
theorem opd_addl : OpD X (binaryOp .Add) dAddL := by
  refine ⟨_, op_cat, fun M H x y c d e p q Q hM rx ry eo k => ?_⟩
  unfold dAddL at eo
  split at eo
  · split at eo
    · rename_i m xs n ys hc
      simp only [Bool.and_eq_true, decide_eq_true_eq] at hc
      obtain ⟨⟨h1, h2⟩, h3⟩ := hc
      cases eo
      obtain ⟨a, vs, _, rfl, sa, ra, _⟩ := rx.lstS
      obtain ⟨b, ws, _, rfl, sb, rb, _⟩ := ry.lstS
      have hl := ra.len
      have hl2 := rb.len
      have rr := rap ra rb h1 h2
      have hs : shL (xs ++ ys) = true := by rw [shL_append, h1, h2]; rfl
      exact ⟨a, b, vs, ws, rfl, rfl, sa, sb, by omega, k.lst hM rr hs⟩
    · cases eo
  · cases eo
/-- + -/
def dAdd : D → D → Option D
  | .int i, .int j => some (.int (i + j))
  | .str x, .str y => if x.length + y.length ≤ sizeLine then some (.str (x ++ y)) else none
  | .tup xs, .tup ys => if shL xs && shL ys && decide (xs.length + ys.length ≤ sizeLine) then some (.tup (xs ++ ys)) else none
  | .lst _ xs, .lst _ ys => if shL xs && shL ys && decide (xs.length + ys.length ≤ sizeLine) then some (.lst true (xs ++ ys)) else none
  | _, _ => none
theorem o_add : OpD X (binaryOp .Add) dAdd := ((opd_int0 op_add).or (opd_adds.or (opd_addt.or opd_addl))).le fun c d e h => by
  unfold dAdd at h
  split at h <;> first
    | (cases h; rfl)
    | (simp only [dI2, dAddS, dAddT, dAddL, Option.none_or]; rw [h]; rfl)
    | (simp only [dI2, dAddS, dAddT, dAddL, Option.none_or]; exact h)
    | cases h
def dSub : D → D → Option D
  | .int i, .int j => some (.int (i - j))
  | _, _ => none
theorem o_sub : OpD X (binaryOp .Sub) dSub := (opd_int0 op_sub).le fun c d e h => by
  unfold dSub at h
  split at h
  · exact h
  · cases h
def mulOk (i j : Int) : Bool := decide (i.natAbs < 2 ^ 64) || decide (j.natAbs < 2 ^ 64) || decide (i.natAbs.log2 + j.natAbs.log2 < 1000000)
theorem RL.rep {vs : List V} {xs : List D} (r : RL K H M vs xs []) : ∀ n : Nat, RL K H M (List.replicate n vs).flatten (List.replicate n xs).flatten []
  | 0 => .nil
  | n + 1 => by
    rw [List.replicate_succ, List.replicate_succ, List.flatten_cons, List.flatten_cons]
    have := r.append (RL.rep r n) (fun _ z => nomatch z)
    exact this
theorem shL_rep {xs : List D} (h : shL xs = true) : ∀ n : Nat, shL (List.replicate n xs).flatten = true
  | 0 => rfl
  | n + 1 => by rw [List.replicate_succ, List.flatten_cons, shL_append, h, shL_rep h n]; rfl
def dRepL : D → D → Option D
  | .lst _ xs, .int k => if shL xs && decide (k.natAbs < 2 ^ 62) && decide (xs.length * k.toNat ≤ sizeLine) then some (.lst true (List.replicate k.toNat xs).flatten) else none
  | _, _ => none
theorem opd_repl : OpD X (binaryOp .Mult) dRepL := by
  refine ⟨_, op_rep, fun M H x y c d e p q Q hM rx ry eo k => ?_⟩
  unfold dRepL at eo
  split at eo
  · split at eo
    · rename_i m xs n hc
      simp only [Bool.and_eq_true, decide_eq_true_eq] at hc
      obtain ⟨⟨h1, h2⟩, h4⟩ := hc
      cases eo
      obtain ⟨a, vs, _, rfl, sa, ra, _⟩ := rx.lstS
      cases ry
      have hl := ra.len
      exact ⟨a, n, vs, rfl, rfl, sa, by omega, by omega, by rw [hl]; exact h4, k.lst hM ((ra.sh h1).rep _) (shL_rep h1 _)⟩
    · cases eo
  · cases eo
def dRepT : D → D → Option D
  | .tup xs, .int k => if shL xs && decide (xs ≠ []) && decide (2 ≤ k) && decide (k ≤ 1000) && decide (xs.length ≤ 1000) then some (.tup (List.replicate k.toNat xs).flatten) else none
  | _, _ => none
theorem opd_rept : OpD X (binaryOp .Mult) dRepT := by
  refine ⟨_, op_repT, fun M H x y c d e p q Q hM rx ry eo k => ?_⟩
  unfold dRepT at eo
  split at eo
  · split at eo
    · rename_i xs n hc
      simp only [Bool.and_eq_true, decide_eq_true_eq] at hc
      obtain ⟨⟨⟨⟨h1, h2⟩, h3⟩, h4⟩, h5⟩ := hc
      cases eo
      obtain ⟨a, vs, rfl, sa, ra⟩ := rx.tupS
      cases ry
      have hl := ra.len
      refine ⟨a, n, vs, rfl, rfl, sa, fun z => ?_, h3, h4, by omega, k.tup hM ((ra.sh h1).rep _) (shL_rep h1 _)⟩
      subst z
      cases xs with
      | nil => exact h2 rfl
      | cons _ _ => simp at hl
    · cases eo
  · cases eo
/-- * -/
def dMul : D → D → Option D
  | .int i, .int j => if mulOk i j then some (.int (i * j)) else none
  | .lst _ xs, .int k => if shL xs && decide (k.natAbs < 2 ^ 62) && decide (xs.length * k.toNat ≤ sizeLine) then some (.lst true (List.replicate k.toNat xs).flatten) else none
  | .tup xs, .int k => if shL xs && decide (xs ≠ []) && decide (2 ≤ k) && decide (k ≤ 1000) && decide (xs.length ≤ 1000) then some (.tup (List.replicate k.toNat xs).flatten) else none
  | _, _ => none
theorem OpR.mulB : OpR X (binaryOp .Mult) (fun x y H Q => rI CMul (fun i j => .int (i * j)) x y H Q ∨ rI CMulW (fun i j => .int (i * j)) x y H Q) := op_mul.or op_mulW
theorem opd_muli : OpD X (binaryOp .Mult) (dI2 mulOk fun i j => .int (i * j)) := by
  refine ⟨_, OpR.mulB, fun M H x y c d e p q Q hM rx ry eo k => ?_⟩
  cases rx <;> cases ry <;> simp only [dI2, reduceCtorEq] at eo
  rename_i i j
  split at eo
  · rename_i hc
    cases eo
    simp only [mulOk, Bool.or_eq_true, Bool.and_eq_true, decide_eq_true_eq] at hc
    rcases hc with (hc | hc) | hc
    · exact .inl ⟨i, j, rfl, rfl, .inl (by omega), k.int⟩
    · exact .inl ⟨i, j, rfl, rfl, .inr (by omega), k.int⟩
    · exact .inr ⟨i, j, rfl, rfl, hc, k.int⟩
  · cases eo
theorem o_mul : OpD X (binaryOp .Mult) dMul := (opd_muli.or (opd_repl.or opd_rept)).le fun c d e h => by
  unfold dMul at h
  split at h <;> first
    | (cases h; rfl)
    | (simp only [dI2, dRepL, dRepT, Option.none_or]; rw [h]; rfl)
    | (simp only [dI2, dRepL, dRepT, Option.none_or]; exact h)
    | cases h
def divOk (j : Int) : Bool := decide (j ≠ 0) && (decide (j.natAbs < 1073741824))
/-- // -/
def dDiv : D → D → Option D
  | .int i, .int j => if divOk j then some (.int (i.fdiv j)) else if decide (0 < j) && decide (j.natAbs.log2 < 9000) then some (.int (i.fdiv j)) else none
  | _, _ => none
theorem o_div : OpD X (binaryOp .FloorDiv) dDiv := by
  refine ⟨_, op_fdivN.or op_fdivW, fun M H x y c d e p q Q hM rx ry eo k => ?_⟩
  cases rx <;> cases ry <;> simp only [dDiv, reduceCtorEq] at eo
  rename_i i j
  split at eo
  · rename_i hc
    cases eo
    simp only [divOk, Bool.and_eq_true, decide_eq_true_eq] at hc
    exact .inl ⟨i, j, rfl, rfl, hc, k.int⟩
  · split at eo
    · rename_i hc
      cases eo
      simp only [Bool.and_eq_true, decide_eq_true_eq] at hc
      refine .inr ⟨i, j, rfl, rfl, hc, ?_⟩
      show Q (V.int (i / j)) H
      rw [← Int.fdiv_eq_ediv_of_nonneg i (Int.le_of_lt hc.1)]
      exact k.int
    · cases eo
/-- % -/
def dMod : D → D → Option D
  | .int i, .int j => if j ≠ 0 then some (.int (i.fmod j)) else none
  | _, _ => none
theorem o_mod : OpD X (binaryOp .Mod) dMod := (opd_int (Cb := fun _ j => decide (j ≠ 0)) op_modN (fun i j h => of_decide_eq_true h)).le fun c d e h => by
  unfold dMod at h
  split at h
  · split at h
    · rename_i hc
      simp only [dI2]
      rw [if_pos (decide_eq_true hc)]; exact h
    · cases h
  · cases h
/-- ** -/
def dPow : D → D → Option D
  | .int i, .int j => if 0 ≤ j ∧ j ≤ 1000000 ∧ i.natAbs < 2 ^ 64 then some (.int (i ^ j.toNat)) else none
  | _, _ => none
theorem o_pow : OpD X (binaryOp .Pow) dPow := (opd_int (Cb := fun i j => decide (0 ≤ j ∧ j ≤ 1000000 ∧ i.natAbs < 2 ^ 64)) op_pow (fun i j h => by unfold CPow; exact of_decide_eq_true h)).le fun c d e h => by
  unfold dPow at h
  split at h
  · split at h
    · rename_i hc
      simp only [dI2]
      rw [if_pos (decide_eq_true hc)]; exact h
    · cases h
  · cases h
/-- << -/
def dShl : D → D → Option D
  | .int i, .int j => if 0 ≤ j ∧ j ≤ 1000000 ∧ i.natAbs < 2 ^ 64 then some (.int (i * 2 ^ j.toNat)) else none
  | _, _ => none
theorem o_shl : OpD X (binaryOp .LShift) dShl := (opd_int (Cb := fun i j => decide (0 ≤ j ∧ j ≤ 1000000 ∧ i.natAbs < 2 ^ 64)) op_shl (fun i j h => by unfold CPow; exact of_decide_eq_true h)).le fun c d e h => by
  unfold dShl at h
  split at h
  · split at h
    · rename_i hc
      simp only [dI2]
      rw [if_pos (decide_eq_true hc)]; exact h
    · cases h
  · cases h

/-! ### comparisons -/
def dCmp (g : Int → Int → Bool) : D → D → Option D
  | .int i, .int j => some (.bl (g i j))
  | _, _ => none
theorem dCmp_le {g : Int → Int → Bool} : ∀ c d e, dCmp g c d = some e → dI2 tt2 (fun i j => .bl (g i j)) c d = some e := fun c d e h => by
  unfold dCmp at h
  split at h
  · exact h
  · cases h
abbrev dLt := dCmp fun i j => decide (i < j)
abbrev dLe := dCmp fun i j => decide (i ≤ j)
abbrev dGt := dCmp fun i j => decide (j < i)
abbrev dGe := dCmp fun i j => decide (j ≤ i)
theorem o_lt0 : OpD X (compareOp .Lt) dLt := (opd_cmp op_lt).le dCmp_le
theorem o_le0 : OpD X (compareOp .LtE) dLe := (opd_cmp op_le).le dCmp_le
theorem o_gt : OpD X (compareOp .Gt) dGt := (opd_cmp op_gt).le dCmp_le
theorem o_ge : OpD X (compareOp .GtE) dGe := (opd_cmp op_ge).le dCmp_le
def dIsN : D → D → Option D
  | .any, .non => none
  | .non, .non => some (.bl true)
  | _, .non => some (.bl false)
  | _, _ => none
def dNotN : D → D → Option D
  | .any, .non => none
  | .non, .non => some (.bl false)
  | _, .non => some (.bl true)
  | _, _ => none
theorem isN_of {v : V} {d : D} {p : List Addr} (r : R K H M v d p) : (d = .any) ∨ (d = .non ∧ v = .non) ∨ (d ≠ .any ∧ d ≠ .non ∧ v ≠ .non) := by
  cases r <;> simp
theorem o_isN : OpD X (compareOp .Is) dIsN := by
  refine ⟨_, op_isN, fun M H x y c d e p q Q hM rx ry eo k => ?_⟩
  rcases isN_of rx with rfl | ⟨rfl, rfl⟩ | ⟨h1, h2, h3⟩
  · cases ry <;> simp [dIsN] at eo
  · cases ry <;> simp [dIsN] at eo
    subst eo
    exact ⟨rfl, k.bl⟩
  · rcases isN_of ry with rfl | ⟨rfl, rfl⟩ | ⟨g1, g2, g3⟩
    · cases c <;> simp [dIsN] at eo
    · have : e = .bl false := by cases c <;> simp [dIsN] at eo h1 h2 <;> exact eo.symm
      subst this
      exact ⟨rfl, by rw [decide_eq_false h3]; exact k.bl⟩
    · cases c <;> cases d <;> simp [dIsN] at eo g2
theorem o_notN : OpD X (compareOp .IsNot) dNotN := by
  refine ⟨_, op_notN, fun M H x y c d e p q Q hM rx ry eo k => ?_⟩
  rcases isN_of rx with rfl | ⟨rfl, rfl⟩ | ⟨h1, h2, h3⟩
  · cases ry <;> simp [dNotN] at eo
  · cases ry <;> simp [dNotN] at eo
    subst eo
    exact ⟨rfl, k.bl⟩
  · rcases isN_of ry with rfl | ⟨rfl, rfl⟩ | ⟨g1, g2, g3⟩
    · cases c <;> simp [dNotN] at eo
    · have : e = .bl true := by cases c <;> simp [dNotN] at eo h1 h2 <;> exact eo.symm
      subst this
      exact ⟨rfl, by rw [decide_eq_false h3]; exact k.bl⟩
    · cases c <;> cases d <;> simp [dNotN] at eo g2
end
end DL

/-! DL4: == and in over data; the rules of expressions. -/
namespace DL
open PySem PySem.Spec L2

/-! ### data compared -/
mutual
def toP : D → PyData
  | .non => .none
  | .bl b => .bool b
  | .int i => .int i
  | .str s => .str s
  | .tup xs => .tuple (toPL xs)
  | .lst _ xs => .list (toPL xs)
  | _ => .none
def toPL : List D → List PyData
  | [] => []
  | x :: xs => toP x :: toPL xs
end
mutual
/-- it can be compared: no dict, no object, not too deep -/
def okE : Nat → D → Bool
  | _, .non => true
  | _, .bl _ => true
  | _, .int _ => true
  | _, .str s => SeqAt.shaped (.str s)
  | n, .tup xs => (match n with | 0 => false | m + 1 => okEL m xs)
  | n, .lst _ xs => (match n with | 0 => false | m + 1 => okEL m xs)
  | _, _ => false
def okEL : Nat → List D → Bool
  | _, [] => true
  | n, x :: xs => okE n x && okEL n xs
end
mutual
def eqvD : D → D → Bool
  | .non, .non => true
  | .bl a, .bl b => a == b
  | .bl a, .int j => (if a then 1 else 0) == j
  | .int i, .bl b => i == (if b then 1 else 0)
  | .int i, .int j => i == j
  | .str x, .str y => x == y
  | .tup xs, .tup ys => eqvDL xs ys
  | .lst _ xs, .lst _ ys => eqvDL xs ys
  | _, _ => false
def eqvDL : List D → List D → Bool
  | [], [] => true
  | x :: xs, y :: ys => eqvD x y && eqvDL xs ys
  | _, _ => false
end
theorem toPL_map : ∀ xs : List D, toPL xs = xs.map toP
  | [] => rfl
  | x :: xs => by simp [toPL, toPL_map xs]
mutual
theorem okE_lay : ∀ (n : Nat) (d : D), okE n d = true → (toP d).canLay0 = true ∧ (toP d).depth ≤ n
  | n, .non, _ | n, .bl _, _ | n, .int _, _ => by simp [toP, PyData.canLay0, PyData.depth]
  | n, .str s, h => by
    simp only [okE] at h
    refine ⟨by simpa [toP] using SeqAt.canLay_of_shaped h, ?_⟩
    simp [toP, PyData.depth]
  | 0, .tup xs, h => by simp [okE] at h
  | n + 1, .tup xs, h => by
    simp only [okE] at h
    have := okEL_lay n xs h
    simp only [toP, PyData.canLay0, PyData.depth]
    exact ⟨this.1, Nat.succ_le_succ this.2⟩
  | 0, .lst _ xs, h => by simp [okE] at h
  | n + 1, .lst _ xs, h => by
    simp only [okE] at h
    have := okEL_lay n xs h
    simp only [toP, PyData.canLay0, PyData.depth]
    exact ⟨this.1, Nat.succ_le_succ this.2⟩
  | _, .dct _ _ _ _, h => by simp [okE] at h
  | _, .obj _ _ _ _, h => by simp [okE] at h
  | _, .frl _, h => by simp [okE] at h
  | _, .kt _, h => by simp [okE] at h
  | _, .any, h => by simp [okE] at h
theorem okEL_lay : ∀ (n : Nat) (xs : List D), okEL n xs = true → PyData.canLayAll0 (toPL xs) = true ∧ PyData.depthAll (toPL xs) ≤ n
  | _, [], _ => by simp [toPL, PyData.canLayAll0, PyData.depthAll]
  | n, x :: xs, h => by
    simp only [okEL, Bool.and_eq_true] at h
    have a := okE_lay n x h.1
    have b := okEL_lay n xs h.2
    simp only [toPL, PyData.canLayAll0, PyData.depthAll, Bool.and_eq_true]
    exact ⟨⟨a.1, b.1⟩, Nat.max_le.mpr ⟨a.2, b.2⟩⟩
end
theorem okE_shaped {n : Nat} {d : D} (h : okE n d = true) (hn : n ≤ 64) : SeqAt.shaped (toP d) = true := by
  have := okE_lay n d h
  unfold SeqAt.shaped
  rw [this.1, Bool.true_and]
  exact decide_eq_true (by omega)
mutual
theorem eqvD_eq : ∀ (n m : Nat) (c d : D), okE n c = true → okE m d = true → PyData.eqv (toP c) (toP d) = eqvD c d
  | _, _, .non, d, _, h => by cases d <;> simp [toP, PyData.eqv, eqvD, okE] at h ⊢
  | _, _, .bl _, d, _, h => by cases d <;> simp [toP, PyData.eqv, eqvD, okE] at h ⊢
  | _, _, .int _, d, _, h => by cases d <;> simp [toP, PyData.eqv, eqvD, okE] at h ⊢
  | _, _, .str _, d, _, h => by cases d <;> simp [toP, PyData.eqv, eqvD, okE] at h ⊢
  | 0, _, .tup xs, d, h, _ => by simp [okE] at h
  | n + 1, 0, .tup xs, d, h, g => by cases d <;> simp [toP, PyData.eqv, eqvD, okE] at g ⊢
  | n + 1, m + 1, .tup xs, d, h, g => by
    simp only [okE] at h
    cases d <;> simp only [toP, PyData.eqv, eqvD]
    rename_i ys
    simp only [okE] at g
    exact eqvDL_eq n m xs ys h g
  | 0, _, .lst _ xs, d, h, _ => by simp [okE] at h
  | n + 1, 0, .lst _ xs, d, h, g => by cases d <;> simp [toP, PyData.eqv, eqvD, okE] at g ⊢
  | n + 1, m + 1, .lst _ xs, d, h, g => by
    simp only [okE] at h
    cases d <;> simp only [toP, PyData.eqv, eqvD]
    rename_i ys
    simp only [okE] at g
    exact eqvDL_eq n m xs ys h g
  | _, _, .dct _ _ _ _, _, h, _ => by simp [okE] at h
  | _, _, .obj _ _ _ _, _, h, _ => by simp [okE] at h
  | _, _, .frl _, _, h, _ => by simp [okE] at h
  | _, _, .kt _, _, h, _ => by simp [okE] at h
  | _, _, .any, _, h, _ => by simp [okE] at h
theorem eqvDL_eq : ∀ (n m : Nat) (xs ys : List D), okEL n xs = true → okEL m ys = true → PyData.eqvAll (toPL xs) (toPL ys) = eqvDL xs ys
  | _, _, [], [], _, _ => by simp [toPL, PyData.eqvAll, eqvDL]
  | _, _, [], _ :: _, _, _ => by simp [toPL, PyData.eqvAll, eqvDL]
  | _, _, _ :: _, [], _, _ => by simp [toPL, PyData.eqvAll, eqvDL]
  | n, m, x :: xs, y :: ys, h, g => by
    simp only [okEL, Bool.and_eq_true] at h g
    simp only [toPL, PyData.eqvAll, eqvDL, eqvD_eq n m x y h.1 g.1, eqvDL_eq n m xs ys h.2 g.2]
end
section
variable {K : PySem.W.Frag} {H : Hp} {M : ASet}
mutual
theorem R.dp : ∀ {v : V} {d : D} {p : List Addr}, R K H M v d p → ∀ n, okE n d = true → Dp K H v (toP d)
  | _, _, _, .non, _, _ => by simp only [toP]; exact .non
  | _, _, _, .bl b, _, _ => by simp only [toP]; exact .bl b
  | _, _, _, .int i, _, _ => by simp only [toP]; exact .int i
  | _, _, _, .str s, _, _ => by simp only [toP]; exact .str s
  | _, _, _, .any v, _, h => by simp [okE] at h
  | _, _, _, .tup e _ t, 0, h => by simp [okE] at h
  | _, _, _, .tup e _ t, n + 1, h => by simp only [okE] at h; simp only [toP]; exact .tup (.inl (.inl e)) (RL.dp t n h)
  | _, _, _, .kt _ _, _, h => by simp [okE] at h
  | _, _, _, .lstM e _ _ t, 0, h => by simp [okE] at h
  | _, _, _, .lstM e _ _ t, n + 1, h => by simp only [okE] at h; simp only [toP]; exact .lst (.inl (.inl e)) (RL.dp t n h)
  | _, _, _, .lstF e _ t, 0, h => by simp [okE] at h
  | _, _, _, .lstF e _ t, n + 1, h => by simp only [okE] at h; simp only [toP]; exact .lst (.inl (.inl e)) (RL.dp t n h)
  | _, _, _, .frl _ _ _, _, h => by simp [okE] at h
  | _, _, _, .frk _ _, _, h => by simp [okE] at h
  | _, _, _, .dKM _ _ _ _, _, h => by simp [okE] at h
  | _, _, _, .dKF _ _ _, _, h => by simp [okE] at h
  | _, _, _, .dTM _ _ _ _, _, h => by simp [okE] at h
  | _, _, _, .dTF _ _ _, _, h => by simp [okE] at h
  | _, _, _, .objM _ _ _ _, _, h => by simp [okE] at h
  | _, _, _, .objF _ _ _, _, h => by simp [okE] at h
theorem RL.dp : ∀ {vs : List V} {ds : List D} {p : List Addr}, RL K H M vs ds p → ∀ n, okEL n ds = true → DpAll K H vs (toPL ds)
  | _, _, _, .nil, _, _ => by simp only [toPL]; exact .nil
  | _, _, _, .cons a t _, n, h => by
    simp only [okEL, Bool.and_eq_true] at h
    simp only [toPL]
    exact .cons (R.dp a n h.1) (RL.dp t n h.2)
end
end
section
variable {X : Cx}
def dEq (c d : D) : Option D := if okE 60 c && okE 60 d then some (.bl (eqvD c d)) else none
def dNe (c d : D) : Option D := if okE 60 c && okE 60 d then some (.bl (!eqvD c d)) else none
theorem o_eq (hu : X.A.units + 64 < cLine) : OpD X (compareOp .Eq) dEq := by
  refine ⟨_, op_eqD hu, fun M H x y c d e p q Q hM rx ry eo k => ?_⟩
  unfold dEq at eo
  split at eo
  · rename_i h
    simp only [Bool.and_eq_true] at h
    cases eo
    refine ⟨_, _, rx.dp 60 h.1, ry.dp 60 h.2, okE_shaped h.1 (by decide), okE_shaped h.2 (by decide), ?_⟩
    rw [eqvD_eq 60 60 c d h.1 h.2]
    exact k.bl
  · cases eo
theorem o_ne (hu : X.A.units + 64 < cLine) : OpD X (compareOp .NotEq) dNe := by
  refine ⟨_, op_neD hu, fun M H x y c d e p q Q hM rx ry eo k => ?_⟩
  unfold dNe at eo
  split at eo
  · rename_i h
    simp only [Bool.and_eq_true] at h
    cases eo
    refine ⟨_, _, rx.dp 60 h.1, ry.dp 60 h.2, okE_shaped h.1 (by decide), okE_shaped h.2 (by decide), ?_⟩
    rw [eqvD_eq 60 60 c d h.1 h.2]
    exact k.bl
  · cases eo
/-! in, over a list of data, or a tuple of flat values -/
def flatD : D → Bool
  | .non => true
  | .bl _ => true
  | .int _ => true
  | .str _ => true
  | _ => false
def inL (c : D) (xs : List D) : Bool := xs.any fun z => eqvD z c
theorem flat_of {K : PySem.W.Frag} {H : Hp} {M : ASet} {v : V} {d : D} {p : List Addr} (r : R K H M v d p) (h : flatD d = true) : flatV v = true := by
  cases r <;> first | rfl | simp [flatD] at h
theorem eqV_of {K : PySem.W.Frag} {H : Hp} {M : ASet} {v u : V} {c d : D} {p q : List Addr} (r : R K H M v c p) (s : R K H M u d q) (h : flatD c = true) (g : flatD d = true) : eqV v u = eqvD c d := by
  cases r <;> simp [flatD] at h <;> cases s <;> simp [flatD] at g <;> simp [eqV, eqvD]
theorem inV_of {K : PySem.W.Frag} {H : Hp} {M : ASet} {v : V} {c : D} {p : List Addr} (r : R K H M v c p) (h : flatD c = true) : ∀ {vs : List V} {ds : List D} {q : List Addr}, RL K H M vs ds q → ds.all flatD = true → inV v vs = inL c ds ∧ vs.all flatV = true
  | _, _, _, .nil, _ => ⟨rfl, rfl⟩
  | _, _, _, .cons a t _, g => by
    simp only [List.all_cons, Bool.and_eq_true] at g
    have := inV_of r h t g.2
    refine ⟨?_, ?_⟩
    · show (_ :: _).any _ = (_ :: _).any _
      rw [List.any_cons, List.any_cons, eqV_of a r g.1 h]
      have e := this.1
      unfold inV inL at e
      rw [e]
    · rw [List.all_cons, flat_of a g.1, this.2]; rfl
theorem any_eqv (n : Nat) (c : D) (hc : okE n c = true) : ∀ xs : List D, okEL n xs = true → (toPL xs).any (fun z => PyData.eqv z (toP c)) = inL c xs
  | [], _ => rfl
  | x :: xs, h => by
    simp only [okEL, Bool.and_eq_true] at h
    unfold inL
    simp only [toPL, List.any_cons]
    rw [eqvD_eq n n x c h.1 hc]
    have := any_eqv n c hc xs h.2
    unfold inL at this
    rw [this]
def dIn (c : D) : D → Option D
  | .lst _ xs => if okE 60 c && okEL 60 xs then some (.bl (inL c xs)) else none
  | .tup xs => if flatD c && xs.all flatD then some (.bl (inL c xs)) else none
  | _ => none
def dNin (c : D) : D → Option D
  | .lst _ xs => if okE 60 c && okEL 60 xs then some (.bl (!inL c xs)) else none
  | .tup xs => if flatD c && xs.all flatD then some (.bl (!inL c xs)) else none
  | _ => none
theorem okEL_lst {n : Nat} {xs : List D} {m : Bool} (h : okEL n xs = true) : okE (n + 1) (.lst m xs) = true := by simp only [okE]; exact h
theorem o_in (hu : X.A.units + 65 < cLine) : OpD X (compareOp .In) dIn := by
  refine ⟨_, (op_inD hu).or op_in_seq, fun M H x y c d e p q Q hM rx ry eo k => ?_⟩
  unfold dIn at eo
  split at eo
  · rename_i m xs
    split at eo
    · rename_i h
      simp only [Bool.and_eq_true] at h
      cases eo
      have h2 : okE 61 (.lst m xs) = true := okEL_lst h.2
      have dp := ry.dp 61 h2
      have sh := okE_shaped h2 (by decide)
      simp only [toP] at dp sh
      refine .inl ⟨_, _, rx.dp 60 h.1, dp, okE_shaped h.1 (by decide), sh, ?_⟩
      rw [any_eqv 60 c h.1 xs h.2]
      exact k.bl
    · cases eo
  · split at eo
    · rename_i xs h
      simp only [Bool.and_eq_true] at h
      cases eo
      obtain ⟨a, vs, rfl, sa, ra⟩ := ry.tupS
      have := inV_of rx h.1 ra h.2
      refine .inr ⟨a, vs, rfl, .inr sa, flat_of rx h.1, this.2, ?_⟩
      rw [if_neg Bool.false_ne_true, this.1]
      exact k.bl
    · cases eo
  · cases eo
theorem o_nin (hu : X.A.units + 65 < cLine) : OpD X (compareOp .NotIn) dNin := by
  refine ⟨_, (op_notInD hu).or op_notIn_seq, fun M H x y c d e p q Q hM rx ry eo k => ?_⟩
  unfold dNin at eo
  split at eo
  · rename_i m xs
    split at eo
    · rename_i h
      simp only [Bool.and_eq_true] at h
      cases eo
      have h2 : okE 61 (.lst m xs) = true := okEL_lst h.2
      have dp := ry.dp 61 h2
      have sh := okE_shaped h2 (by decide)
      simp only [toP] at dp sh
      refine .inl ⟨_, _, rx.dp 60 h.1, dp, okE_shaped h.1 (by decide), sh, ?_⟩
      rw [any_eqv 60 c h.1 xs h.2]
      exact k.bl
    · cases eo
  · split at eo
    · rename_i xs h
      simp only [Bool.and_eq_true] at h
      cases eo
      obtain ⟨a, vs, rfl, sa, ra⟩ := ry.tupS
      have := inV_of rx h.1 ra h.2
      refine .inr ⟨a, vs, rfl, .inr sa, flat_of rx h.1, this.2, ?_⟩
      rw [if_pos rfl, this.1]
      exact k.bl
    · cases eo
  · cases eo
end

/-! ### expressions -/
section
variable {X : Cx} {a b c e : Expr} {pos : Pos}
def dOp (op : D → D → Option D) (f : DS → Option (D × D × DS)) : DS → Option (D × DS) := fun ds => (f ds).bind fun r => (op r.1 r.2.1).bind fun d => some (d, r.2.2)
theorem dOp_some {op : D → D → Option D} {f : DS → Option (D × D × DS)} {ds ds2 : DS} {d : D} (h : dOp op f ds = some (d, ds2)) : ∃ x y, f ds = some (x, y, ds2) ∧ op x y = some d := by
  obtain ⟨⟨x, y, ds1⟩, e1, h⟩ := Option.bind_eq_some_iff.mp h
  obtain ⟨d', e2, h⟩ := Option.bind_eq_some_iff.mp h
  cases h
  exact ⟨x, y, e1, e2⟩
/-- the end of an operation over operands -/
theorem fin_op {K : PySem.W.Frag} {O : ASet} {σ : St} {H H' : Hp} {ds' : DS} {fp fp' : Nat → List Addr} {x : List Addr} {e : D} {Q : VK} (r : RS K (OO O x) σ H' ds' fp') (st : Step H H' fp fp' x)
    (k : ∀ v H'' fp'' p, RS K (OO O p) σ H'' ds' fp'' → R K H'' (MM (OO O p) fp'') v e p → (∀ a ∈ p, ¬ O a) → Step H H'' fp fp'' p → Q v H'') : GiveV K (MM (OO O x) fp') H' e Q := fun v H2 z kp hz rv => by
  refine k v H2 fp' z (r.more kp fun a w => ?_) (rv.fewer (fun a w => ?_) fun a w => .inl (.inr w)) (fun a w o => ?_) (st.grow kp hz)
  · rcases w with w | w
    · exact .inl (.inl w)
    · exact .inr ⟨hz a w, rv.trk a w⟩
  · rcases w with (w | w) | w
    · exact .inl (.inl (.inl w))
    · exact .inr w
    · exact .inl (.inr w)
  · exact r.tr a (.inl (.inl o)) (hz a w)
theorem e_bin {op : Operator} {g : D → D → Option D} {f : DS → Option (D × D × DS)} (ho : OpD X (binaryOp op) g) (h : P2d X a b f) : PEd X (.BinOp a op b pos) (dOp g f) := by
  obtain ⟨r, hr, sr⟩ := ho
  obtain ⟨ta, tb, ha, hb, s⟩ := h
  refine ⟨_, pe_op hr ha hb, fun O σ H ds fp d ds' Q rs e k => ?_⟩
  obtain ⟨x, y, e1, e2⟩ := dOp_some e
  exact s O σ H ds fp x y ds' _ rs e1 fun v u H' fp' p q z r' rv ru nz st => sr _ _ _ _ _ _ _ _ _ _ r'.tr rv ru e2 (fin_op r' st k)
theorem e_cmp {op : CmpOp} {g : D → D → Option D} {f : DS → Option (D × D × DS)} (ho : OpD X (compareOp op) g) (h : P2d X a b f) (hm : behindInMarks op b = false := by first | exact nomark _ | with_unfolding_all rfl) : PEd X (.Compare a [op] [b] pos) (dOp g f) := by
  obtain ⟨r, hr, sr⟩ := ho
  obtain ⟨ta, tb, ha, hb, s⟩ := h
  refine ⟨_, pe_cmpR hr ha hb hm, fun O σ H ds fp d ds' Q rs e k => ?_⟩
  obtain ⟨x, y, e1, e2⟩ := dOp_some e
  exact s O σ H ds fp x y ds' _ rs e1 fun v u H' fp' p q z r' rv ru nz st => sr _ _ _ _ _ _ _ _ _ _ r'.tr rv ru e2 (fin_op r' st k)
def dB (f : DS → Option (D × DS)) : DS → Option (Bool × DS) := fun ds => (f ds).bind fun r => match r.1 with
  | .bl b => some (b, r.2)
  | _ => none
theorem dB_some {f : DS → Option (D × DS)} {ds ds2 : DS} {b : Bool} (h : dB f ds = some (b, ds2)) : f ds = some (.bl b, ds2) := by
  obtain ⟨⟨d, ds1⟩, e1, h⟩ := Option.bind_eq_some_iff.mp h
  simp only at h
  split at h
  · cases h; exact e1
  · cases h
theorem RS.drop {K : PySem.W.Frag} {O : ASet} {σ : St} {H : Hp} {ds : DS} {fp : Nat → List Addr} {x : List Addr} (r : RS K (OO O x) σ H ds fp) : RS K O σ H ds fp := r.outer fun _ h => .inl h
theorem t_val {f : DS → Option (D × DS)} (h : PEd X e f) (he : ∀ whole, isTrue e X.env whole = (do let v ← whole; standAt e.pos; holding [v] (truthy v)) := by intro _; rfl) : PTd X e (dB f) := by
  obtain ⟨t, ht, s⟩ := h
  refine ⟨_, pt_val ht he, fun O σ H ds fp b ds' Q rs e k => ?_⟩
  refine s O σ H ds fp _ ds' _ rs (dB_some e) fun v H' fp' p r' rv n st => ?_
  cases rv
  exact ⟨b, rfl, k H' fp' r'.drop (st.less fun _ z => nomatch z)⟩
theorem t_cmp {op : CmpOp} {g : D → D → Option D} {f : DS → Option (D × D × DS)} (ho : OpD X (compareOp op) g) (h : P2d X a b f) (hm : behindInMarks op b = false := by first | exact nomark _ | with_unfolding_all rfl) : PTd X (.Compare a [op] [b] pos) (dB (dOp g f)) := by
  obtain ⟨r, hr, sr⟩ := ho
  obtain ⟨ta, tb, ha, hb, s⟩ := h
  refine ⟨_, pt_cmpR hr ha hb hm, fun O σ H ds fp b ds' Q rs e k => ?_⟩
  obtain ⟨x, y, e1, e2⟩ := dOp_some (dB_some e)
  refine s O σ H ds fp x y ds' _ rs e1 fun v u H' fp' p q z r' rv ru nz st => sr _ _ _ _ _ _ _ _ _ _ r'.tr rv ru e2 (fin_op r' st fun w H2 fp2 p2 r2 rw n2 s2 => ?_)
  cases rw
  exact ⟨b, rfl, k H2 fp2 r2.drop (s2.less fun _ z => nomatch z)⟩
def dNot (f : DS → Option (Bool × DS)) : DS → Option (Bool × DS) := fun ds => (f ds).bind fun r => some (!r.1, r.2)
theorem t_not {f : DS → Option (Bool × DS)} (h : PTd X a f) : PTd X (.UnaryOp .Not a pos) (dNot f) := by
  obtain ⟨t, ht, s⟩ := h
  refine ⟨_, pt_not ht, fun O σ H ds fp b ds' Q rs e k => ?_⟩
  obtain ⟨⟨c, ds1⟩, e1, e⟩ := Option.bind_eq_some_iff.mp e
  cases e
  exact s O σ H ds fp c ds1 _ rs e1 k
variable {rest : List Expr}
theorem PWd.t {f : DS → Option (Bool × DS)} (h : PWd X e f) : PTd X e f := by
  obtain ⟨t, ht, s⟩ := h
  exact ⟨t, ht.pt, s⟩
theorem w_and1 {f : DS → Option (Bool × DS)} (h : PTd X a f) : PWd X (.BoolOp .And [a] pos) f := by
  obtain ⟨t, ht, s⟩ := h
  exact ⟨t, pw_and1 ht, s⟩
theorem w_or1 {f : DS → Option (Bool × DS)} (h : PTd X a f) : PWd X (.BoolOp .Or [a] pos) f := by
  obtain ⟨t, ht, s⟩ := h
  exact ⟨t, pw_or1 ht, s⟩
def dAnd (f g : DS → Option (Bool × DS)) : DS → Option (Bool × DS) := fun ds => (f ds).bind fun r => if r.1 then g r.2 else some (false, r.2)
def dOr (f g : DS → Option (Bool × DS)) : DS → Option (Bool × DS) := fun ds => (f ds).bind fun r => if r.1 then some (true, r.2) else g r.2
theorem Step.then {H H1 H2 : Hp} {fp fp1 fp2 : Nat → List Addr} {x : List Addr} (a : Step H H1 fp fp1 []) (b : Step H1 H2 fp1 fp2 x) : Step H H2 fp fp2 x :=
  (a.trans b fun _ z => nomatch z).less fun a z => List.mem_append_left _ z
theorem w_and {f g : DS → Option (Bool × DS)} (ha : PTd X a f) (hb : PWd X (.BoolOp .And (b :: rest) pos) g) : PWd X (.BoolOp .And (a :: b :: rest) pos) (dAnd f g) := by
  obtain ⟨t, ht, s⟩ := ha
  obtain ⟨u, hu, su⟩ := hb
  refine ⟨_, pw_and ht hu, fun O σ H ds fp b ds' Q rs e k => ?_⟩
  obtain ⟨⟨c, ds1⟩, e1, e⟩ := Option.bind_eq_some_iff.mp e
  refine s O σ H ds fp c ds1 _ rs e1 fun H1 fp1 r1 s1 => ?_
  cases c with
  | true =>
    exact iteT (su O σ H1 ds1 fp1 b ds' _ r1 e fun H2 fp2 r2 s2 => k H2 fp2 r2 (s1.then s2))
  | false =>
    cases e
    exact iteF (k H1 fp1 r1 s1)
theorem w_or {f g : DS → Option (Bool × DS)} (ha : PTd X a f) (hb : PWd X (.BoolOp .Or (b :: rest) pos) g) : PWd X (.BoolOp .Or (a :: b :: rest) pos) (dOr f g) := by
  obtain ⟨t, ht, s⟩ := ha
  obtain ⟨u, hu, su⟩ := hb
  refine ⟨_, pw_or ht hu, fun O σ H ds fp b ds' Q rs e k => ?_⟩
  obtain ⟨⟨c, ds1⟩, e1, e⟩ := Option.bind_eq_some_iff.mp e
  refine s O σ H ds fp c ds1 _ rs e1 fun H1 fp1 r1 s1 => ?_
  cases c with
  | true =>
    cases e
    exact iteT (k H1 fp1 r1 s1)
  | false =>
    exact iteF (su O σ H1 ds1 fp1 b ds' _ r1 e fun H2 fp2 r2 s2 => k H2 fp2 r2 (s1.then s2))
/-- and, or as values: the left ones True or False -/
def dAndV (f : DS → Option (D × DS)) (g : DS → Option (D × DS)) : DS → Option (D × DS) := fun ds => (dB f ds).bind fun r => if r.1 then g r.2 else some (.bl false, r.2)
def dOrV (f : DS → Option (D × DS)) (g : DS → Option (D × DS)) : DS → Option (D × DS) := fun ds => (dB f ds).bind fun r => if r.1 then some (.bl true, r.2) else g r.2
theorem e_one {op} {f : DS → Option (D × DS)} (h : PEd X a f) : PEd X (.BoolOp op [a] pos) f := by
  obtain ⟨t, ht, s⟩ := h
  exact ⟨t, pe_one ht, s⟩
theorem e_and {f g : DS → Option (D × DS)} (ha : PEd X a f) (hb : PEd X (.BoolOp .And (b :: rest) pos) g) : PEd X (.BoolOp .And (a :: b :: rest) pos) (dAndV f g) := by
  obtain ⟨t, ht, s⟩ := ha
  obtain ⟨u, hu, su⟩ := hb
  refine ⟨_, pe_and ht hu, fun O σ H ds fp d ds' Q rs e k => ?_⟩
  obtain ⟨⟨c, ds1⟩, e1, e⟩ := Option.bind_eq_some_iff.mp e
  refine s O σ H ds fp _ ds1 _ rs (dB_some e1) fun v H1 fp1 p r1 rv n1 s1 => ?_
  cases rv
  have s1 := s1.less (y := []) fun _ z => nomatch z
  refine ⟨c, rfl, ?_⟩
  cases c with
  | true => exact iteT (su O σ H1 ds1 fp1 d ds' _ r1.drop e fun v H2 fp2 p r2 rv n2 s2 => k v H2 fp2 p r2 rv n2 (s1.then s2))
  | false =>
    cases e
    exact iteF (k _ H1 fp1 [] (by rw [OO_nil]; exact r1.drop) (.bl false) (fun _ z => nomatch z) s1)
theorem e_or {f g : DS → Option (D × DS)} (ha : PEd X a f) (hb : PEd X (.BoolOp .Or (b :: rest) pos) g) : PEd X (.BoolOp .Or (a :: b :: rest) pos) (dOrV f g) := by
  obtain ⟨t, ht, s⟩ := ha
  obtain ⟨u, hu, su⟩ := hb
  refine ⟨_, pe_or ht hu, fun O σ H ds fp d ds' Q rs e k => ?_⟩
  obtain ⟨⟨c, ds1⟩, e1, e⟩ := Option.bind_eq_some_iff.mp e
  refine s O σ H ds fp _ ds1 _ rs (dB_some e1) fun v H1 fp1 p r1 rv n1 s1 => ?_
  cases rv
  have s1 := s1.less (y := []) fun _ z => nomatch z
  refine ⟨c, rfl, ?_⟩
  cases c with
  | true =>
    cases e
    exact iteT (k _ H1 fp1 [] (by rw [OO_nil]; exact r1.drop) (.bl true) (fun _ z => nomatch z) s1)
  | false => exact iteF (su O σ H1 ds1 fp1 d ds' _ r1.drop e fun v H2 fp2 p r2 rv n2 s2 => k v H2 fp2 p r2 rv n2 (s1.then s2))
def dNotV (f : DS → Option (D × DS)) : DS → Option (D × DS) := fun ds => (dB f ds).bind fun r => some (.bl (!r.1), r.2)
theorem e_not {f : DS → Option (D × DS)} (ha : PEd X a f) : PEd X (.UnaryOp .Not a pos) (dNotV f) := by
  obtain ⟨t, ht, s⟩ := ha
  refine ⟨_, pe_not ht, fun O σ H ds fp d ds' Q rs e k => ?_⟩
  obtain ⟨⟨c, ds1⟩, e1, e⟩ := Option.bind_eq_some_iff.mp e
  refine s O σ H ds fp _ ds1 _ rs (dB_some e1) fun v H1 fp1 p r1 rv n1 s1 => ?_
  cases rv
  cases e
  exact ⟨c, rfl, k _ H1 fp1 [] (by rw [OO_nil]; exact r1.drop) (.bl _) (fun _ z => nomatch z) (s1.less fun _ z => nomatch z)⟩
def dIf (t : DS → Option (Bool × DS)) (f g : DS → Option (D × DS)) : DS → Option (D × DS) := fun ds => (t ds).bind fun r => if r.1 then f r.2 else g r.2
theorem e_if {t : DS → Option (Bool × DS)} {f g : DS → Option (D × DS)} (hc : PTd X c t) (ha : PEd X a f) (hb : PEd X b g) : PEd X (.IfExp c a b pos) (dIf t f g) := by
  obtain ⟨tc, hc, sc⟩ := hc
  obtain ⟨ta, ha, sa⟩ := ha
  obtain ⟨tb, hb, sb⟩ := hb
  refine ⟨_, pe_ifExp hc ha hb, fun O σ H ds fp d ds' Q rs e k => ?_⟩
  obtain ⟨⟨z, ds1⟩, e1, e⟩ := Option.bind_eq_some_iff.mp e
  refine sc O σ H ds fp z ds1 _ rs e1 fun H1 fp1 r1 s1 => ?_
  cases z with
  | true => exact iteT (sa O σ H1 ds1 fp1 d ds' _ r1 e fun v H2 fp2 p r2 rv n2 s2 => k v H2 fp2 p r2 rv n2 (s1.then s2))
  | false => exact iteF (sb O σ H1 ds1 fp1 d ds' _ r1 e fun v H2 fp2 p r2 rv n2 s2 => k v H2 fp2 p r2 rv n2 (s1.then s2))
def dNeg (f : DS → Option (D × DS)) : DS → Option (D × DS) := fun ds => (f ds).bind fun r => match r.1 with
  | .int i => some (.int (-i), r.2)
  | _ => none
theorem e_neg {f : DS → Option (D × DS)} (ha : PEd X a f) : PEd X (.UnaryOp .USub a pos) (dNeg f) := by
  obtain ⟨t, ht, s⟩ := ha
  refine ⟨_, pe_un un_neg ht, fun O σ H ds fp d ds' Q rs e k => ?_⟩
  obtain ⟨⟨z, ds1⟩, e1, e⟩ := Option.bind_eq_some_iff.mp e
  simp only at e
  split at e
  · cases e
    refine s O σ H ds fp _ _ _ rs e1 fun v H1 fp1 p r1 rv n1 s1 => ?_
    cases rv
    exact ⟨_, rfl, k _ H1 fp1 [] (by rw [OO_nil]; exact r1.drop) (.int _) (fun _ z => nomatch z) (s1.less fun _ z => nomatch z)⟩
  · cases e
end
end DL

/-! DL5: subscripts, slices, displays, argument lists, built-ins by values. -/
namespace DL
open PySem PySem.Spec L2

section
variable {X : Cx} {a b c e : Expr} {es : List Expr} {pos : Pos}
/-- constants as expressions -/
def dK (d : D) : DS → Option (D × DS) := fun ds => some (d, ds)
theorem kb {d : D} (h : PEb X e (dC d)) (hs : d.sh = true) : PEd X e (dK d) := h.d.le fun ds d' ds' z => by
  simp only [dK, Option.some.injEq, Prod.mk.injEq] at z
  obtain ⟨rfl, rfl⟩ := z
  simp [dSh, dC, hs]
theorem e_int {i : Int} {j pos} : PEd X (.Constant (.int i) j pos) (dK (.int i)) := kb b_int rfl
theorem e_bl {b : Bool} {j pos} : PEd X (.Constant (.bool b) j pos) (dK (.bl b)) := kb b_bl rfl
theorem e_non {j pos} : PEd X (.Constant .none j pos) (dK .non) := kb b_non rfl
theorem e_str {x : Str} {j pos} : PEd X (.Constant (.str x) j pos) (dK (.str x)) := kb b_str rfl
/-- a shared name's value -/
def dN (i : Nat) : DS → Option (D × DS) := fun ds => match ds[i]? with
  | some (some d) => if d.sh then some (d, ds) else none
  | _ => none
theorem e_nm (i : Nat) {x : Str} {pos : Pos} (hN : X.N[i]? = some x := by rfl) (hv : Vis X.env.scope x := by first | exact Or.inl rfl | exact Or.inr (Or.inl rfl) | exact Or.inr (Or.inr rfl)) (hd : (x == ("__debug__" : Str)) = false := by decide)
    (hcd : (x == ("__classdict__" : Str)) = false := by decide) : PEd X (.Name x pos) (dN i) := (b_nm i hN hv hd hcd).d.le fun ds d' ds' z => by
  unfold dN at z
  unfold dSh dNm
  split at z
  · rename_i d e
    first | (rw [e]; exact z) | exact z
  · cases z

/-! ### subscripts -/
theorem RL.atI {K : PySem.W.Frag} {H : Hp} {M : ASet} {vs : List V} {ds : List D} {p : List Addr} {i : Int} {d : D} (r : RL K H M vs ds p) (h : L2.atI ds i = some d) : ∃ v q, L2.atI vs i = some v ∧ R K H M v d q := by
  unfold L2.atI at h ⊢
  obtain ⟨j, e1, e2⟩ := Option.bind_eq_some_iff.mp h
  obtain ⟨v, q, h1, h2⟩ := r.get e2
  exact ⟨v, q, by rw [r.len, e1]; exact h1, h2⟩
/-- the item of a list, a tuple, a text -/
def dAt : D → D → Option D
  | .tup xs, .int i => L2.atI xs i
  | .lst _ xs, .int i => L2.atI xs i
  | .frl xs, .int i => L2.atI xs i
  | .str z, .int i => if z.length ≤ sizeLine then (L2.atI z.cps.toList i).map fun c => .str ⟨#[c]⟩ else none
  | _, _ => none
theorem ix_rd {K : PySem.W.Frag} {H : Hp} {M : ASet} {x y : V} {c d e : D} {p q : List Addr} {Q : VK} (rx : R K H M x c p) (ry : R K H M y d q) (h : dAt c d = some e) (k : ∀ v z, R K H M v e z → Q v H) : rIx K x y H Q := by
  unfold dAt at h
  split at h
  · obtain ⟨a, vs, rfl, sa, ra⟩ := rx.tupS
    cases ry
    obtain ⟨v, z, h1, h2⟩ := ra.atI h
    exact .inr (.inl ⟨a, vs, _, v, rfl, rfl, sa, h1, k v z h2⟩)
  · obtain ⟨a, vs, _, rfl, sa, ra, _⟩ := rx.lstS
    cases ry
    obtain ⟨v, z, h1, h2⟩ := ra.atI h
    exact .inl ⟨a, vs, _, v, rfl, rfl, .inl (.inl sa), h1, k v z h2⟩
  · cases rx with
    | frl sa n ra =>
      cases ry
      obtain ⟨v, z, h1, h2⟩ := ra.atI h
      exact .inl ⟨_, _, _, v, rfl, rfl, .inl (.inr ⟨_, sa⟩), h1, k v z h2⟩
    | frk sa ra =>
      cases ry
      obtain ⟨v, z, h1, h2⟩ := ra.atI h
      exact .inl ⟨_, _, _, v, rfl, rfl, sa H, h1, k v z h2⟩
  · split at h
    · rename_i z i hz
      cases rx
      cases ry
      obtain ⟨c, e1, e2⟩ := Option.map_eq_some_iff.mp h
      subst e2
      exact .inr (.inr ⟨z, i, c, rfl, rfl, hz, e1, k _ [] (.str _)⟩)
    · cases h
  · cases h
def dIx (f : DS → Option (D × D × DS)) : DS → Option (D × DS) := fun ds => (f ds).bind fun r => (dAt r.1 r.2.1).bind fun d => if d.sh then some (d, r.2.2) else none
theorem e_ix {f : DS → Option (D × D × DS)} (h : P2d X a b f) (hs : PlainIx b := by exact fun _ _ => rfl) : PEd X (.Subscript a b pos) (dIx f) := by
  obtain ⟨ta, tb, ha, hb, s⟩ := h
  refine ⟨_, pe_ix ix_seq ha hb hs, fun O σ H ds fp d ds' Q rs e k => ?_⟩
  obtain ⟨⟨x, y, ds1⟩, e1, e⟩ := Option.bind_eq_some_iff.mp e
  obtain ⟨z, e2, e⟩ := Option.bind_eq_some_iff.mp e
  split at e
  · rename_i hz
    cases e
    refine s O σ H ds fp x y ds1 _ rs e1 fun v u H' fp' p q t r' rv ru nz st => ix_rd rv ru e2 fun w l rw => ?_
    have := rw.sh0 hz
    subst this
    exact k w H' fp' [] (by rw [OO_nil]; exact r'.drop) (by rw [OO_nil]; exact rw.fewer (fun a z => z.imp .inl id) fun _ z => nomatch z) (fun _ z => nomatch z) (st.less fun _ z => nomatch z)
  · cases e
/-- read only -/
def dIxb (f g : DS → Option D) : DS → Option D := fun ds => (f ds).bind fun x => (g ds).bind fun y => dAt x y
theorem b_ix {f g : DS → Option D} (ha : PEb X a f) (hb : PEb X b g) (hs : PlainIx b := by exact fun _ _ => rfl) : PEb X (.Subscript a b pos) (dIxb f g) := by
  obtain ⟨ta, ha, sa⟩ := ha
  obtain ⟨tb, hb, sb⟩ := hb
  refine ⟨_, pe_ix ix_seq ha hb hs, fun O σ H ds fp d Q rs e k => ?_⟩
  obtain ⟨x, e1, e⟩ := Option.bind_eq_some_iff.mp e
  obtain ⟨y, e2, e⟩ := Option.bind_eq_some_iff.mp e
  exact sa O σ H ds fp x _ rs e1 fun v p rv => sb O σ H ds fp y _ rs e2 fun u q ru => ix_rd rv ru e k
/-- read-only operations on values -/
def dOpb (op : D → D → Option D) (f g : DS → Option D) : DS → Option D := fun ds => (f ds).bind fun x => (g ds).bind fun y => op x y
theorem b_bin {op : Operator} {g : Int → Int → Int} {f h : DS → Option D} (ho : OpR X (binaryOp op) (rI0 fun i j => .int (g i j))) (ha : PEb X a f) (hb : PEb X b h) : PEb X (.BinOp a op b pos) (dOpb (dI2 tt2 fun i j => .int (g i j)) f h) := by
  obtain ⟨ta, ha, sa⟩ := ha
  obtain ⟨tb, hb, sb⟩ := hb
  refine ⟨_, pe_op ho ha hb, fun O σ H ds fp d Q rs e k => ?_⟩
  obtain ⟨x, e1, e⟩ := Option.bind_eq_some_iff.mp e
  obtain ⟨y, e2, e⟩ := Option.bind_eq_some_iff.mp e
  refine sa O σ H ds fp x _ rs e1 fun v p rv => sb O σ H ds fp y _ rs e2 fun u q ru => ?_
  cases rv <;> cases ru <;> simp only [dI2, tt2, if_true, reduceCtorEq] at e
  cases e
  exact ⟨_, _, rfl, rfl, k _ [] (.int _)⟩

/-! ### slices -/
def POd (X : Cx) (o : Option Expr) (f : DS → Option (Option Int × DS)) : Prop := ∃ t, PO X o t ∧ ∀ (O : ASet) (σ : St) (H : Hp) (ds : DS) (fp : Nat → List Addr) (i : Option Int) (ds' : DS) (Q : Option Int → Hp → Prop), RS X.K O σ H ds fp → f ds = some (i, ds') →
  (∀ H' fp', RS X.K O σ H' ds' fp' → Step H H' fp fp' [] → Q i H') → t σ H Q
def dNo : DS → Option (Option Int × DS) := fun ds => some (none, ds)
theorem s_no : POd X none dNo := ⟨_, po_none, fun O σ H ds fp i ds' Q r e k => by cases e; exact k H fp r Step.refl⟩
def dSo (f : DS → Option (D × DS)) : DS → Option (Option Int × DS) := fun ds => (f ds).bind fun r => match r.1 with
  | .int i => some (some i, r.2)
  | _ => none
theorem s_so {f : DS → Option (D × DS)} (h : PEd X e f) : POd X (some e) (dSo f) := by
  obtain ⟨t, ht, s⟩ := h
  refine ⟨_, po_some ht, fun O σ H ds fp i ds' Q r e k => ?_⟩
  obtain ⟨⟨d, ds1⟩, e1, e⟩ := Option.bind_eq_some_iff.mp e
  simp only at e
  split at e
  · cases e
    refine s O σ H ds fp _ _ _ r e1 fun v H1 fp1 p r1 rv n1 s1 => ?_
    cases rv
    exact ⟨_, rfl, k H1 fp1 r1.drop (s1.less fun _ z => nomatch z)⟩
  · cases e
def cutD (xs : List D) (lo hi : Option Int) : List D := (xs.drop (HT.sIx xs.length 0 lo)).take (HT.sIx xs.length xs.length hi - HT.sIx xs.length 0 lo)
theorem RL.drop {K : PySem.W.Frag} {H : Hp} {M : ASet} : ∀ {vs : List V} {ds : List D} {p : List Addr} (n : Nat), RL K H M vs ds p → shL ds = true → RL K H M (vs.drop n) (ds.drop n) []
  | _, _, _, 0, r, h => r.sh h
  | _, _, _, _ + 1, .nil, _ => .nil
  | _, _, _, n + 1, .cons a t _, h => by
    simp only [shL, Bool.and_eq_true] at h
    exact RL.drop n t h.2
theorem RL.take {K : PySem.W.Frag} {H : Hp} {M : ASet} : ∀ {vs : List V} {ds : List D} {p : List Addr} (n : Nat), RL K H M vs ds p → shL ds = true → RL K H M (vs.take n) (ds.take n) []
  | _, _, _, 0, _, _ => .nil
  | _, _, _, n + 1, .nil, _ => .nil
  | _, _, _, n + 1, .cons a t _, h => by
    simp only [shL, Bool.and_eq_true] at h
    have := a.sh0 h.1
    subst this
    exact RL.cons0 a (RL.take n t h.2)
theorem shL_sub {xs ys : List D} (h : shL xs = true) (s : ∀ y ∈ ys, y ∈ xs) : shL ys = true := shL_all.mpr fun y z => shL_all.mp h y (s y z)
theorem RL.cut {K : PySem.W.Frag} {H : Hp} {M : ASet} {vs : List V} {ds : List D} {p : List Addr} (r : RL K H M vs ds p) (h : shL ds = true) (lo hi : Option Int) : RL K H M (cutV vs lo hi) (cutD ds lo hi) [] := by
  unfold cutV cutD
  rw [r.len]
  exact (r.drop _ h).take _ (shL_sub h fun y z => List.mem_of_mem_drop z)
theorem shL_cut {ds : List D} (h : shL ds = true) (lo hi : Option Int) : shL (cutD ds lo hi) = true := shL_sub h fun y z => List.mem_of_mem_drop (List.mem_of_mem_take z)
def dCut (lo hi : Option Int) : D → Option D
  | .tup xs => if shL xs then some (.tup (cutD xs lo hi)) else none
  | .lst _ xs => if shL xs then some (.lst true (cutD xs lo hi)) else none
  | .str z => if z.length ≤ sizeLine then some (.str (cutS z lo hi)) else none
  | _ => none
theorem cut_whole {xs : List D} {lo hi : Option Int} (h : HT.sIx xs.length 0 lo = 0 ∧ HT.sIx xs.length xs.length hi = xs.length) : cutD xs lo hi = xs := by
  unfold cutD
  rw [h.1, h.2]; simp
abbrev rSl3 (K : PySem.W.Frag) : V → Option Int → Option Int → Hp → VK → Prop := fun x lo hi H Q => rSlL K x lo hi H Q ∨ (rSlA K x lo hi H Q ∨ rSlS x lo hi H Q)
theorem sl3 : SlR X (rSl3 X.K) := sl_list.or (sl_tupA.or sl_str)
theorem sl_rd {K : PySem.W.Frag} {H : Hp} {M : ASet} {x : V} {c e : D} {p : List Addr} {lo hi : Option Int} {Q : VK} (hM : ∀ a, M a → H a ≠ none) (rx : R K H M x c p) (h : dCut lo hi c = some e) (k : GiveV K M H e Q) : rSl3 K x lo hi H Q := by
  unfold dCut at h
  split at h
  · split at h
    · rename_i xs hs
      cases h
      obtain ⟨a, vs, rfl, sa, ra⟩ := rx.tupS
      refine .inr (.inl ⟨a, vs, rfl, sa, fun w => ?_, fun _ => k.tup hM (ra.cut hs lo hi) (shL_cut hs lo hi)⟩)
      rw [ra.len] at w
      rw [cut_whole w] at k
      exact k.same rx (by rw [D.sh]; exact hs)
    · cases h
  · split at h
    · rename_i m xs hs
      cases h
      obtain ⟨a, vs, _, rfl, sa, ra, _⟩ := rx.lstS
      exact .inl ⟨a, vs, rfl, .inl (.inl sa), k.lst hM (ra.cut hs lo hi) (shL_cut hs lo hi)⟩
    · cases h
  · split at h
    · rename_i z hs
      cases h
      cases rx
      exact .inr (.inr ⟨z, rfl, hs, k.str⟩)
    · cases h
  · cases h
variable {lo hi : Option Expr} {p2 : Pos}
def dSl (f : DS → Option (D × DS)) (g h : DS → Option (Option Int × DS)) : DS → Option (D × DS) := fun ds => (f ds).bind fun r => (g r.2).bind fun l => (h l.2).bind fun u => (dCut l.1 u.1 r.1).bind fun d => some (d, u.2)
theorem e_sl {f : DS → Option (D × DS)} {g h : DS → Option (Option Int × DS)} (ha : PEd X e f) (hl : POd X lo g) (hh : POd X hi h) : PEd X (.Subscript e (.Slice lo hi none p2) pos) (dSl f g h) := by
  obtain ⟨t, ht, s⟩ := ha
  obtain ⟨tl, hl, sl⟩ := hl
  obtain ⟨th, hh, sh⟩ := hh
  refine ⟨_, pe_slice sl3 ht hl hh, fun O σ H ds fp d ds' Q rs e k => ?_⟩
  obtain ⟨⟨c, ds1⟩, e1, e⟩ := Option.bind_eq_some_iff.mp e
  obtain ⟨⟨l, ds2⟩, e2, e⟩ := Option.bind_eq_some_iff.mp e
  obtain ⟨⟨u, ds3⟩, e3, e⟩ := Option.bind_eq_some_iff.mp e
  obtain ⟨z, e4, e⟩ := Option.bind_eq_some_iff.mp e
  cases e
  refine s O σ H ds fp c ds1 _ rs e1 fun v H1 fp1 p r1 rv n1 s1 => ?_
  refine sl (OO O p) σ H1 ds1 fp1 l ds2 _ r1 e2 fun H2 fp2 r2 s2 => ?_
  refine sh (OO O p) σ H2 ds2 fp2 u _ _ r2 e3 fun H3 fp3 r3 s3 => ?_
  have s23 := s2.then s3
  have cv := r1.carry (O' := OO O p) s23 (q := p) (fun a z => .inr z) (fun a z => .inl z) (fun a z => z)
  have st : Step H H3 fp fp3 p := (s1.trans s23 fun a z i w => r1.off i a w (.inr z)).less fun a z => List.mem_append_right _ z
  exact sl_rd r3.tr (rv.carry cv) e4 (fin_op r3 st k)
/-- of a list that is only read; its bounds too -/
def dSob (f : DS → Option D) : DS → Option (Option Int) := fun ds => (f ds).bind fun d => match d with
  | .int i => some (some i)
  | _ => none
def PObd (X : Cx) (o : Option Expr) (f : DS → Option (Option Int)) : Prop := ∃ t, PO X o t ∧ ∀ (O : ASet) (σ : St) (H : Hp) (ds : DS) (fp : Nat → List Addr) (i : Option Int) (Q : Option Int → Hp → Prop), RS X.K O σ H ds fp → f ds = some i → Q i H → t σ H Q
def dNob : DS → Option (Option Int) := fun _ => some none
theorem s_nob : PObd X none dNob := ⟨_, po_none, fun O σ H ds fp i Q r e k => by cases e; exact k⟩
theorem s_sob {f : DS → Option D} (h : PEb X e f) : PObd X (some e) (dSob f) := by
  obtain ⟨t, ht, s⟩ := h
  refine ⟨_, po_some ht, fun O σ H ds fp i Q r e k => ?_⟩
  obtain ⟨d, e1, e⟩ := Option.bind_eq_some_iff.mp e
  split at e
  · cases e
    refine s O σ H ds fp _ _ r e1 fun v p rv => ?_
    cases rv
    exact ⟨_, rfl, k⟩
  · cases e
def dSlb (f : DS → Option (D × DS)) (g h : DS → Option (Option Int)) : DS → Option (D × DS) := fun ds => (f ds).bind fun r => (g r.2).bind fun l => (h r.2).bind fun u => (dCut l u r.1).bind fun d => some (d, r.2)
theorem e_slb {f : DS → Option (D × DS)} {g h : DS → Option (Option Int)} (ha : PEo X e f) (hl : PObd X lo g) (hh : PObd X hi h) : PEd X (.Subscript e (.Slice lo hi none p2) pos) (dSlb f g h) := by
  obtain ⟨t, ht, s⟩ := ha
  obtain ⟨tl, hl, sl⟩ := hl
  obtain ⟨th, hh, sh⟩ := hh
  refine ⟨_, pe_slice sl3 ht hl hh, fun O σ H ds fp d ds' Q rs e k => ?_⟩
  obtain ⟨⟨c, ds1⟩, e1, e⟩ := Option.bind_eq_some_iff.mp e
  obtain ⟨l, e2, e⟩ := Option.bind_eq_some_iff.mp e
  obtain ⟨u, e3, e⟩ := Option.bind_eq_some_iff.mp e
  obtain ⟨z, e4, e⟩ := Option.bind_eq_some_iff.mp e
  cases e
  refine s O σ H ds fp c ds1 _ rs e1 fun v H1 fp1 p x r1 rv n1 s1 => ?_
  refine sl (OO O x) σ H1 ds1 fp1 l _ r1 e2 (sh (OO O x) σ H1 ds1 fp1 u _ r1 e3 ?_)
  exact sl_rd r1.tr rv e4 (fin_op r1 s1 k)

/-! ### displays -/
/-- items, one behind the other, each new or shared -/
def PAd (X : Cx) (es : List Expr) (f : DS → Option (List D × DS)) : Prop := ∃ t, PA X es t ∧ ∀ (O : ASet) (σ : St) (H : Hp) (ds : DS) (fp : Nat → List Addr) (xs : List D) (ds' : DS) (Q : List V → Hp → Prop), RS X.K O σ H ds fp → f ds = some (xs, ds') →
  (∀ vs H' fp' p, RS X.K (OO O p) σ H' ds' fp' → RL X.K H' (MM (OO O p) fp') vs xs p → (∀ a ∈ p, ¬ O a) → Step H H' fp fp' p → Q vs H') → t σ H Q
def dA0 : DS → Option (List D × DS) := fun ds => some ([], ds)
def dA1 (f : DS → Option (D × DS)) (g : DS → Option (List D × DS)) : DS → Option (List D × DS) := fun ds => (f ds).bind fun r => (g r.2).bind fun q => some (r.1 :: q.1, q.2)
theorem a_nil : PAd X [] dA0 := ⟨_, pa_nil, fun O σ H ds fp xs ds' Q r e k => by
  cases e
  exact k [] H fp [] (by rw [OO_nil]; exact r) .nil (fun _ z => nomatch z) Step.refl⟩
theorem a_cons {f : DS → Option (D × DS)} {g : DS → Option (List D × DS)} (ha : PEd X e f) (hr : PAd X es g) (hs : starEach (e :: es) X.env = (false, eval e X.env) :: starEach es X.env := by rfl) : PAd X (e :: es) (dA1 f g) := by
  obtain ⟨t, ht, s⟩ := ha
  obtain ⟨u, hu, su⟩ := hr
  refine ⟨_, pa_cons ht hu hs, fun O σ H ds fp xs ds' Q r e k => ?_⟩
  obtain ⟨⟨d, ds1⟩, e1, e⟩ := Option.bind_eq_some_iff.mp e
  obtain ⟨⟨ys, ds2⟩, e2, e⟩ := Option.bind_eq_some_iff.mp e
  cases e
  refine s O σ H ds fp d ds1 _ r e1 fun v H1 fp1 p r1 rv n1 s1 => ?_
  refine su (OO O p) σ H1 ds1 fp1 ys ds2 _ r1 e2 fun vs H2 fp2 q r2 rvs n2 s2 => ?_
  rw [OO_OO] at r2 rvs
  have cv := r1.carry (O' := OO O (p ++ q)) s2 (q := p) (fun a z => .inr z) (fun a z => z.elim (fun z => .inl (.inl z)) fun z => (List.mem_append.mp z).imp .inr id) (fun a z => z.elim .inl fun z => .inr (List.mem_append_left _ z))
  refine k (v :: vs) H2 fp2 (p ++ q) r2 (.cons (rv.carry cv) rvs fun a z w => n2 a w (.inr z)) (fun a z => (List.mem_append.mp z).elim (n1 a) fun z w => n2 a z (.inl w)) ?_
  exact (s1.trans s2 fun a z i w => r1.off i a w (.inr z)).less fun a z => List.mem_append.mpr (List.mem_append.mp z).symm
def dTup (f : DS → Option (List D × DS)) : DS → Option (D × DS) := fun ds => (f ds).bind fun r => if r.1.length ≤ sizeLine then some (.tup r.1, r.2) else none
def dLst (f : DS → Option (List D × DS)) : DS → Option (D × DS) := fun ds => (f ds).bind fun r => if r.1.length ≤ sizeLine then some (.lst true r.1, r.2) else none
theorem e_tup {x1} {f : DS → Option (List D × DS)} (h : PAd X es f) : PEd X (.Tuple es x1 pos) (dTup f) := by
  obtain ⟨t, ht, s⟩ := h
  refine ⟨_, pe_tup ht, fun O σ H ds fp d ds' Q r e k => ?_⟩
  obtain ⟨⟨xs, ds1⟩, e1, e⟩ := Option.bind_eq_some_iff.mp e
  split at e
  · rename_i hz
    cases e
    refine s O σ H ds fp xs ds1 _ r e1 fun vs H1 fp1 p r1 rv n1 s1 => ⟨by rw [rv.len]; exact hz, fun a ha => ?_⟩
    have kp := more_upd (o := .tup vs) ha
    refine k (.ref a) _ fp1 p (r1.more kp fun b z => .inl z) (.tup upd_same (fun z => r1.tr a z ha) (rv.more kp (fun b z => .inl z) (fun b z => .inl (.inr z)))) n1 ?_
    exact ⟨fun b o e n => kp b o (s1.keep b o e n), s1.org⟩
  · cases e
theorem e_lst {f : DS → Option (List D × DS)} (h : PAd X es f) : PEd X (.List es pos) (dLst f) := by
  obtain ⟨t, ht, s⟩ := h
  refine ⟨_, pe_lst ht, fun O σ H ds fp d ds' Q r e k => ?_⟩
  obtain ⟨⟨xs, ds1⟩, e1, e⟩ := Option.bind_eq_some_iff.mp e
  split at e
  · rename_i hz
    cases e
    refine s O σ H ds fp xs ds1 _ r e1 fun vs H1 fp1 p r1 rv n1 s1 => ⟨by rw [rv.len]; exact hz, fun a ha => ?_⟩
    have kp := more_upd (o := .lst vs) ha
    have na : a ∉ p := fun z => r1.tr a (.inl (.inr z)) ha
    have r2 : RS X.K (OO O (a :: p)) σ (upd H1 a (.lst vs)) ds1 fp1 := r1.more kp fun b z => by
      rcases z with z | z
      · exact .inl (.inl z)
      · rcases List.mem_cons.mp z with z | z
        · subst z; exact .inr ⟨ha, by rw [upd_same]; exact fun w => nomatch w⟩
        · exact .inl (.inr z)
    refine k (.ref a) _ fp1 (a :: p) r2 (.lstM upd_same (.inl (.inr (List.mem_cons_self ..))) na (rv.more kp (fun b z => ?_) fun b z => .inl (.inr (List.mem_cons_of_mem _ z)))) (fun b z w => ?_) ?_
    · rcases z with (z | z) | z
      · exact .inl (.inl (.inl z))
      · rcases List.mem_cons.mp z with z | z
        · subst z; exact .inr ha
        · exact .inl (.inl (.inr z))
      · exact .inl (.inr z)
    · rcases List.mem_cons.mp z with z | z
      · subst z; exact r1.tr _ (.inl (.inl w)) ha
      · exact n1 b z w
    · refine ⟨fun b o e n => kp b o (s1.keep b o e n), fun b z => ?_⟩
      rcases z with z | z
      · exact s1.org b (.inl z)
      · rcases List.mem_cons.mp z with z | z
        · subst z
          by_cases w : ∃ i, b ∈ fp i
          · exact .inl w
          · cases e : H b with
            | none => exact .inr rfl
            | some o =>
              have := s1.keep b o e fun i z => w ⟨i, z⟩
              rw [ha] at this; cases this
        · exact s1.org b (.inr z)
  · cases e

/-! ### argument lists of built-ins -/
abbrev RB (K : PySem.W.Frag) (H : Hp) (M : ASet) : List V → List D → Prop := Paired (fun v d => ∃ p, R K H M v d p)
theorem RL.rb {K : PySem.W.Frag} {H : Hp} {M : ASet} : ∀ {vs : List V} {ds : List D} {p : List Addr}, RL K H M vs ds p → RB K H M vs ds
  | _, _, _, .nil => .nil
  | _, _, _, .cons a t _ => .cons ⟨_, a⟩ (RL.rb t)
def PAo (X : Cx) (es : List Expr) (f : DS → Option (List D × DS)) : Prop := ∃ t, PA X es t ∧ ∀ (O : ASet) (σ : St) (H : Hp) (ds : DS) (fp : Nat → List Addr) (xs : List D) (ds' : DS) (Q : List V → Hp → Prop), RS X.K O σ H ds fp → f ds = some (xs, ds') →
  (∀ vs H' fp' x, RS X.K (OO O x) σ H' ds' fp' → RB X.K H' (MM (OO O x) fp') vs xs → (∀ a ∈ x, ¬ O a) → Step H H' fp fp' x → Q vs H') → t σ H Q
theorem PAd.o {f : DS → Option (List D × DS)} (h : PAd X es f) : PAo X es f := by
  obtain ⟨t, ht, s⟩ := h
  exact ⟨t, ht, fun O σ H ds fp xs ds' Q r e k => s O σ H ds fp xs ds' Q r e fun vs H' fp' p r' rv n st => k vs H' fp' p r' rv.rb n st⟩
def dO1 (f : DS → Option (D × DS)) : DS → Option (List D × DS) := fun ds => (f ds).bind fun r => some ([r.1], r.2)
theorem a_o1 {f : DS → Option (D × DS)} (h : PEo X e f) (hs : starEach [e] X.env = (false, eval e X.env) :: starEach [] X.env := by rfl) : PAo X [e] (dO1 f) := by
  obtain ⟨t, ht, s⟩ := h
  refine ⟨_, pa_cons ht pa_nil hs, fun O σ H ds fp xs ds' Q r e k => ?_⟩
  obtain ⟨⟨d, ds1⟩, e1, e⟩ := Option.bind_eq_some_iff.mp e
  cases e
  exact s O σ H ds fp d ds1 _ r e1 fun v H1 fp1 p x r1 rv n1 s1 => k [v] H1 fp1 x r1 (.cons ⟨p, rv⟩ .nil) n1 s1
def dO2 (f : DS → Option (D × D × DS)) : DS → Option (List D × DS) := fun ds => (f ds).bind fun r => some ([r.1, r.2.1], r.2.2)
theorem a_o2 {f : DS → Option (D × D × DS)} (h : P2d X a b f) (hs : starEach [a, b] X.env = (false, eval a X.env) :: starEach [b] X.env := by rfl) (hs2 : starEach [b] X.env = (false, eval b X.env) :: starEach [] X.env := by rfl) : PAo X [a, b] (dO2 f) := by
  obtain ⟨ta, tb, ha, hb, s⟩ := h
  refine ⟨_, pa_cons ha (pa_cons hb pa_nil hs2) hs, fun O σ H ds fp xs ds' Q r e k => ?_⟩
  obtain ⟨⟨d, d2, ds1⟩, e1, e⟩ := Option.bind_eq_some_iff.mp e
  cases e
  exact s O σ H ds fp d d2 ds1 _ r e1 fun v u H1 fp1 p q x r1 rv ru n1 s1 => k [v, u] H1 fp1 x r1 (.cons ⟨p, rv⟩ (.cons ⟨q, ru⟩ .nil)) n1 s1
def dCB (F : List D → Option D) (f : DS → Option (List D × DS)) : DS → Option (D × DS) := fun ds => (f ds).bind fun r => (F r.1).bind fun d => some (d, r.2)
variable {x : Str} {p : Pos} {id T : String}
theorem e_callB {F : List D → Option D} {f : DS → Option (List D × DS)} (hc : CallD X (.builtin id) F) (hm : X.mg x = none) (ha : PAo X (e :: es) f) (hg : Gl X x := by rfl) (hv : bootBuiltins x = some (.builtin id) := by decide +kernel) (hn : x ≠ "__name__" := by decide) (hdb : (x == ("__debug__" : Str)) = false := by decide)
    (he : starEach (e :: es) X.env = (false, eval e X.env) :: starEach es X.env := by rfl) (hpl : (backTo pos (starEach es X.env)).any (·.1) = false := by rfl) : PEd X (.Call (.Name x p) (e :: es) [] pos) (dCB F f) := by
  obtain ⟨r, hr, sr⟩ := hc
  obtain ⟨t, ht, s⟩ := ha
  refine ⟨_, pe_callB hr hg hm hv ht hn hdb he hpl, fun O σ H ds fp d ds' Q rs e k => ?_⟩
  obtain ⟨⟨xs, ds1⟩, e1, e⟩ := Option.bind_eq_some_iff.mp e
  obtain ⟨d, e2, e⟩ := Option.bind_eq_some_iff.mp e
  cases e
  exact s O σ H ds fp xs ds1 _ rs e1 fun vs H1 fp1 x r1 rv n1 s1 => sr _ _ _ _ _ _ r1.tr rv e2 (fin_op r1 s1 k)
theorem e_callT {F : List D → Option D} {f : DS → Option (List D × DS)} (hc : CallD X (.type T) F) (hm : X.mg x = none) (ha : PAo X (e :: es) f) (hg : Gl X x := by rfl) (hv : bootBuiltins x = some (.type T) := by decide +kernel) (hn : x ≠ "__name__" := by decide) (hdb : (x == ("__debug__" : Str)) = false := by decide)
    (he : starEach (e :: es) X.env = (false, eval e X.env) :: starEach es X.env := by rfl) (hpl : (backTo pos (starEach es X.env)).any (·.1) = false := by rfl) : PEd X (.Call (.Name x p) (e :: es) [] pos) (dCB F f) := by
  obtain ⟨r, hr, sr⟩ := hc
  obtain ⟨t, ht, s⟩ := ha
  refine ⟨_, pe_callTy hr hg hm hv ht hn hdb he hpl, fun O σ H ds fp d ds' Q rs e k => ?_⟩
  obtain ⟨⟨xs, ds1⟩, e1, e⟩ := Option.bind_eq_some_iff.mp e
  obtain ⟨d, e2, e⟩ := Option.bind_eq_some_iff.mp e
  cases e
  exact s O σ H ds fp xs ds1 _ rs e1 fun vs H1 fp1 x r1 rv n1 s1 => sr _ _ _ _ _ _ r1.tr rv e2 (fin_op r1 s1 k)

/-! ### built-ins by values -/
theorem RB.one {K : PySem.W.Frag} {H : Hp} {M : ASet} {vs : List V} {d : D} (r : RB K H M vs [d]) : ∃ v p, vs = [v] ∧ R K H M v d p := by
  cases r with
  | cons a t =>
    cases t
    obtain ⟨p, a⟩ := a
    exact ⟨_, p, rfl, a⟩
theorem RB.two {K : PySem.W.Frag} {H : Hp} {M : ASet} {vs : List V} {c d : D} (r : RB K H M vs [c, d]) : ∃ v u p q, vs = [v, u] ∧ R K H M v c p ∧ R K H M u d q := by
  cases r with
  | cons a t =>
    obtain ⟨u, q, rfl, b⟩ := RB.one t
    obtain ⟨p, a⟩ := a
    exact ⟨_, u, p, q, rfl, a, b⟩
def fLen : List D → Option D
  | [.tup xs] => some (.int xs.length)
  | [.lst _ xs] => some (.int xs.length)
  | [.frl xs] => some (.int xs.length)
  | [.str s] => if s.length ≤ sizeLine then some (.int s.length) else none
  | _ => none
theorem c_len : CallD X (.builtin "len") fLen := by
  refine ⟨_, call_len, fun M H vs ds e Q hM rb h k => ?_⟩
  unfold fLen at h
  split at h
  · cases h
    obtain ⟨v, p, rfl, r⟩ := RB.one rb
    obtain ⟨a, ws, rfl, sa, ra⟩ := r.tupS
    exact ⟨_, _, rfl, .inr ⟨ws, sa, rfl⟩, by rw [ra.len]; exact k.int⟩
  · cases h
    obtain ⟨v, p, rfl, r⟩ := RB.one rb
    obtain ⟨a, ws, _, rfl, sa, ra, _⟩ := r.lstS
    exact ⟨_, _, rfl, .inl ⟨ws, .inl (.inl sa), rfl⟩, by rw [ra.len]; exact k.int⟩
  · cases h
    obtain ⟨v, p, rfl, r⟩ := RB.one rb
    cases r with
    | frl sa n ra => exact ⟨_, _, rfl, .inl ⟨_, .inl (.inr ⟨_, sa⟩), rfl⟩, by rw [ra.len]; exact k.int⟩
    | frk sa ra => exact ⟨_, _, rfl, .inl ⟨_, sa H, rfl⟩, by rw [ra.len]; exact k.int⟩
  · split at h
    · rename_i hz
      cases h
      obtain ⟨v, p, rfl, r⟩ := RB.one rb
      cases r
      exact ⟨_, _, rfl, ⟨hz, rfl⟩, k.int⟩
    · cases h
  · cases h
def fInt : List D → Option D
  | [.int i] => some (.int i)
  | [.bl b] => some (.int (if b then 1 else 0))
  | _ => none
theorem c_int : CallD X (.type "int") fInt := by
  refine ⟨_, call_int1, fun M H vs ds e Q hM rb h k => ?_⟩
  unfold fInt at h
  split at h
  · cases h
    obtain ⟨v, p, rfl, r⟩ := RB.one rb
    cases r
    exact .inl ⟨_, rfl, k.int⟩
  · cases h
    obtain ⟨v, p, rfl, r⟩ := RB.one rb
    cases r
    exact .inr ⟨_, rfl, k.int⟩
  · cases h
def fStr : List D → Option D
  | [.int i] => if i.natAbs.log2 < 1920 then some (.str (toString i)) else none
  | _ => none
theorem c_str : CallD X (.type "str") fStr := by
  refine ⟨_, call_str_int, fun M H vs ds e Q hM rb h k => ?_⟩
  unfold fStr at h
  split at h
  · split at h
    · rename_i hz
      cases h
      obtain ⟨v, p, rfl, r⟩ := RB.one rb
      cases r
      exact ⟨_, rfl, hz, k.str⟩
    · cases h
  · cases h
def fMax2 : List D → Option D
  | [.int i, .int j] => some (.int (if j > i then j else i))
  | _ => none
def fMin2 : List D → Option D
  | [.int i, .int j] => some (.int (if j < i then j else i))
  | _ => none
theorem c_max2 (hc : X.calm = true := by rfl) : CallD X (.builtin "max") fMax2 := by
  refine ⟨_, call_max2 hc, fun M H vs ds e Q hM rb h k => ?_⟩
  unfold fMax2 at h
  split at h
  · cases h
    obtain ⟨v, u, p, q, rfl, r, s⟩ := RB.two rb
    cases r
    cases s
    exact ⟨_, _, rfl, k.int⟩
  · cases h
theorem c_min2 (hc : X.calm = true := by rfl) : CallD X (.builtin "min") fMin2 := by
  refine ⟨_, call_min2 hc, fun M H vs ds e Q hM rb h k => ?_⟩
  unfold fMin2 at h
  split at h
  · cases h
    obtain ⟨v, u, p, q, rfl, r, s⟩ := RB.two rb
    cases r
    cases s
    exact ⟨_, _, rfl, k.int⟩
  · cases h
def fAbs : List D → Option D
  | [.int i] => some (.int (if i < 0 then -i else i))
  | _ => none
theorem c_abs : CallD X (.builtin "abs") fAbs := by
  refine ⟨_, call_abs, fun M H vs ds e Q hM rb h k => ?_⟩
  unfold fAbs at h
  split at h
  · cases h
    obtain ⟨v, p, rfl, r⟩ := RB.one rb
    cases r
    exact ⟨_, rfl, k.int⟩
  · cases h
/-- tuple(x), list(x) of lists and tuples of shared items -/
def fTuple : List D → Option D
  | [.tup xs] => if shL xs then some (.tup xs) else none
  | [.lst _ xs] => if shL xs then some (.tup xs) else none
  | _ => none
theorem c_tuple : CallD X (.type "tuple") fTuple := by
  refine ⟨_, call_tuple_of, fun M H vs ds e Q hM rb h k => ?_⟩
  unfold fTuple at h
  split at h
  · split at h
    · rename_i hs
      cases h
      obtain ⟨v, p, rfl, r⟩ := RB.one rb
      obtain ⟨a, ws, rfl, sa, ra⟩ := r.tupS
      exact ⟨a, ws, rfl, .inr ⟨sa, k.same r (by rw [D.sh]; exact hs)⟩⟩
    · cases h
  · split at h
    · rename_i hs
      cases h
      obtain ⟨v, p, rfl, r⟩ := RB.one rb
      obtain ⟨a, ws, _, rfl, sa, ra, _⟩ := r.lstS
      exact ⟨a, ws, rfl, .inl ⟨.inl (.inl sa), k.tup hM ra hs⟩⟩
    · cases h
  · cases h
def fList : List D → Option D
  | [.tup xs] => if shL xs then some (.lst true xs) else none
  | [.lst _ xs] => if shL xs then some (.lst true xs) else none
  | _ => none
theorem c_list : CallD X (.type "list") fList := by
  refine ⟨_, call_list_of, fun M H vs ds e Q hM rb h k => ?_⟩
  unfold fList at h
  split at h
  · split at h
    · rename_i hs
      cases h
      obtain ⟨v, p, rfl, r⟩ := RB.one rb
      obtain ⟨a, ws, rfl, sa, ra⟩ := r.tupS
      exact ⟨a, ws, rfl, .inr sa, k.lst hM ra hs⟩
    · cases h
  · split at h
    · rename_i hs
      cases h
      obtain ⟨v, p, rfl, r⟩ := RB.one rb
      obtain ⟨a, ws, _, rfl, sa, ra, _⟩ := r.lstS
      exact ⟨a, ws, rfl, .inl (.inl (.inl sa)), k.lst hM ra hs⟩
    · cases h
  · cases h
end
end DL

/-! DL6: targets, statements, blocks, loops. -/
namespace DL
open PySem PySem.Spec L2

section
variable {X : Cx} {Wx : WXd} {a b c e : Expr} {es : List Expr} {pos : Pos}

/-! ### targets -/
/-- a step of the slots alone -/
def SlStep (fp fp' : Nat → List Addr) (p : List Addr) : Prop := ∀ a, (∃ i, a ∈ fp' i) → a ∈ p ∨ ∃ i, a ∈ fp i
def PGd (X : Cx) (tg : Expr) (g : D → DS → Option DS) (W : List Nat) : Prop := ∃ t, PG X tg t ∧ ∀ (O : ASet) (σ : St) (H : Hp) (ds : DS) (fp : Nat → List Addr) (v : V) (d : D) (p : List Addr) (ds' : DS) (Q : St → Hp → Prop), RS X.K (OO O p) σ H ds fp → R X.K H (MM (OO O p) fp) v d p → (∀ a ∈ p, ¬ O a) → g d ds = some ds' →
  (∀ σ' fp', RS X.K O σ' H ds' fp' → SlStep fp fp' p → (∀ i, i ∉ W → σ'[i]? = σ[i]?) → σ'.length = σ.length → Q σ' H) → t v σ H Q
def PGsd (X : Cx) (tgs : List Expr) (g : List D → DS → Option DS) (W : List Nat) : Prop := ∃ t, PGs X tgs t ∧ ∀ (O : ASet) (σ : St) (H : Hp) (ds : DS) (fp : Nat → List Addr) (vs : List V) (xs : List D) (p : List Addr) (ds' : DS) (Q : St → Hp → Prop), RS X.K (OO O p) σ H ds fp → RL X.K H (MM (OO O p) fp) vs xs p → (∀ a ∈ p, ¬ O a) → g xs ds = some ds' →
  (∀ σ' fp', RS X.K O σ' H ds' fp' → SlStep fp fp' p → (∀ i, i ∉ W → σ'[i]? = σ[i]?) → σ'.length = σ.length → Q σ' H) → t vs σ H Q
def gNm (i : Nat) : D → DS → Option DS := fun d ds => if i < ds.length then some (ds.set i (some d)) else none
theorem SlStep.put {fp : Nat → List Addr} {i : Nat} {p : List Addr} : SlStep fp (upF fp i p) p := fun a ⟨j, z⟩ => by
  rcases upF_mem z with ⟨_, z⟩ | ⟨_, z⟩
  · exact .inl z
  · exact .inr ⟨j, z⟩
theorem g_nm (i : Nat) {x : Str} (hN : X.N.Nodup) (hi : X.N[i]? = some x := by rfl) (hx : Loc X.env.scope x := by first | exact Or.inl rfl | exact Or.inr rfl) (hf : X.fn x = true ∨ X.env.scope.names.lookup x = some .local := by first | exact .inl rfl | exact .inr rfl) : PGd X (.Name x pos) (gNm i) [i] := by
  refine ⟨_, pg_name hN hi hx hf, fun O σ H ds fp v d p ds' Q r rv n e k => ?_⟩
  unfold gNm at e
  split at e
  · rename_i hl
    cases e
    exact k _ _ (r.put rv n hl) SlStep.put (fun j hj => by rw [List.getElem?_set_ne (fun z => hj (List.mem_singleton.mpr z.symm))]) (List.length_set ..)
  · cases e
def gs0 : List D → DS → Option DS := fun xs ds => match xs with
  | [] => some ds
  | _ => none
def gs1 (g : D → DS → Option DS) (h : List D → DS → Option DS) : List D → DS → Option DS := fun xs ds => match xs with
  | x :: r => (g x ds).bind fun ds1 => h r ds1
  | [] => none
theorem gs_nil : PGsd X [] gs0 [] := by
  refine ⟨_, pgs_nil, fun O σ H ds fp vs xs p ds' Q r rv n e k => ?_⟩
  cases rv with
  | nil => cases e; exact ⟨rfl, k σ fp r.drop (fun a z => .inr z) (fun _ _ => rfl) rfl⟩
  | cons _ _ _ => cases e
variable {W W2 : List Nat}
theorem gs_cons {g : D → DS → Option DS} {h : List D → DS → Option DS} (h1 : PGd X e g W) (h2 : PGsd X es h W2) (hs : (assignEach (e :: es) X.env).map (·.2) = assign e X.env :: (assignEach es X.env).map (·.2) := by rfl) : PGsd X (e :: es) (gs1 g h) (W ++ W2) := by
  obtain ⟨t, ht, s⟩ := h1
  obtain ⟨u, hu, su⟩ := h2
  refine ⟨_, pgs_cons ht hu hs, fun O σ H ds fp vs xs p ds' Q r rv n e k => ?_⟩
  cases rv with
  | nil => cases e
  | cons rv rs nd =>
    rename_i v d p vs ds p2
    obtain ⟨ds1, e1, e2⟩ := Option.bind_eq_some_iff.mp e
    refine ⟨v, vs, rfl, ?_⟩
    have r' : RS X.K (OO (OO O p2) p) σ H _ fp := r.outer fun a z => by
      rcases z with (z | z) | z
      · exact .inl z
      · exact .inr (List.mem_append_right _ z)
      · exact .inr (List.mem_append_left _ z)
    refine s (OO O p2) σ H _ fp v d p ds1 _ r' (rv.fewer (fun a z => ?_) fun a z => .inl (.inr z)) (fun a z w => ?_) e1 fun σ1 fp1 r1 st1 kw1 ln1 => ?_
    · rcases z with ((z | z) | z) | z
      · exact .inl (.inl z)
      · exact .inl (.inr (List.mem_append_right _ z))
      · exact .inl (.inr (List.mem_append_left _ z))
      · exact .inr z
    · rcases w with w | w
      · exact n a (List.mem_append_left _ z) w
      · exact nd a z w
    · refine su O σ1 H ds1 fp1 vs ds p2 ds' _ r1 (rs.fewer (fun a z => ?_) fun a z => .inl (.inr z)) (fun a z => n a (List.mem_append_right _ z)) e2 fun σ2 fp2 r2 st2 kw2 ln2 => ?_
      · rcases z with (z | z) | z
        · exact .inl (.inl z)
        · exact .inl (.inr (List.mem_append_right _ z))
        · rcases st1 a z with z | z
          · exact .inl (.inr (List.mem_append_left _ z))
          · exact .inr z
      · refine k σ2 fp2 r2 (fun a z => ?_) (fun i hi => ?_) (ln2.trans ln1)
        · rcases st2 a z with z | z
          · exact .inl (List.mem_append_right _ z)
          · rcases st1 a z with z | z
            · exact .inl (List.mem_append_left _ z)
            · exact .inr z
        · rw [kw2 i fun z => hi (List.mem_append_right _ z), kw1 i fun z => hi (List.mem_append_left _ z)]
def gTp (n : Nat) (h : List D → DS → Option DS) : D → DS → Option DS := fun d ds => match d with
  | .tup xs => if xs.length = n then h xs ds else none
  | _ => none
theorem R.tupP {K : PySem.W.Frag} {H : Hp} {M : ASet} {v : V} {ds : List D} {p : List Addr} (r : R K H M v (.tup ds) p) : ∃ a vs, v = .ref a ∧ SqT K H a vs ∧ RL K H M vs ds p := r.tupS
theorem g_tup {k : Nat} {n : Nat} {h : List D → DS → Option DS} (hc : X.calm = true) (hs : PGsd X es h W) (hn : (assignEach es X.env).length = n := by rfl) (hst : (assignEach es X.env).findIdx? (·.1) = none := by rfl) : PGd X (.Tuple es k pos) (gTp n h) W := by
  obtain ⟨t, ht, s⟩ := hs
  subst hn
  refine ⟨_, pg_tup hc ht rfl hst, fun O σ H ds fp v d p ds' Q r rv n e k => ?_⟩
  unfold gTp at e
  split at e
  · split at e
    · rename_i xs hl
      obtain ⟨a, vs, rfl, sa, ra⟩ := rv.tupS
      exact ⟨a, vs, rfl, sa, by rw [ra.len]; exact hl, s O σ H ds fp vs xs p ds' Q r ra n e k⟩
    · cases e
  · cases e

/-! ### small statements -/
theorem PostS.mono {O : ASet} {σ σ1 : St} {H H1 : Hp} {fp fp1 : Nat → List Addr} {Dn : Ends} {fl : Fl} {ds' : DS} (k : PostS X Wx O σ H fp (W ++ W2) Dn fl ds') (st : Step H H1 fp fp1 []) (kw : ∀ i, i ∉ W → σ1[i]? = σ[i]?) : PostS X Wx O σ1 H1 fp1 W2 Dn fl ds' := by
  have w : ∀ {σ' : St}, (∀ i, i ∉ W2 → σ'[i]? = σ1[i]?) → ∀ i, i ∉ W ++ W2 → σ'[i]? = σ[i]? := fun h i hi => by
    rw [h i fun z => hi (List.mem_append_right _ z), kw i fun z => hi (List.mem_append_left _ z)]
  cases fl with
  | nx => exact fun σ' H' fp' r s h => k σ' H' fp' r (st.then s) (w h)
  | bk => exact fun σ' H' fp' r s h => k σ' H' fp' r (st.then s) (w h)
  | ct => exact fun σ' H' fp' r s h => k σ' H' fp' r (st.then s) (w h)
  | rt d => exact fun v σ' H' fp' p r rv n s h => k v σ' H' fp' p r rv n (st.then s) (w h)
  | ex C fs => exact fun σ' H' fp' dx r x s h => k σ' H' fp' dx r x (st.then s) (w h)
theorem PostS.sub {O : ASet} {σ : St} {H : Hp} {fp : Nat → List Addr} {Dn : Ends} {fl : Fl} {ds' : DS} (k : PostS X Wx O σ H fp W Dn fl ds') (h : ∀ i ∈ W2, i ∈ W) : PostS X Wx O σ H fp W2 Dn fl ds' := by
  have w : ∀ {σ' : St}, (∀ i, i ∉ W2 → σ'[i]? = σ[i]?) → ∀ i, i ∉ W → σ'[i]? = σ[i]? := fun g i hi => g i fun z => hi (h i z)
  cases fl with
  | nx => exact fun σ' H' fp' r s h => k σ' H' fp' r s (w h)
  | bk => exact fun σ' H' fp' r s h => k σ' H' fp' r s (w h)
  | ct => exact fun σ' H' fp' r s h => k σ' H' fp' r s (w h)
  | rt d => exact fun v σ' H' fp' p r rv n s h => k v σ' H' fp' p r rv n s (w h)
  | ex C fs => exact fun σ' H' fp' dx r x s h => k σ' H' fp' dx r x s (w h)
theorem Step.put {H H1 : Hp} {fp fp1 fp2 : Nat → List Addr} {p : List Addr} (s : Step H H1 fp fp1 p) (g : SlStep fp1 fp2 p) : Step H H1 fp fp2 [] := ⟨s.keep, fun a z => by
  rcases z with z | z
  · rcases g a z with z | z
    · exact s.org a (.inr z)
    · exact s.org a (.inl z)
  · exact nomatch z⟩
def dAsg (f : DS → Option (D × DS)) (g : D → DS → Option DS) : DS → Option (Fl × DS) := fun ds => (f ds).bind fun r => (g r.1 r.2).bind fun ds' => some (.nx, ds')
theorem d_asg {tg : Expr} {f : DS → Option (D × DS)} {g : D → DS → Option DS} (he : PEd X e f) (hg : PGd X tg g W) (hs : swapsWithSole [tg] e pos.line X.env = pure false := by rfl) (hw : swappedStores [tg] e X.env = pure none := by rfl) (h1 : (assignEach [tg] X.env).map (·.2) = [assign tg X.env] := by rfl) : PSd X Wx (.Assign [tg] e pos) (dAsg f g) W := by
  obtain ⟨t, ht, s⟩ := he
  obtain ⟨u, hu, su⟩ := hg
  refine ⟨_, ps_asg ht hu hs hw h1, fun O σ H ds fp fl ds' Dn r e k => ?_⟩
  obtain ⟨⟨d, ds1⟩, e1, e⟩ := Option.bind_eq_some_iff.mp e
  obtain ⟨ds2, e2, e⟩ := Option.bind_eq_some_iff.mp e
  cases e
  exact s O σ H ds fp d ds1 _ r e1 fun v H1 fp1 p r1 rv n1 s1 => su O σ H1 ds1 fp1 v d p _ _ r1 rv n1 e2 fun σ2 fp2 r2 st2 kw2 _ => k σ2 H1 fp2 r2 (s1.put st2) kw2
theorem d_set (i : Nat) {x : Str} {pos' : Pos} {f : DS → Option (D × DS)} (hN : X.N.Nodup) (he : PEd X e f) (hi : X.N[i]? = some x := by rfl) (hx : Loc X.env.scope x := by first | exact Or.inl rfl | exact Or.inr rfl) (hs : swapsWith e (some (.Name x pos')) pos.line X.env = pure false := by rfl) (hf : X.fn x = true ∨ X.env.scope.names.lookup x = some .local := by first | exact .inl rfl | exact .inr rfl) :
    PSd X Wx (.Assign [.Name x pos'] e pos) (dAsg f (gNm i)) [i] := by
  obtain ⟨t, ht, s⟩ := he
  obtain ⟨u, hu, su⟩ := g_nm (X := X) (pos := pos') i hN hi hx hf
  refine ⟨_, ps_set hN hi hx ht hs hf, fun O σ H ds fp fl ds' Dn r e k => ?_⟩
  obtain ⟨⟨d, ds1⟩, e1, e⟩ := Option.bind_eq_some_iff.mp e
  obtain ⟨ds2, e2, e⟩ := Option.bind_eq_some_iff.mp e
  cases e
  refine s O σ H ds fp d ds1 _ r e1 fun v H1 fp1 p r1 rv n1 s1 => ?_
  unfold gNm at e2
  split at e2
  · rename_i hl
    cases e2
    exact k _ H1 _ (r1.put rv n1 hl) (s1.put SlStep.put) fun j hj => by rw [List.getElem?_set_ne (fun z => hj (List.mem_singleton.mpr z.symm))]
  · cases e2
def dDrop (f : DS → Option (D × DS)) : DS → Option (Fl × DS) := fun ds => (f ds).bind fun r => some (.nx, r.2)
theorem d_expr {f : DS → Option (D × DS)} (he : PEd X e f) (hs : swapsWith e none pos.line X.env = pure false := by rfl) : PSd X Wx (.Expr e pos) (dDrop f) [] := by
  obtain ⟨t, ht, s⟩ := he
  refine ⟨_, ps_expr ht hs, fun O σ H ds fp fl ds' Dn r e k => ?_⟩
  obtain ⟨⟨d, ds1⟩, e1, e⟩ := Option.bind_eq_some_iff.mp e
  cases e
  exact s O σ H ds fp d ds1 _ r e1 fun v H1 fp1 p r1 rv n1 s1 => k σ H1 fp1 r1.drop (s1.less fun _ z => nomatch z) fun _ _ => rfl
def dRet (f : DS → Option (D × DS)) : DS → Option (Fl × DS) := fun ds => (f ds).bind fun r => some (.rt r.1, r.2)
theorem d_ret {f : DS → Option (D × DS)} (he : PEd X e f) : PSd X Wx (.Return (some e) pos) (dRet f) [] := by
  obtain ⟨t, ht, s⟩ := he
  refine ⟨_, ps_ret ht, fun O σ H ds fp fl ds' Dn r e k => ?_⟩
  obtain ⟨⟨d, ds1⟩, e1, e⟩ := Option.bind_eq_some_iff.mp e
  cases e
  exact s O σ H ds fp d ds1 _ r e1 fun v H1 fp1 p r1 rv n1 s1 => k v σ H1 fp1 p r1 rv n1 s1 fun _ _ => rfl
def dRetN : DS → Option (Fl × DS) := fun ds => some (.rt .non, ds)
theorem d_retN : PSd X Wx (.Return none pos) dRetN [] := by
  refine ⟨_, ps_retN, fun O σ H ds fp fl ds' Dn r e k => ?_⟩
  cases e
  exact k .non σ H fp [] (by rw [OO_nil]; exact r) .non (fun _ z => nomatch z) Step.refl fun _ _ => rfl
def dPass : DS → Option (Fl × DS) := fun ds => some (.nx, ds)
def dBrk : DS → Option (Fl × DS) := fun ds => some (.bk, ds)
def dCnt : DS → Option (Fl × DS) := fun ds => some (.ct, ds)
theorem d_pass : PSd X Wx (.Pass pos) dPass [] := ⟨_, ps_pass, fun O σ H ds fp fl ds' Dn r e k => by cases e; exact k σ H fp r Step.refl fun _ _ => rfl⟩
theorem d_break : PSd X Wx (.Break pos) dBrk [] := ⟨_, ps_break, fun O σ H ds fp fl ds' Dn r e k => by cases e; exact k σ H fp r Step.refl fun _ _ => rfl⟩
theorem d_continue : PSd X Wx (.Continue pos) dCnt [] := ⟨_, ps_continue, fun O σ H ds fp fl ds' Dn r e k => by cases e; exact k σ H fp r Step.refl fun _ _ => rfl⟩
def dIfS (c : DS → Option (Bool × DS)) (f g : DS → Option (Fl × DS)) : DS → Option (Fl × DS) := fun ds => (c ds).bind fun r => if r.1 then f r.2 else g r.2
variable {st : Stmt} {sts sts2 : List Stmt}
theorem d_if {tc : DS → Option (Bool × DS)} {f g : DS → Option (Fl × DS)} (hc : PTd X c tc) (ha : PSsd X Wx sts f W) (hb : PSsd X Wx sts2 g W2) : PSd X Wx (.If c sts sts2 pos) (dIfS tc f g) (W ++ W2) := by
  obtain ⟨t, ht, s⟩ := hc
  obtain ⟨ta, ha, sa⟩ := ha
  obtain ⟨tb, hb, sb⟩ := hb
  refine ⟨_, ps_if ht ha hb, fun O σ H ds fp fl ds' Dn r e k => ?_⟩
  obtain ⟨⟨z, ds1⟩, e1, e⟩ := Option.bind_eq_some_iff.mp e
  refine s O σ H ds fp z ds1 _ r e1 fun H1 fp1 r1 s1 => ?_
  cases z with
  | true => exact iteT (sa O σ H1 ds1 fp1 fl ds' Dn r1 e ((k.sub (W2 := [] ++ W) fun i z => List.mem_append_left _ z).mono s1 fun _ _ => rfl))
  | false => exact iteF (sb O σ H1 ds1 fp1 fl ds' Dn r1 e ((k.sub (W2 := [] ++ W2) fun i z => List.mem_append_right _ z).mono s1 fun _ _ => rfl))
theorem dd_nil : PSsd X Wx [] dPass [] := ⟨_, pss_nil, fun O σ H ds fp fl ds' Dn r e k => by cases e; exact k σ H fp r Step.refl fun _ _ => rfl⟩
def dSeq (f g : DS → Option (Fl × DS)) : DS → Option (Fl × DS) := fun ds => (f ds).bind fun r => match r.1 with
  | .nx => g r.2
  | fl => some (fl, r.2)
theorem dd_cons {f g : DS → Option (Fl × DS)} (h1 : PSd X Wx st f W) (h2 : PSsd X Wx sts g W2) : PSsd X Wx (st :: sts) (dSeq f g) (W ++ W2) := by
  obtain ⟨t, ht, s⟩ := h1
  obtain ⟨u, hu, su⟩ := h2
  refine ⟨_, pss_cons ht hu, fun O σ H ds fp fl ds' Dn r e k => ?_⟩
  obtain ⟨⟨fl1, ds1⟩, e1, e⟩ := Option.bind_eq_some_iff.mp e
  refine s O σ H ds fp fl1 ds1 _ r e1 ?_
  cases fl1 with
  | nx => exact fun σ1 H1 fp1 r1 s1 kw1 => su O σ1 H1 ds1 fp1 fl ds' Dn r1 e (k.mono s1 kw1)
  | bk => cases e; exact fun σ' H' fp' r s h => k σ' H' fp' r s fun i hi => h i fun z => hi (List.mem_append_left _ z)
  | ct => cases e; exact fun σ' H' fp' r s h => k σ' H' fp' r s fun i hi => h i fun z => hi (List.mem_append_left _ z)
  | rt d => cases e; exact fun v σ' H' fp' p r rv n s h => k v σ' H' fp' p r rv n s fun i hi => h i fun z => hi (List.mem_append_left _ z)
  | ex C fs => cases e; exact fun σ' H' fp' dx r x s h => k σ' H' fp' dx r x s fun i hi => h i fun z => hi (List.mem_append_left _ z)
theorem dd_one {f : DS → Option (Fl × DS)} (h1 : PSd X Wx st f W) : PSsd X Wx [st] f W := by
  obtain ⟨t, ht, s⟩ := h1
  exact ⟨t, pss_one ht, s⟩

/-! ### loops -/
/-- an iterator gives the items xs: in every heap that has kept what no slot owned -/
def IterOk (K : PySem.W.Frag) (J : It) (xs : List D) (M : ASet) (H : Hp) : Prop := ∀ (H' : Hp) (M' : ASet), Carry H H' M M' [] → (∀ a, M' a → H' a ≠ none) → ∀ i : Nat,
  (∀ d, xs[i]? = some d → J.go i H' ∧ ∀ v H2, J.yld i H' v H2 → (∀ a o, H' a = some o → H2 a = some o) ∧ R K H2 M' v d []) ∧ (xs.length ≤ i → J.stop i H')
def PId (X : Cx) (tg iter : Expr) (f : DS → Option (List D × DS)) : Prop := ∃ wi, PI X tg iter wi ∧ ∀ (O : ASet) (σ : St) (H : Hp) (ds : DS) (fp : Nat → List Addr) (xs : List D) (ds' : DS) (Rr : It → Hp → Prop), RS X.K O σ H ds fp → f ds = some (xs, ds') →
  (∀ J H' fp' x, RS X.K (OO O x) σ H' ds' fp' → (∀ a ∈ x, ¬ O a) → Step H H' fp fp' x → IterOk X.K J xs (MM (OO O x) fp') H' → Rr J H') → wi σ H Rr
def dLoop (g : D → DS → Option DS) (b : DS → Option (Fl × DS)) : List D → DS → Option (Fl × DS)
  | [], ds => some (.nx, ds)
  | x :: xs, ds => (g x ds).bind fun ds1 => (b ds1).bind fun r => match r.1 with
    | .nx => dLoop g b xs r.2
    | .ct => dLoop g b xs r.2
    | .bk => some (.nx, r.2)
    | .rt d => some (.rt d, r.2)
    | .ex C fs => some (.ex C fs, r.2)
def dFor (f : DS → Option (List D × DS)) (g : D → DS → Option DS) (b : DS → Option (Fl × DS)) : DS → Option (Fl × DS) := fun ds => (f ds).bind fun r => dLoop g b r.1 r.2
theorem PostS.drop {O : ASet} {x : List Addr} {σ : St} {H : Hp} {fp : Nat → List Addr} {Dn : Ends} {fl : Fl} {ds' : DS} (k : PostS X Wx O σ H fp W Dn fl ds') : PostS X Wx (OO O x) σ H fp W Dn fl ds' := by
  cases fl with
  | nx => exact fun σ' H' fp' r s h => k σ' H' fp' r.drop s h
  | bk => exact fun σ' H' fp' r s h => k σ' H' fp' r.drop s h
  | ct => exact fun σ' H' fp' r s h => k σ' H' fp' r.drop s h
  | rt d =>
    refine fun v σ' H' fp' p r rv n s h => k v σ' H' fp' p (r.outer fun a z => z.imp .inl id) (rv.fewer (fun a z => ?_) fun a z => .inl (.inr z)) (fun a z w => n a z (.inl w)) s h
    rcases z with (z | z) | z
    · exact .inl (.inl (.inl z))
    · exact .inl (.inr z)
    · exact .inr z
  | ex C fs =>
    refine fun σ' H' fp' dx r q s h => k σ' H' fp' dx r.drop ?_ s h
    rcases q with q | ⟨a, vs, q1, q2, q3, q4⟩
    · exact .inl q
    · exact .inr ⟨a, vs, q1, q2, q3, q4.fewer (fun a z => z.imp .inl id) fun _ z => nomatch z⟩
theorem d_for {tg iter : Expr} {f : DS → Option (List D × DS)} {g : D → DS → Option DS} {b : DS → Option (Fl × DS)} (hp : PassesOwn (model X.prog X.w) X.A X.env X.xe) (hc : X.calm = true) (hi : PId X tg iter f) (hg : PGd X tg g W) (hb : PSsd X Wx sts b W2)
    (hs : ∀ x, foldedSetIterable iter X.env x = pure x := by intro _; rfl) : PSd X Wx (.For tg iter sts [] pos) (dFor f g b) (W ++ W2) := by
  obtain ⟨wi, hi, si⟩ := hi
  obtain ⟨tg, hg, sg⟩ := hg
  obtain ⟨tb, hb, sb⟩ := hb
  refine ⟨_, ps_for hp hc hi hg hb hs, fun O σ H ds fp fl ds' Dn r e k => ?_⟩
  obtain ⟨⟨xs, ds1⟩, e1, e⟩ := Option.bind_eq_some_iff.mp e
  refine si O σ H ds fp xs ds1 _ r e1 fun J H1 fp1 x r1 n1 s1 it => ?_
  have k1 : PostS X Wx (OO O x) σ H1 fp1 (W ++ W2) Dn fl ds' := ((k.sub (W2 := [] ++ (W ++ W2)) fun i z => z).mono (s1.less fun _ z => nomatch z) fun _ _ => rfl).drop
  refine ⟨fun i m σ' H' => m = xs.length - i ∧ i ≤ xs.length ∧ ∃ ds2 fp2, RS X.K (OO O x) σ' H' ds2 fp2 ∧ dLoop g b (xs.drop i) ds2 = some (fl, ds') ∧ Step H1 H' fp1 fp2 [] ∧ ∀ j, j ∉ W ++ W2 → σ'[j]? = σ[j]?, ⟨_, rfl, Nat.zero_le _, ds1, fp1, r1, by rw [List.drop_zero]; exact e, Step.refl, fun _ _ => rfl⟩, ?_⟩
  rintro i m σ2 H2 ⟨rfl, hi, ds2, fp2, r2, e2, s2, kw2⟩
  have cy : Carry H1 H2 (MM (OO O x) fp1) (MM (OO O x) fp2) [] := ⟨fun a o z w => s2.keep a o z fun j y => by
      rcases w with w | w
      · exact nomatch w
      · exact w (.inr ⟨j, y⟩), fun a z => by
      rcases z with z | z
      · exact .inl (.inl z)
      · rcases s2.org a (.inl z) with z | z
        · exact .inl (.inr z)
        · exact .inr z, fun _ z => nomatch z⟩
  have ij := it H2 _ cy r2.tr i
  by_cases hlt : i < xs.length
  · refine .inr ?_
    obtain ⟨go, yl⟩ := ij.1 xs[i] (List.getElem?_eq_getElem hlt)
    rw [List.drop_eq_getElem_cons hlt] at e2
    obtain ⟨ds3, e3, e2⟩ := Option.bind_eq_some_iff.mp e2
    obtain ⟨⟨fl4, ds4⟩, e4, e2⟩ := Option.bind_eq_some_iff.mp e2
    refine ⟨go, fun σ' H' => i + 1 ≤ xs.length ∧ ∃ ds2 fp2, RS X.K (OO O x) σ' H' ds2 fp2 ∧ dLoop g b (xs.drop (i + 1)) ds2 = some (fl, ds') ∧ Step H1 H' fp1 fp2 [] ∧ ∀ j, j ∉ W ++ W2 → σ'[j]? = σ[j]?, fun σ' H' w => ⟨_, by omega, rfl, w⟩, fun v H3 y => ?_⟩
    obtain ⟨sm, rv⟩ := yl v H3 y
    have r3 : RS X.K (OO (OO O x) []) σ2 H3 ds2 fp2 := r2.more sm fun a z => z.elim .inl fun z => nomatch z
    have s3 : Step H1 H3 fp1 fp2 [] := s2.grow sm fun _ z => nomatch z
    refine sg (OO O x) σ2 H3 ds2 fp2 v _ [] ds3 _ r3 (by rw [OO_nil]; exact rv) (fun _ z => nomatch z) e3 fun σ4 fp4 r4 st4 kw4 _ => ?_
    have s4 : Step H1 H3 fp1 fp4 [] := s3.put st4
    have kw : ∀ j, j ∉ W → σ4[j]? = σ2[j]? := kw4
    refine sb (OO O x) σ4 H3 ds3 fp4 fl4 ds4 _ r4 e4 ?_
    have kk : ∀ {σ' : St}, (∀ j, j ∉ W2 → σ'[j]? = σ4[j]?) → ∀ j, j ∉ W ++ W2 → σ'[j]? = σ[j]? := fun h j hj => by
      rw [h j fun z => hj (List.mem_append_right _ z), kw j fun z => hj (List.mem_append_left _ z), kw2 j hj]
    cases fl4 with
    | nx => exact fun σ5 H5 fp5 r5 s5 h5 => ⟨hlt, ds4, fp5, r5, e2, s4.then s5, kk h5⟩
    | ct => exact fun σ5 H5 fp5 r5 s5 h5 => ⟨hlt, ds4, fp5, r5, e2, s4.then s5, kk h5⟩
    | bk => cases e2; exact fun σ5 H5 fp5 r5 s5 h5 => k1 σ5 H5 fp5 r5 (s4.then s5) (kk h5)
    | rt d => cases e2; exact fun v σ5 H5 fp5 p r5 rv5 n5 s5 h5 => k1 v σ5 H5 fp5 p r5 rv5 n5 (s4.then s5) (kk h5)
    | ex C fs => cases e2; exact fun σ5 H5 fp5 dx r5 q5 s5 h5 => k1 σ5 H5 fp5 dx r5 q5 (s4.then s5) (kk h5)
  · refine .inl ⟨ij.2 (by omega), ?_⟩
    rw [List.drop_eq_nil_of_le (by omega)] at e2
    cases e2
    exact k1 σ2 H2 fp2 r2 s2 kw2

def dWh (c : DS → Option (Bool × DS)) (b : DS → Option (Fl × DS)) : Nat → DS → Option (Fl × DS)
  | 0, _ => none
  | n + 1, ds => (c ds).bind fun t => if t.1 then (b t.2).bind fun r => match r.1 with
      | .nx => dWh c b n r.2
      | .ct => dWh c b n r.2
      | .bk => some (.nx, r.2)
      | .rt d => some (.rt d, r.2)
      | .ex C fs => some (.ex C fs, r.2)
    else some (.nx, t.2)
def dWhile (μ : DS → Nat) (c : DS → Option (Bool × DS)) (b : DS → Option (Fl × DS)) : DS → Option (Fl × DS) := fun ds => dWh c b (μ ds) ds
theorem d_while (μ : DS → Nat) {tc : DS → Option (Bool × DS)} {b : DS → Option (Fl × DS)} (hp : PassesOwn (model X.prog X.w) X.A X.env X.xe) (hc : PTd X c tc) (hb : PSsd X Wx sts b W) : PSd X Wx (.While c sts [] pos) (dWhile μ tc b) W := by
  obtain ⟨t, ht, s⟩ := hc
  obtain ⟨tb, hb, sb⟩ := hb
  refine ⟨_, ps_while hp ht hb, fun O σ H ds fp fl ds' Dn r e k => ?_⟩
  refine ⟨fun m σ' H' => ∃ ds2 fp2, RS X.K O σ' H' ds2 fp2 ∧ dWh tc b m ds2 = some (fl, ds') ∧ Step H H' fp fp2 [] ∧ ∀ j, j ∉ W → σ'[j]? = σ[j]?, ⟨μ ds, ds, fp, r, e, Step.refl, fun _ _ => rfl⟩, ?_⟩
  rintro m σ2 H2 ⟨ds2, fp2, r2, e2, s2, kw2⟩
  cases m with
  | zero => cases e2
  | succ m =>
    obtain ⟨⟨z, ds3⟩, e3, e2⟩ := Option.bind_eq_some_iff.mp e2
    refine s O σ2 H2 ds2 fp2 z ds3 _ r2 e3 fun H3 fp3 r3 s3 => ?_
    have s3' := s2.then s3
    cases z with
    | true =>
      rw [if_pos rfl] at e2
      obtain ⟨⟨fl4, ds4⟩, e4, e2⟩ := Option.bind_eq_some_iff.mp e2
      refine iteT ⟨fun σ' H' => ∃ ds2 fp2, RS X.K O σ' H' ds2 fp2 ∧ dWh tc b m ds2 = some (fl, ds') ∧ Step H H' fp fp2 [] ∧ ∀ j, j ∉ W → σ'[j]? = σ[j]?, fun σ' H' w => ⟨m, Nat.lt_succ_self m, w⟩, ?_⟩
      have kk : ∀ {σ' : St}, (∀ j, j ∉ W → σ'[j]? = σ2[j]?) → ∀ j, j ∉ W → σ'[j]? = σ[j]? := fun h j hj => by rw [h j hj, kw2 j hj]
      refine sb O σ2 H3 ds3 fp3 fl4 ds4 _ r3 e4 ?_
      cases fl4 with
      | nx => exact fun σ5 H5 fp5 r5 s5 h5 => ⟨ds4, fp5, r5, e2, s3'.then s5, kk h5⟩
      | ct => exact fun σ5 H5 fp5 r5 s5 h5 => ⟨ds4, fp5, r5, e2, s3'.then s5, kk h5⟩
      | bk => cases e2; exact fun σ5 H5 fp5 r5 s5 h5 => k σ5 H5 fp5 r5 (s3'.then s5) (kk h5)
      | rt d => cases e2; exact fun v σ5 H5 fp5 p r5 rv5 n5 s5 h5 => k v σ5 H5 fp5 p r5 rv5 n5 (s3'.then s5) (kk h5)
      | ex C fs => cases e2; exact fun σ5 H5 fp5 dx r5 q5 s5 h5 => k σ5 H5 fp5 dx r5 q5 (s3'.then s5) (kk h5)
    | false =>
      rw [if_neg Bool.false_ne_true] at e2
      cases e2
      exact iteF (k σ2 H3 fp3 r3 s3' kw2)
end
end DL

/-! DL7: what is walked; lists changed in their slots; defs and their calls. -/
namespace DL
open PySem PySem.Spec L2

section
variable {X : Cx} {a b c e tg : Expr} {es : List Expr} {pos p : Pos}

/-! ### what is walked -/
def rangeD (lo : Int) (n : Nat) : List D := (List.range n).map fun k => .int (lo + (k : Nat))
def i62 (i : Int) : Bool := decide (i.natAbs < 2 ^ 62)
def dRg1 (f : DS → Option (List D × DS)) : DS → Option (List D × DS) := fun ds => (f ds).bind fun r => match r.1 with
  | [.int j] => if i62 j then some (rangeD 0 j.toNat, r.2) else none
  | _ => none
def dRg2 (f : DS → Option (List D × DS)) : DS → Option (List D × DS) := fun ds => (f ds).bind fun r => match r.1 with
  | [.int i, .int j] => if i62 i && i62 j then some (rangeD i (j - i).toNat, r.2) else none
  | _ => none
theorem rangeD_get {lo : Int} {n i : Nat} {d : D} (h : (rangeD lo n)[i]? = some d) : i < n ∧ d = .int (lo + (i : Nat)) := by
  unfold rangeD at h
  rw [List.getElem?_map] at h
  obtain ⟨k, h1, h2⟩ := Option.map_eq_some_iff.mp h
  obtain ⟨hi, h1⟩ := List.getElem?_eq_some_iff.mp h1
  simp only [List.length_range] at hi
  simp only [List.getElem_range] at h1
  subst h1 h2
  exact ⟨hi, rfl⟩
theorem it_range {K : PySem.W.Frag} {lo : Int} {n : Nat} {M : ASet} {H : Hp} : IterOk K (Itr lo n) (rangeD lo n) M H := fun H' M' _ _ i => ⟨fun d e => by
  obtain ⟨h1, rfl⟩ := rangeD_get e
  refine ⟨h1, fun v H2 y => ?_⟩
  obtain ⟨rfl, rfl⟩ : H2 = H' ∧ v = .int (lo + (i : Nat)) := y
  exact ⟨fun _ _ z => z, .int _⟩, fun h => by
  show n ≤ i
  simpa [rangeD] using h⟩
theorem RB.ints1 {K : PySem.W.Frag} {H : Hp} {M : ASet} {vs : List V} {j : Int} (r : RB K H M vs [.int j]) : vs = [.int j] := by
  obtain ⟨v, p, e, q⟩ := RB.one r
  cases q; exact e
theorem RB.ints2 {K : PySem.W.Frag} {H : Hp} {M : ASet} {vs : List V} {i j : Int} (r : RB K H M vs [.int i, .int j]) : vs = [.int i, .int j] := by
  obtain ⟨v, u, p, q, e, r1, r2⟩ := RB.two r
  cases r1; cases r2; exact e
theorem i_range1 {f : DS → Option (List D × DS)} (hm : X.mg "range" = none) (ha : PAo X [a] f) (hg : Gl X "range" := by rfl) (hs : starEach [a] X.env = [(false, eval a X.env)] := by rfl) : PId X tg (.Call (.Name "range" p) [a] [] pos) (dRg1 f) := by
  obtain ⟨t, ht, s⟩ := ha
  refine ⟨_, pi_range1 hg hm ht hs, fun O σ H ds fp xs ds' Rr r e k => ?_⟩
  obtain ⟨⟨ys, ds1⟩, e1, e⟩ := Option.bind_eq_some_iff.mp e
  simp only at e
  split at e
  · rename_i j
    split at e
    · rename_i hj
      simp only [i62, Bool.and_eq_true, decide_eq_true_eq] at hj
      cases e
      refine s O σ H ds fp _ _ _ r e1 fun vs H1 fp1 x r1 rv n1 s1 => ⟨j, RB.ints1 rv, by omega, by omega, k _ H1 fp1 x r1 n1 s1 it_range⟩
    · cases e
  · cases e
theorem i_range2 {f : DS → Option (List D × DS)} (hm : X.mg "range" = none) (ha : PAo X [a, b] f) (hg : Gl X "range" := by rfl) (hs : starEach [a, b] X.env = [(false, eval a X.env), (false, eval b X.env)] := by rfl) (hs2 : starEach [b] X.env = [(false, eval b X.env)] := by rfl) : PId X tg (.Call (.Name "range" p) [a, b] [] pos) (dRg2 f) := by
  obtain ⟨t, ht, s⟩ := ha
  refine ⟨_, pi_range2 hg hm ht hs hs2, fun O σ H ds fp xs ds' Rr r e k => ?_⟩
  obtain ⟨⟨ys, ds1⟩, e1, e⟩ := Option.bind_eq_some_iff.mp e
  simp only at e
  split at e
  · rename_i i j
    split at e
    · rename_i hj
      simp only [i62, Bool.and_eq_true, decide_eq_true_eq] at hj
      cases e
      refine s O σ H ds fp _ _ _ r e1 fun vs H1 fp1 x r1 rv n1 s1 => ⟨i, j, RB.ints2 rv, ⟨by omega, by omega, by omega, by omega⟩, k _ H1 fp1 x r1 n1 s1 it_range⟩
    · cases e
  · cases e
/-- either of two ways -/
theorem PI.or {w1 w2 : TI} (h1 : PI X tg e w1) (h2 : PI X tg e w2) : PI X tg e (fun σ H R => w1 σ H R ∨ w2 σ H R) := ⟨fun pins s σ H R I h => h.elim (h1.run pins s σ H R I) (h2.run pins s σ H R I)⟩
/-- the items of a list or a tuple, all shared -/
def dIt (f : DS → Option (D × DS)) : DS → Option (List D × DS) := fun ds => (f ds).bind fun r => match r.1 with
  | .tup xs => if shL xs then some (xs, r.2) else none
  | .lst _ xs => if shL xs then some (xs, r.2) else none
  | _ => none
theorem RL.getS {K : PySem.W.Frag} {H : Hp} {M : ASet} {vs : List V} {ds : List D} {p : List Addr} {i : Nat} {d : D} (r : RL K H M vs ds p) (h : shL ds = true) (e : ds[i]? = some d) : ∃ v, vs[i]? = some v ∧ R K H M v d [] := by
  obtain ⟨v, q, h1, h2⟩ := r.get e
  have := h2.sh0 (shL_all.mp h d (List.mem_of_getElem? e))
  subst this
  exact ⟨v, h1, h2⟩
theorem it_list {K : PySem.W.Frag} {H : Hp} {M : ASet} {a : Addr} {vs : List V} {xs : List D} (h : H a = some (.lst vs)) (n : ¬ M a) (r : RL K H M vs xs []) (hs : shL xs = true) : IterOk K (Itl K a) xs M H := fun H' M' cy tr i => by
  have h' := (cy.no h n).1
  have r' := r.carry cy
  refine ⟨fun d e => ?_, fun hi => ⟨vs, .inl (.inl h'), by rw [r.len]; exact hi⟩⟩
  obtain ⟨v, e1, rv⟩ := r'.getS hs e
  refine ⟨⟨vs, v, .inl (.inl h'), e1⟩, fun u H2 y => ?_⟩
  obtain ⟨rfl, y⟩ := y
  have := y vs (.inl (.inl h'))
  rw [e1] at this; cases this
  exact ⟨fun _ _ z => z, rv⟩
theorem it_tup {K : PySem.W.Frag} {H : Hp} {M : ASet} {a : Addr} {vs : List V} {xs : List D} (h : ∀ H' M', Carry H H' M M' [] → SqT K H' a vs) (r : RL K H M vs xs []) (hs : shL xs = true) : IterOk K (Itt K a) xs M H := fun H' M' cy tr i => by
  have h' := h H' M' cy
  have r' := r.carry cy
  refine ⟨fun d e => ?_, fun hi => ⟨vs, h', by rw [r.len]; exact hi⟩⟩
  obtain ⟨v, e1, rv⟩ := r'.getS hs e
  refine ⟨⟨vs, v, h', e1⟩, fun u H2 y => ?_⟩
  obtain ⟨rfl, y⟩ := y
  have := y vs h'
  rw [e1] at this; cases this
  exact ⟨fun _ _ z => z, rv⟩
theorem R.tupC {K : PySem.W.Frag} {H : Hp} {M : ASet} {v : V} {ds : List D} {p : List Addr} (r : R K H M v (.tup ds) p) : ∃ a vs, v = .ref a ∧ SqT K H a vs ∧ (∀ H' M', Carry H H' M M' [] → SqT K H' a vs) ∧ RL K H M vs ds p := by
  cases r with
  | tup h n t => exact ⟨_, _, rfl, .inl (.inl h), fun H' M' c => .inl (.inl (c.no h n).1), t⟩
theorem i_seq {f : DS → Option (D × DS)} (h : PEd X e f) : PId X tg e (dIt f) := by
  obtain ⟨t, ht, s⟩ := h
  refine ⟨_, PI.or (pi_list ht) (pi_tup ht), fun O σ H ds fp xs ds' Rr r e k => ?_⟩
  obtain ⟨⟨d, ds1⟩, e1, e⟩ := Option.bind_eq_some_iff.mp e
  simp only at e
  split at e
  · split at e
    · rename_i hs
      cases e
      refine .inr (s O σ H ds fp _ _ _ r e1 fun v H1 fp1 p r1 rv n1 s1 => ?_)
      obtain ⟨a, vs, rfl, sa, sc, ra⟩ := rv.tupC
      have hp := ra.sh0 hs
      subst hp
      exact ⟨a, rfl, ⟨vs, sa⟩, k _ H1 fp1 [] r1 n1 s1 (it_tup sc ra hs)⟩
    · cases e
  · split at e
    · rename_i m xs' hs
      cases e
      refine .inl (s O σ H ds fp _ _ _ r e1 fun v H1 fp1 p r1 rv n1 s1 => ?_)
      have sub : ∀ a, MM (OO O []) fp1 a → MM (OO O p) fp1 a := fun a z => by
        rcases z with (z | z) | z
        · exact .inl (.inl z)
        · exact nomatch z
        · exact .inr z
      have rf : R X.K H1 (MM (OO O []) fp1) v (D.lst m xs).fz [] := rv.freeze ⟨fun a z => .inl (sub a z), fun a ha z => by
        rcases z with (z | z) | ⟨j, z⟩
        · exact n1 a ha z
        · exact nomatch z
        · exact r1.off j a z (.inr ha)⟩
      rw [D.fz, fzL_of_sh _ hs] at rf
      cases rf with
      | lstF h n t => exact ⟨_, rfl, ⟨_, .inl (.inl h)⟩, k _ H1 fp1 [] (r1.outer fun a z => z.elim .inl fun w => nomatch w) (fun _ z => nomatch z) (s1.less fun _ z => nomatch z) (it_list h n t hs)⟩
    · cases e
  · cases e

/-! ### a slot's own object is written -/
theorem RS.write {K : PySem.W.Frag} {O : ASet} {σ : St} {H H' : Hp} {ds : DS} {fp : Nat → List Addr} {p q : List Addr} {i : Nat} {v : V} {d : D} (r : RS K (OO O p) σ H ds fp) (hi : i < ds.length) (hv : σ[i]? = some (some v)) (kp : ∀ b o, H b = some o → b ∉ fp i → H' b = some o)
    (rv : R K H' (MM O (upF fp i q)) v d q) (hq : ∀ b ∈ q, b ∈ fp i ∨ b ∈ p) (np : ∀ b ∈ p, ¬ O b) : RS K O σ H' (ds.set i (some d)) (upF fp i q) := by
  have sub : ∀ a, MM O (upF fp i q) a → MM (OO O p) fp a := fun a z => by
    rcases z with z | ⟨j, z⟩
    · exact .inl (.inl z)
    · rcases upF_mem z with ⟨_, z⟩ | ⟨_, z⟩
      · rcases hq a z with z | z
        · exact .inr ⟨i, z⟩
        · exact .inl (.inr z)
      · exact .inr ⟨j, z⟩
  have keep : ∀ b, H b ≠ none → b ∉ fp i → H' b ≠ none := fun b n z => by
    cases e : H b with
    | none => exact absurd e n
    | some o => rw [kp b o e z]; exact fun w => nomatch w
  refine ⟨by simp [r.len], fun j c e => ?_, fun j h => ?_, fun j k a h1 h2 => ?_, fun j a h => ?_, fun a z => ?_⟩
  · by_cases ej : j = i
    · subst ej
      rw [List.getElem?_set_self hi] at e
      simp only [Option.some.injEq] at e
      subst e
      exact ⟨v, hv, by rw [upF_same]; exact rv⟩
    · rw [List.getElem?_set_ne (Ne.symm ej)] at e
      obtain ⟨u, h1, h2⟩ := r.sl j c e
      refine ⟨u, h1, ?_⟩
      rw [upF_ne ej]
      refine h2.carry ⟨fun a o z w => kp a o z fun y => ?_, fun a z => .inl (sub a z), fun a z => .inr ⟨j, by rw [upF_ne ej]; exact z⟩⟩
      rcases w with w | w
      · exact ej (r.dj j i a w y)
      · exact w (.inr ⟨i, y⟩)
  · by_cases ej : j = i
    · subst ej
      exact absurd (List.getElem?_set_self hi) (h d)
    · rw [upF_ne ej]
      refine r.em j fun c e => h c ?_
      rw [List.getElem?_set_ne (Ne.symm ej)]; exact e
  · rcases upF_mem h1 with ⟨e1, h1⟩ | ⟨e1, h1⟩ <;> rcases upF_mem h2 with ⟨e2, h2⟩ | ⟨e2, h2⟩
    · rw [e1, e2]
    · rcases hq a h1 with z | z
      · rw [e1]; exact r.dj i k a z h2
      · exact absurd (.inr z) (r.off k a h2)
    · rcases hq a h2 with z | z
      · rw [e2]; exact r.dj j i a h1 z
      · exact absurd (.inr z) (r.off j a h1)
    · exact r.dj j k a h1 h2
  · rcases upF_mem h with ⟨_, h⟩ | ⟨_, h⟩
    · rcases hq a h with z | z
      · exact fun w => r.off i a z (.inl w)
      · exact np a z
    · exact fun w => r.off j a h (.inl w)
  · rcases z with z | ⟨j, z⟩
    · exact keep a (r.tr a (.inl (.inl z))) fun w => r.off i a w (.inl z)
    · rcases upF_mem z with ⟨_, z⟩ | ⟨ej, z⟩
      · exact rv.trk a z
      · exact keep a (r.tr a (.inr ⟨j, z⟩)) fun w => ej (r.dj j i a z w)
theorem Step.write {H H1 H' : Hp} {fp fp1 : Nat → List Addr} {p q : List Addr} {i : Nat} (s : Step H H1 fp fp1 p) (kp : ∀ b o, H1 b = some o → b ∉ fp1 i → H' b = some o) (hq : ∀ b ∈ q, b ∈ fp1 i ∨ b ∈ p) : Step H H' fp (upF fp1 i q) [] where
  keep := fun a o e n => by
    have h1 := s.keep a o e n
    refine kp a o h1 fun z => ?_
    rcases s.org a (.inl ⟨i, z⟩) with ⟨j, w⟩ | w
    · exact n j w
    · rw [w] at e; cases e
  org := fun a z => by
    rcases z with ⟨j, z⟩ | z
    · rcases upF_mem z with ⟨_, z⟩ | ⟨_, z⟩
      · rcases hq a z with z | z
        · exact s.org a (.inl ⟨i, z⟩)
        · exact s.org a (.inr z)
      · exact s.org a (.inl ⟨j, z⟩)
    · exact nomatch z
/-- the list in slot i, which may be written -/
theorem RS.lst {K : PySem.W.Frag} {O : ASet} {σ : St} {H : Hp} {ds : DS} {fp : Nat → List Addr} {i : Nat} {xs : List D} (r : RS K O σ H ds fp) (e : ds[i]? = some (some (.lst true xs))) : ∃ a vs p, σ[i]? = some (some (.ref a)) ∧ H a = some (.lst vs) ∧ fp i = a :: p ∧ a ∉ p ∧ RL K H (MM O fp) vs xs p := by
  obtain ⟨v, h1, h2⟩ := r.sl i _ e
  generalize hf : fp i = q at h2
  cases h2 with
  | lstM h m n t => exact ⟨_, _, _, h1, h, rfl, n, t⟩
/-- x.append(e) -/
def dApp (i : Nat) (f : DS → Option (D × DS)) : DS → Option (D × DS) := fun ds => match dNm i ds with
  | some (.lst true _) => (f ds).bind fun r => match dNm i r.2 with
    | some (.lst true xs) => if xs.length < sizeLine then some (.non, r.2.set i (some (.lst true (xs ++ [r.1])))) else none
    | _ => none
  | _ => none
theorem lstD {d : D} (h : ∃ xs, d = .lst true xs) : True := trivial
theorem RL.snoc {K : PySem.W.Frag} {H : Hp} {M : ASet} {vs : List V} {ds : List D} {p q : List Addr} {v : V} {d : D} (r : RL K H M vs ds p) (s : R K H M v d q) (n : ∀ a ∈ p, a ∉ q) : RL K H M (vs ++ [v]) (ds ++ [d]) (p ++ q) := by
  have t : RL K H M [v] [d] (q ++ []) := .cons s .nil fun _ _ z => nomatch z
  rw [List.append_nil] at t
  exact r.append t n
variable {apos : Pos} {x : Str}
theorem e_append (i : Nat) {px : Pos} {f : DS → Option (D × DS)} (he : PEd X e f) (hN : X.N[i]? = some x := by rfl) (hv : Vis X.env.scope x := by first | exact Or.inl rfl | exact Or.inr (Or.inl rfl) | exact Or.inr (Or.inr rfl)) (hd : (x == ("__debug__" : Str)) = false := by decide)
    (hcd : (x == ("__classdict__" : Str)) = false := by decide) (hbase : attributeBase (.Name x px) "append" X.env (eval (.Name x px) X.env) = eval (.Name x px) X.env := by rfl)
    (hfew : ((backTo pos (starEach [e] X.env)).all (fun x => !x.1) && (backToKw pos (keywordEach [] X.env)).all (fun x => x.1.isSome) && decide ([e].length + ([] : List Keyword).length + (if ([] : List Keyword).isEmpty then 0 else 1) < 30)) = true := by rfl)
    (hline : (apos.endLine == pos.line) = true := by rfl) (hs : starEach [e] X.env = (false, eval e X.env) :: starEach [] X.env := by rfl) (hplain : (backTo pos (starEach [] X.env)).any (·.1) = false := by rfl) :
    PEd X (.Call (.Attribute (.Name x px) "append" apos) [e] [] pos) (dApp i f) := by
  obtain ⟨t, ht, s⟩ := he
  refine ⟨_, pe_bm PySem.F.plainAttrs_list PySem.F.slot_list_append PySem.F.type_list_append mt_append (pe_var hN hv hd hcd) (pa_cons ht pa_nil hs) hbase hfew hline hs hplain, fun O σ H ds fp d ds' Q r ef k => ?_⟩
  unfold dApp at ef
  split at ef
  · rename_i xs0 h0
    obtain ⟨⟨d1, ds1⟩, e1, ef⟩ := Option.bind_eq_some_iff.mp ef
    simp only at ef
    split at ef
    · rename_i xs h1
      split at ef
      · rename_i hz
        cases ef
        obtain ⟨a, vs0, p0, g1, g2, _⟩ := r.lst (dNm_some.mp h0)
        refine ⟨.ref a, g1, .inl ⟨rfl, _, .inl (.inl g2)⟩, ?_⟩
        refine s O σ H ds fp d1 ds1 _ r e1 fun v H1 fp1 q r1 rv n1 s1 => ?_
        have e2 := dNm_some.mp h1
        obtain ⟨b, vs, p, f1, f2, f3, f4, f5⟩ := r1.lst e2
        rw [g1] at f1; cases f1
        have hi := (List.getElem?_eq_some_iff.mp e2).1
        refine ⟨a, vs, v, rfl, rfl, f2, by rw [f5.len]; exact hz, ?_⟩
        have kp : ∀ b o, H1 b = some o → b ∉ fp1 i → upd H1 a (.lst (vs ++ [v])) b = some o := fun b o e n => by
          rw [upd_ne fun z => n (by rw [f3, z]; exact List.mem_cons_self ..)]; exact e
        have aq : a ∉ q := fun z => r1.off i a (by rw [f3]; exact List.mem_cons_self ..) (.inr z)
        have pq : ∀ c ∈ p, c ∉ q := fun c z w => r1.off i c (by rw [f3]; exact List.mem_cons_of_mem _ z) (.inr w)
        have hq : ∀ c ∈ a :: (p ++ q), c ∈ fp1 i ∨ c ∈ q := fun c z => by
          rcases List.mem_cons.mp z with z | z
          · exact .inl (by rw [f3, z]; exact List.mem_cons_self ..)
          · rcases List.mem_append.mp z with z | z
            · exact .inl (by rw [f3]; exact List.mem_cons_of_mem _ z)
            · exact .inr z
        have cy : Carry H1 (upd H1 a (.lst (vs ++ [v]))) (MM (OO O q) fp1) (MM O (upF fp1 i (a :: (p ++ q)))) (p ++ q) := ⟨fun c o z w => by
            have hca : c ≠ a := fun z => by
              subst z
              rcases w with w | w
              · rcases List.mem_append.mp w with w | w
                · exact f4 w
                · exact aq w
              · exact w (.inr ⟨i, by rw [f3]; exact List.mem_cons_self ..⟩)
            rw [upd_ne hca]; exact z, fun c z => by
            rcases z with z | ⟨j, z⟩
            · exact .inl (.inl (.inl z))
            · rcases upF_mem z with ⟨_, z⟩ | ⟨_, z⟩
              · rcases hq c z with z | z
                · exact .inl (.inr ⟨i, z⟩)
                · exact .inl (.inl (.inr z))
              · exact .inl (.inr ⟨j, z⟩), fun c z => .inr ⟨i, by rw [upF_same]; exact List.mem_cons_of_mem _ z⟩⟩
        have rw' : R X.K (upd H1 a (.lst (vs ++ [v]))) (MM O (upF fp1 i (a :: (p ++ q)))) (.ref a) (.lst true (xs ++ [d1])) (a :: (p ++ q)) :=
          .lstM upd_same (.inr ⟨i, by rw [upF_same]; exact List.mem_cons_self ..⟩) (fun z => (List.mem_append.mp z).elim f4 aq) ((f5.snoc rv pq).carry cy)
        have r2 := r1.write hi g1 kp rw' hq n1
        exact k .non _ _ [] (by rw [OO_nil]; exact r2) .non (fun _ z => nomatch z) (s1.write kp hq)
      · cases ef
    · cases ef
  · cases ef
end
end DL

/-! DL8: defs and their calls. -/
namespace DL
open PySem PySem.Spec L2

inductive Rs where
  | ok (d : D) (outs : DS)
  | ex (C : Addr) (fs : List (Str × D)) (outs : DS)
abbrev FD := List D → Option Rs
/-- a def's promise: its value at data, its arguments as it leaves them -/
def spD (n : Nat) (K : PySem.W.Frag) (F : FD) : Sp := fun vs H Q E => ∃ (O : ASet) (args : List D) (fp : Nat → List Addr) (r : Rs), vs.length = n ∧ args.length = n ∧ RS K O (vs.map some) H (args.map some) fp ∧ F args = some r ∧ match r with
  | .ok d outs => ∀ v H' fp' p, RS K (OO O p) (vs.map some) H' outs fp' → R K H' (MM (OO O p) fp') v d p → (∀ a ∈ p, ¬ O a) → Step H H' fp fp' p → Q v H'
  | .ex C fs outs => ∀ H' fp' dx, RS K O (vs.map some) H' outs fp' → ExD K H' (MM O fp') dx fs → Step H H' fp fp' [] → E (.ref C) dx H'

section
variable {K : PySem.W.Frag} {O O' : ASet} {σ : St} {H H' : Hp} {ds : DS} {fp fp' : Nat → List Addr} {p q : List Addr}
theorem RS.pad (r : RS K O σ H ds fp) (m : Nat) : RS K O (σ ++ List.replicate m none) H (ds ++ List.replicate m none) fp := by
  refine ⟨by simp [r.len], fun i d e => ?_, fun i h => ?_, r.dj, r.off, r.tr⟩
  · have hi : i < ds.length := by
      by_cases hi : i < ds.length
      · exact hi
      · rw [List.getElem?_append_right (by omega), List.getElem?_replicate] at e
        split at e <;> cases e
    rw [List.getElem?_append_left hi] at e
    obtain ⟨v, h1, h2⟩ := r.sl i d e
    exact ⟨v, by rw [List.getElem?_append_left (by rw [r.len]; exact hi)]; exact h1, h2⟩
  · refine r.em i fun d e => h d ?_
    have hi := (List.getElem?_eq_some_iff.mp e).1
    rw [List.getElem?_append_left hi]; exact e
def outsOf (W : List Nat) (n : Nat) (ds : DS) : DS := (List.range n).map fun i => if i ∈ W then none else (ds[i]?).join
theorem outsOf_get {W : List Nat} {n i : Nat} {ds : DS} {d : D} : (outsOf W n ds)[i]? = some (some d) ↔ i < n ∧ i ∉ W ∧ ds[i]? = some (some d) := by
  unfold outsOf
  rw [List.getElem?_map]
  by_cases hi : i < n
  · rw [List.getElem?_range hi]
    simp only [Option.map_some, hi, true_and, Option.some.injEq]
    by_cases hw : i ∈ W
    · simp [hw]
    · simp only [hw, if_false, not_false_eq_true, true_and]
      cases e : ds[i]? with
      | none => simp
      | some o => cases o <;> simp
  · rw [List.getElem?_eq_none (by simp; omega)]
    simp [hi]
def selF (n : Nat) (W : List Nat) (fp : Nat → List Addr) : Nat → List Addr := fun i => if i < n ∧ i ∉ W then fp i else []
theorem selF_yes {n i : Nat} {W : List Nat} {fp : Nat → List Addr} (h : i < n ∧ i ∉ W) : selF n W fp i = fp i := if_pos h
theorem selF_mem {n i : Nat} {W : List Nat} {fp : Nat → List Addr} {a : Addr} (z : a ∈ selF n W fp i) : a ∈ fp i ∧ i < n ∧ i ∉ W := by
  unfold selF at z
  split at z
  · rename_i h; exact ⟨z, h⟩
  · exact nomatch z
theorem RS.outs {σ0 : St} {n : Nat} {W : List Nat} (r : RS K O σ H ds fp) (h0 : σ0.length = n) (hk : ∀ i, i < n → i ∉ W → σ[i]? = σ0[i]?) :
    RS K O σ0 H (outsOf W n ds) (selF n W fp) := by
  have sub : ∀ a, MM O (selF n W fp) a → MM O fp a := fun a z => by
    rcases z with z | ⟨i, z⟩
    · exact .inl z
    · exact .inr ⟨i, (selF_mem z).1⟩
  refine ⟨by simp [outsOf, h0], fun i d e => ?_, fun i h => ?_, fun i j a h1 h2 => r.dj i j a (selF_mem h1).1 (selF_mem h2).1, fun i a h => r.off i a (selF_mem h).1, fun a z => r.tr a (sub a z)⟩
  · obtain ⟨h1, h2, h3⟩ := outsOf_get.mp e
    obtain ⟨v, g1, g2⟩ := r.sl i d h3
    refine ⟨v, by rw [← hk i h1 h2]; exact g1, ?_⟩
    rw [selF_yes ⟨h1, h2⟩]
    exact g2.fewer sub fun a z => .inr ⟨i, by rw [selF_yes ⟨h1, h2⟩]; exact z⟩
  · by_cases hh : i < n ∧ i ∉ W
    · rw [selF_yes hh]
      exact r.em i fun d e => h d (outsOf_get.mpr ⟨hh.1, hh.2, e⟩)
    · exact if_neg hh
theorem Step.outs {n : Nat} {W : List Nat} (s : Step H H' fp fp' p) : Step H H' fp (selF n W fp') p := ⟨s.keep, fun a z => s.org a (z.imp (fun ⟨i, z⟩ => ⟨i, (selF_mem z).1⟩) id)⟩
end

/-- a def by its body: no exception leaves -/
def dFn (m n : Nat) (W : List Nat) (b : DS → Option (Fl × DS)) : FD := fun args => (b (args.map some ++ List.replicate (m - n) none)).bind fun r => match r.1 with
  | .rt d => some (.ok d (outsOf W n r.2))
  | .nx => some (.ok .non (outsOf W n r.2))
  | _ => none
abbrev WF : WXd := fun _ _ _ _ => False
section
variable {P : Program} {w : World} {K : PySem.W.Frag} {mg : Str → Option Value} {base : Heap}
theorem fn_ok {x qual : Str} {st : Stmt} {f : Addr} {fd : FuncData} {N ps : List Str} {k : Nat} {b : DS → Option (Fl × DS)} {W : List Nat} (F : Fun K x qual st f fd) (S : FnScope N ps (defScope st))
    (body : ∀ (cdv : Value) (A : Around) (outer : List Env) (s : Shared) (H : Hp) (E : XK), Room k (A.deeper (PyProof.Rows.envOfC qual (defScope st) s.heap.objs.size f cdv)) → PSsd (cxOf CX0 P w K mg base N qual (defScope st) f cdv A outer s H E).nox WF (defBody st) b W) :
    FnOk P w K mg base CX0 (k + 1) f fd ps (spD ps.length K (dFn N.length ps.length W b)) := by
  refine F.ok S (fun vs H Q E h => ?_) (fun cdv A outer s H vs Q E hr h => ?_)
  · obtain ⟨_, _, _, _, h, _⟩ := h
    exact h
  · obtain ⟨O, args, fp, r, hv, ha, rs, eF, post⟩ := h
    obtain ⟨t, ht, sb⟩ := body cdv A outer s H E hr
    refine ⟨t, ht, ?_⟩
    obtain ⟨⟨fl, ds'⟩, e1, eF⟩ := Option.bind_eq_some_iff.mp eF
    have r0 : RS K O (L2.start N vs) H (args.map some ++ List.replicate (N.length - ps.length) none) fp := by
      have := rs.pad (N.length - ps.length)
      unfold L2.start
      rw [hv]; exact this
    have hk : ∀ {σ' : St}, (∀ i, i ∉ W → σ'[i]? = (L2.start N vs)[i]?) → ∀ i, i < ps.length → i ∉ W → σ'[i]? = (vs.map some)[i]? := fun h i hi hw => by
      rw [h i hw]
      unfold L2.start
      rw [List.getElem?_append_left (by simp [hv]; exact hi)]
    have hl : (vs.map some).length = ps.length := by simp [hv]
    refine sb O (L2.start N vs) H _ fp fl ds' _ r0 e1 ?_
    cases fl with
    | nx =>
      cases eF
      refine fun σ' H' fp' r' s' h' => ?_
      exact post .non H' _ [] (by rw [OO_nil]; exact r'.outs hl (hk h')) .non (fun _ z => nomatch z) s'.outs
    | rt d =>
      cases eF
      refine fun v σ' H' fp' p r' rv n s' h' => ?_
      refine post v H' _ p (r'.outs hl (hk h')) (rv.fewer (fun a z => ?_) fun a z => .inl (.inr z)) n s'.outs
      rcases z with z | ⟨i, z⟩
      · exact .inl z
      · exact .inr ⟨i, (selF_mem z).1⟩
    | bk => cases eF
    | ct => cases eF
    | ex C fs => cases eF
end

/-! ### calls -/
inductive A1 where
  | tmp (d : D)
  | nm (i : Nat)
inductive AR (K : PySem.W.Frag) (H : Hp) (M : ASet) (σ : St) : List V → List A1 → List Addr → Prop
  | nil : AR K H M σ [] [] []
  | tmp {v : V} {d : D} {p : List Addr} {vs : List V} {as : List A1} {ps : List Addr} : R K H M v d p → AR K H M σ vs as ps → (∀ a ∈ p, a ∉ ps) → AR K H M σ (v :: vs) (.tmp d :: as) (p ++ ps)
  | nm {v : V} {i : Nat} {vs : List V} {as : List A1} {ps : List Addr} : σ[i]? = some (some v) → AR K H M σ vs as ps → AR K H M σ (v :: vs) (.nm i :: as) ps
theorem AR.carry {K : PySem.W.Frag} {H H' : Hp} {M M' : ASet} {σ : St} {vs : List V} {as : List A1} {p : List Addr} (r : AR K H M σ vs as p) : Carry H H' M M' p → AR K H' M' σ vs as p := by
  induction r with
  | nil => exact fun _ => .nil
  | tmp r _ n ih => exact fun c => .tmp (r.carry c.left) (ih c.right) n
  | nm h _ ih => exact fun c => .nm h (ih c)
def PCd (X : Cx) (es : List Expr) (f : DS → Option (List A1 × DS)) : Prop := ∃ t, PA X es t ∧ ∀ (O : ASet) (σ : St) (H : Hp) (ds : DS) (fp : Nat → List Addr) (as : List A1) (ds' : DS) (Q : List V → Hp → Prop), RS X.K O σ H ds fp → f ds = some (as, ds') →
  (∀ vs H' fp' p, RS X.K (OO O p) σ H' ds' fp' → AR X.K H' (MM (OO O p) fp') σ vs as p → (∀ a ∈ p, ¬ O a) → Step H H' fp fp' p → Q vs H') → t σ H Q
section
variable {X : Cx} {e : Expr} {es : List Expr} {pos p : Pos} {x : Str}
def cA0 : DS → Option (List A1 × DS) := fun ds => some ([], ds)
def cAt (f : DS → Option (D × DS)) (g : DS → Option (List A1 × DS)) : DS → Option (List A1 × DS) := fun ds => (f ds).bind fun r => (g r.2).bind fun q => some (.tmp r.1 :: q.1, q.2)
def cAn (i : Nat) (g : DS → Option (List A1 × DS)) : DS → Option (List A1 × DS) := fun ds => (dNm i ds).bind fun _ => (g ds).bind fun q => some (.nm i :: q.1, q.2)
theorem c_nil : PCd X [] cA0 := ⟨_, pa_nil, fun O σ H ds fp xs ds' Q r e k => by
  cases e
  exact k [] H fp [] (by rw [OO_nil]; exact r) .nil (fun _ z => nomatch z) Step.refl⟩
theorem c_tmp {f : DS → Option (D × DS)} {g : DS → Option (List A1 × DS)} (ha : PEd X e f) (hr : PCd X es g) (hs : starEach (e :: es) X.env = (false, eval e X.env) :: starEach es X.env := by rfl) : PCd X (e :: es) (cAt f g) := by
  obtain ⟨t, ht, s⟩ := ha
  obtain ⟨u, hu, su⟩ := hr
  refine ⟨_, pa_cons ht hu hs, fun O σ H ds fp xs ds' Q r e k => ?_⟩
  obtain ⟨⟨d, ds1⟩, e1, e⟩ := Option.bind_eq_some_iff.mp e
  obtain ⟨⟨ys, ds2⟩, e2, e⟩ := Option.bind_eq_some_iff.mp e
  cases e
  refine s O σ H ds fp d ds1 _ r e1 fun v H1 fp1 p r1 rv n1 s1 => ?_
  refine su (OO O p) σ H1 ds1 fp1 ys ds2 _ r1 e2 fun vs H2 fp2 q r2 rvs n2 s2 => ?_
  rw [OO_OO] at r2 rvs
  have cv := r1.carry (O' := OO O (p ++ q)) s2 (q := p) (fun a z => .inr z) (fun a z => z.elim (fun z => .inl (.inl z)) fun z => (List.mem_append.mp z).imp .inr id) (fun a z => z.elim .inl fun z => .inr (List.mem_append_left _ z))
  refine k (v :: vs) H2 fp2 (p ++ q) r2 (.tmp (rv.carry cv) rvs fun a z w => n2 a w (.inr z)) (fun a z => (List.mem_append.mp z).elim (n1 a) fun z w => n2 a z (.inl w)) ?_
  exact (s1.trans s2 fun a z i w => r1.off i a w (.inr z)).less fun a z => List.mem_append.mpr (List.mem_append.mp z).symm
theorem c_nm (i : Nat) {px : Pos} {g : DS → Option (List A1 × DS)} (hr : PCd X es g) (hN : X.N[i]? = some x := by rfl) (hv : Vis X.env.scope x := by first | exact Or.inl rfl | exact Or.inr (Or.inl rfl) | exact Or.inr (Or.inr rfl)) (hd : (x == ("__debug__" : Str)) = false := by decide)
    (hcd : (x == ("__classdict__" : Str)) = false := by decide) (hs : starEach (.Name x px :: es) X.env = (false, eval (.Name x px) X.env) :: starEach es X.env := by rfl) : PCd X (.Name x px :: es) (cAn i g) := by
  obtain ⟨u, hu, su⟩ := hr
  refine ⟨_, pa_cons (pe_var hN hv hd hcd) hu hs, fun O σ H ds fp xs ds' Q r e k => ?_⟩
  obtain ⟨d, e1, e⟩ := Option.bind_eq_some_iff.mp e
  obtain ⟨⟨ys, ds2⟩, e2, e⟩ := Option.bind_eq_some_iff.mp e
  cases e
  obtain ⟨v, h1, _⟩ := r.sl i d (dNm_some.mp e1)
  refine ⟨v, h1, su O σ H ds fp ys ds2 _ r e2 fun vs H2 fp2 q r2 rvs n2 s2 => ?_⟩
  exact k (v :: vs) H2 fp2 q r2 (.nm h1 rvs) n2 s2

def takeA : List A1 → DS → Option (List D × DS)
  | [], ds => some ([], ds)
  | .tmp d :: r, ds => (takeA r ds).bind fun q => some (d :: q.1, q.2)
  | .nm i :: r, ds => (dNm i ds).bind fun d => (takeA r (ds.set i none)).bind fun q => some (d :: q.1, q.2)
def putA : List A1 → DS → DS → DS
  | .tmp _ :: r, _ :: os, ds => putA r os ds
  | .nm i :: r, o :: os, ds => putA r os (ds.set i o)
  | _, _, ds => ds
def consF (p : List Addr) (fp : Nat → List Addr) : Nat → List Addr
  | 0 => p
  | i + 1 => fp i
def allF (fp : Nat → List Addr) : ASet := fun a => ∃ i, a ∈ fp i
theorem allF_cons {p : List Addr} {fp : Nat → List Addr} {a : Addr} : allF (consF p fp) a ↔ a ∈ p ∨ allF fp a := by
  constructor
  · rintro ⟨i, z⟩
    cases i with
    | zero => exact .inl z
    | succ i => exact .inr ⟨i, z⟩
  · rintro (z | ⟨i, z⟩)
    · exact ⟨0, z⟩
    · exact ⟨i + 1, z⟩
theorem RS.cons {K : PySem.W.Frag} {O : ASet} {σ : St} {H : Hp} {ds : DS} {fp : Nat → List Addr} {p : List Addr} {v : V} {d : D} (r : RS K (OO O p) σ H ds fp) (rv : R K H (MM (OO O p) fp) v d p) (n : ∀ a ∈ p, ¬ O a) : RS K O (some v :: σ) H (some d :: ds) (consF p fp) := by
  have sub : ∀ a, MM O (consF p fp) a → MM (OO O p) fp a := fun a z => by
    rcases z with z | z
    · exact .inl (.inl z)
    · rcases allF_cons.mp z with z | z
      · exact .inl (.inr z)
      · exact .inr z
  refine ⟨by simp [r.len], fun i c e => ?_, fun i h => ?_, fun i j a h1 h2 => ?_, fun i a h => ?_, fun a z => r.tr a (sub a z)⟩
  · cases i with
    | zero =>
      simp only [List.getElem?_cons_zero, Option.some.injEq] at e
      subst e
      exact ⟨v, rfl, rv.fewer sub fun a z => .inr ⟨0, z⟩⟩
    | succ i =>
      obtain ⟨u, h1, h2⟩ := r.sl i c (by simpa using e)
      exact ⟨u, by simpa using h1, h2.fewer sub fun a z => .inr ⟨i + 1, z⟩⟩
  · cases i with
    | zero => exact absurd rfl (h d)
    | succ i => exact r.em i fun c e => h c (by simpa using e)
  · cases i with
    | zero =>
      cases j with
      | zero => rfl
      | succ j => exact absurd (.inr h1) (r.off j a h2)
    | succ i =>
      cases j with
      | zero => exact absurd (.inr h2) (r.off i a h1)
      | succ j => rw [r.dj i j a h1 h2]
  · cases i with
    | zero => exact n a h
    | succ i => exact fun z => r.off i a h (.inl z)
theorem RS.iff {K : PySem.W.Frag} {O O' : ASet} {σ : St} {H : Hp} {ds : DS} {fp : Nat → List Addr} (r : RS K O σ H ds fp) (h : ∀ a, O a ↔ O' a) : RS K O' σ H ds fp := by
  have : O = O' := funext fun a => propext (h a)
  rw [← this]; exact r
theorem R.iff {K : PySem.W.Frag} {H : Hp} {M M' : ASet} {v : V} {d : D} {p : List Addr} (r : R K H M v d p) (h : ∀ a, M a ↔ M' a) : R K H M' v d p := by
  have : M = M' := funext fun a => propext (h a)
  rw [← this]; exact r
theorem AR.iff {K : PySem.W.Frag} {H : Hp} {M M' : ASet} {σ : St} {vs : List V} {as : List A1} {p : List Addr} (r : AR K H M σ vs as p) (h : ∀ a, M a ↔ M' a) : AR K H M' σ vs as p := by
  have : M = M' := funext fun a => propext (h a)
  rw [← this]; exact r
theorem take_ok {K : PySem.W.Frag} {σ : St} {H : Hp} : ∀ (as : List A1) (vs : List V) (O : ASet) (p : List Addr) (ds : DS) (fp : Nat → List Addr) (args : List D) (ds1 : DS), RS K (OO O p) σ H ds fp → (∀ a ∈ p, ¬ O a) → AR K H (MM (OO O p) fp) σ vs as p → takeA as ds = some (args, ds1) →
    ∃ fpc fp1, RS K (fun a => O a ∨ allF fp1 a) (vs.map some) H (args.map some) fpc ∧ RS K (fun a => O a ∨ allF fpc a) σ H ds1 fp1 ∧ (∀ a, (allF fpc a ∨ allF fp1 a) ↔ (a ∈ p ∨ allF fp a)) := by
  intro as
  induction as with
  | nil =>
    intro vs O p ds fp args ds1 r np ar e
    cases ar
    cases e
    have hn : ∀ a, ¬ allF (fun _ : Nat => ([] : List Addr)) a := fun a ⟨_, z⟩ => nomatch z
    refine ⟨fun _ => [], fp, ?_, ?_, fun a => ⟨fun z => z.elim (fun z => absurd z (hn a)) .inr, fun z => z.elim (fun z => nomatch z) .inr⟩⟩
    · exact ⟨rfl, fun i d e => by simp at e, fun _ _ => rfl, fun i j a z => (nomatch z), fun i a z => (nomatch z), fun a z => r.tr a (z.elim (fun z => z.elim (fun z => .inl (.inl z)) .inr) fun z => absurd z (hn a))⟩
    · exact r.outer fun a z => z.elim .inl fun z => absurd z (hn a)
  | cons a1 as ih =>
    intro vs O p ds fp args ds1 r np ar e
    cases ar with
    | tmp rv ar nd =>
      rename_i d v p1 vs p2
      simp only [takeA] at e
      obtain ⟨⟨ys, ds2⟩, e1, e⟩ := Option.bind_eq_some_iff.mp e
      cases e
      have eq1 : ∀ a, OO O (p1 ++ p2) a ↔ OO (OO O p1) p2 a := fun a => by rw [OO_OO]
      have r1 := r.iff eq1
      obtain ⟨fpc, fp1, h1, h2, h3⟩ := ih vs (OO O p1) p2 ds fp ys _ r1 (fun a z w => by
        rcases w with w | w
        · exact np a (List.mem_append_right _ z) w
        · exact nd a w z) (ar.iff fun a => by simp only [MM, eq1 a]) e1
      refine ⟨consF p1 fpc, fp1, ?_, ?_, fun a => ?_⟩
      · refine RS.cons (h1.iff fun a => ?_) (rv.fewer (fun a z => ?_) fun a z => .inl (.inr z)) (fun a z w => ?_)
        · constructor
          · rintro ((z | z) | z)
            · exact .inl (.inl z)
            · exact .inr z
            · exact .inl (.inr z)
          · rintro ((z | z) | z)
            · exact .inl (.inl z)
            · exact .inr z
            · exact .inl (.inr z)
        · rcases z with ((z | z) | z) | z
          · exact .inl (.inl z)
          · rcases (h3 a).mp (.inr z) with z | z
            · exact .inl (.inr (List.mem_append_right _ z))
            · exact .inr z
          · exact .inl (.inr (List.mem_append_left _ z))
          · rcases (h3 a).mp (.inl z) with z | z
            · exact .inl (.inr (List.mem_append_right _ z))
            · exact .inr z
        · rcases w with w | ⟨i, w⟩
          · exact np a (List.mem_append_left _ z) w
          · exact h2.off i a w (.inl (.inr z))
      · refine h2.iff fun a => ?_
        rw [allF_cons]
        constructor
        · rintro ((z | z) | z)
          · exact .inl z
          · exact .inr (.inl z)
          · exact .inr (.inr z)
        · rintro (z | z | z)
          · exact .inl (.inl z)
          · exact .inl (.inr z)
          · exact .inr z
      · rw [allF_cons, List.mem_append]
        have := h3 a
        constructor
        · rintro ((z | z) | z)
          · exact .inl (.inl z)
          · rcases this.mp (.inl z) with z | z
            · exact .inl (.inr z)
            · exact .inr z
          · rcases this.mp (.inr z) with z | z
            · exact .inl (.inr z)
            · exact .inr z
        · rintro ((z | z) | z)
          · exact .inl (.inl z)
          · rcases this.mpr (.inl z) with z | z
            · exact .inl (.inr z)
            · exact .inr z
          · rcases this.mpr (.inr z) with z | z
            · exact .inl (.inr z)
            · exact .inr z
    | nm hv ar =>
      rename_i v i vs
      simp only [takeA] at e
      obtain ⟨d, e0, e⟩ := Option.bind_eq_some_iff.mp e
      obtain ⟨⟨ys, ds2⟩, e1, e⟩ := Option.bind_eq_some_iff.mp e
      cases e
      obtain ⟨v', hv', r1, rv⟩ := r.take (dNm_some.mp e0)
      rw [hv] at hv'; cases hv'
      have eq1 : ∀ a, OO (OO O p) (fp i) a ↔ OO (OO O (fp i)) p a := fun a => by
        simp only [OO, or_assoc]
        constructor
        · rintro (z | z | z)
          · exact .inl z
          · exact .inr (.inr z)
          · exact .inr (.inl z)
        · rintro (z | z | z)
          · exact .inl z
          · exact .inr (.inr z)
          · exact .inr (.inl z)
      have eqM : ∀ a, MM (OO O p) fp a ↔ MM (OO (OO O (fp i)) p) (upF fp i []) a := fun a => by
        constructor
        · rintro (z | ⟨j, z⟩)
          · exact .inl (z.imp .inl id)
          · by_cases ej : j = i
            · subst ej; exact .inl (.inl (.inr z))
            · exact .inr ⟨j, by rw [upF_ne ej]; exact z⟩
        · rintro (((z | z) | z) | ⟨j, z⟩)
          · exact .inl (.inl z)
          · exact .inr ⟨i, z⟩
          · exact .inl (.inr z)
          · rcases upF_mem z with ⟨_, z⟩ | ⟨_, z⟩
            · exact nomatch z
            · exact .inr ⟨j, z⟩
      obtain ⟨fpc, fp1, h1, h2, h3⟩ := ih vs (OO O (fp i)) p (ds.set i none) (upF fp i []) ys _ (r1.iff eq1) (fun a z w => by
        rcases w with w | w
        · exact np a z w
        · exact r.off i a w (.inr z)) (ar.iff eqM) e1
      have hU : ∀ a, (a ∈ fp i ∨ allF (upF fp i []) a) ↔ allF fp a := fun a => by
        constructor
        · rintro (z | ⟨j, z⟩)
          · exact ⟨i, z⟩
          · rcases upF_mem z with ⟨_, z⟩ | ⟨_, z⟩
            · exact nomatch z
            · exact ⟨j, z⟩
        · rintro ⟨j, z⟩
          by_cases ej : j = i
          · subst ej; exact .inl z
          · exact .inr ⟨j, by rw [upF_ne ej]; exact z⟩
      refine ⟨consF (fp i) fpc, fp1, ?_, ?_, fun a => ?_⟩
      · refine RS.cons (h1.iff fun a => ?_) (rv.fewer (fun a z => ?_) fun a z => .inl (.inr z)) (fun a z w => ?_)
        · constructor
          · rintro ((z | z) | z)
            · exact .inl (.inl z)
            · exact .inr z
            · exact .inl (.inr z)
          · rintro ((z | z) | z)
            · exact .inl (.inl z)
            · exact .inr z
            · exact .inl (.inr z)
        · rcases z with ((z | z) | z) | z
          · exact .inl (.inl (.inl z))
          · rcases (h3 a).mp (.inr z) with z | z
            · exact .inl (.inl (.inr z))
            · exact .inr z
          · exact .inl (.inr z)
          · rcases (h3 a).mp (.inl z) with z | z
            · exact .inl (.inl (.inr z))
            · exact .inr z
        · rcases w with w | ⟨j, w⟩
          · exact r.off i a z (.inl w)
          · exact h2.off j a w (.inl (.inr z))
      · refine h2.iff fun a => ?_
        rw [allF_cons]
        constructor
        · rintro ((z | z) | z)
          · exact .inl z
          · exact .inr (.inl z)
          · exact .inr (.inr z)
        · rintro (z | z | z)
          · exact .inl (.inl z)
          · exact .inl (.inr z)
          · exact .inr z
      · rw [allF_cons, ← hU a]
        have := h3 a
        constructor
        · rintro ((z | z) | z)
          · exact .inr (.inl z)
          · rcases this.mp (.inl z) with z | z
            · exact .inl z
            · exact .inr (.inr z)
          · rcases this.mp (.inr z) with z | z
            · exact .inl z
            · exact .inr (.inr z)
        · rintro (z | z | z)
          · rcases this.mpr (.inl z) with z | z
            · exact .inl (.inr z)
            · exact .inr z
          · exact .inl (.inl z)
          · rcases this.mpr (.inr z) with z | z
            · exact .inl (.inr z)
            · exact .inr z
end
end DL

/-! DL9: the rule of a call. -/
namespace DL
open PySem PySem.Spec L2

def tailF (fp : Nat → List Addr) : Nat → List Addr := fun i => fp (i + 1)
theorem RS.tail {K : PySem.W.Frag} {O : ASet} {σ : St} {H : Hp} {ds : DS} {fp : Nat → List Addr} {ov : Option V} {od : Option D} (r : RS K O (ov :: σ) H (od :: ds) fp) : RS K O σ H ds (tailF fp) := by
  have sub : ∀ a, MM O (tailF fp) a → MM O fp a := fun a z => z.imp id fun ⟨i, z⟩ => ⟨i + 1, z⟩
  refine ⟨by simpa using r.len, fun i c e => ?_, fun i h => r.em (i + 1) fun d e => h d (by simpa using e), fun i j a h1 h2 => Nat.succ.inj (r.dj (i + 1) (j + 1) a h1 h2), fun i a h => r.off (i + 1) a h, fun a z => r.tr a (sub a z)⟩
  obtain ⟨u, h1, h2⟩ := r.sl (i + 1) c (by simpa using e)
  exact ⟨u, by simpa using h1, h2.fewer sub fun a z => .inr ⟨i, z⟩⟩
/-- a slot is emptied -/
theorem RS.empty {K : PySem.W.Frag} {O : ASet} {σ : St} {H : Hp} {ds : DS} {fp : Nat → List Addr} (r : RS K O σ H ds fp) (i : Nat) : RS K O σ H (ds.set i none) (upF fp i []) := by
  have sub : ∀ a, MM O (upF fp i []) a → MM O fp a := fun a z => by
    rcases z with z | ⟨j, z⟩
    · exact .inl z
    · rcases upF_mem z with ⟨_, z⟩ | ⟨_, z⟩
      · exact nomatch z
      · exact .inr ⟨j, z⟩
  refine ⟨by simp [r.len], fun j c e => ?_, fun j h => ?_, fun j k a h1 h2 => ?_, fun j a h => ?_, fun a z => r.tr a (sub a z)⟩
  · by_cases ej : j = i
    · subst ej
      rw [List.getElem?_set] at e
      split at e
      · split at e <;> cases e
      · exact absurd rfl (by assumption)
    · rw [List.getElem?_set_ne (Ne.symm ej)] at e
      obtain ⟨u, h1, h2⟩ := r.sl j c e
      refine ⟨u, h1, ?_⟩
      rw [upF_ne ej]
      exact h2.fewer sub fun a z => .inr ⟨j, by rw [upF_ne ej]; exact z⟩
  · by_cases ej : j = i
    · subst ej; exact upF_same
    · rw [upF_ne ej]
      refine r.em j fun c e => h c ?_
      rw [List.getElem?_set_ne (Ne.symm ej)]; exact e
  · rcases upF_mem h1 with ⟨_, h1⟩ | ⟨_, h1⟩
    · exact nomatch h1
    · rcases upF_mem h2 with ⟨_, h2⟩ | ⟨_, h2⟩
      · exact nomatch h2
      · exact r.dj j k a h1 h2
  · rcases upF_mem h with ⟨_, h⟩ | ⟨ej, h⟩
    · exact nomatch h
    · exact r.off j a h
theorem set_self {σ : St} {i : Nat} {v : V} (h : σ[i]? = some (some v)) : σ.set i (some v) = σ := by
  refine List.ext_getElem? fun j => ?_
  rw [List.getElem?_set]
  split
  · subst_vars
    split
    · rw [h]
    · rename_i z
      exact absurd (List.getElem?_eq_some_iff.mp h).1 z
  · rfl
theorem put_ok {K : PySem.W.Frag} {σ : St} {H : Hp} : ∀ (as : List A1) (vs : List V) (O : ASet) (M : ASet) (H0 : Hp) (p : List Addr) (outs ds : DS) (fpc fp1 : Nat → List Addr), AR K H0 M σ vs as p → RS K (fun a => O a ∨ allF fp1 a) (vs.map some) H outs fpc → RS K (fun a => O a ∨ allF fpc a) σ H ds fp1 →
    ∃ fp2, RS K O σ H (putA as outs ds) fp2 ∧ ∀ a, allF fp2 a → allF fpc a ∨ allF fp1 a := by
  intro as
  induction as with
  | nil =>
    intro vs O M H0 p outs ds fpc fp1 ar rc r
    refine ⟨fp1, ?_, fun a z => .inr z⟩
    have : putA [] outs ds = ds := by cases outs <;> rfl
    rw [this]
    exact r.outer fun a z => .inl z
  | cons a1 as ih =>
    intro vs O M H0 p outs ds fpc fp1 ar rc r
    have hne : outs ≠ [] := fun z => by
      subst z
      have := rc.len
      cases ar <;> simp at this
    obtain ⟨o, os, rfl⟩ := List.exists_cons_of_ne_nil hne
    cases ar with
    | tmp rv ar nd =>
      rename_i d v p1 vs p2
      have rc1 := rc.tail
      obtain ⟨fp2, h1, h2⟩ := ih vs O M H0 _ os ds (tailF fpc) fp1 ar rc1 (r.outer fun a z => z.imp id fun ⟨i, z⟩ => ⟨i + 1, z⟩)
      exact ⟨fp2, h1, fun a z => (h2 a z).imp (fun ⟨i, z⟩ => ⟨i + 1, z⟩) id⟩
    | nm hv ar =>
      rename_i v i vs
      have rc1 := rc.tail
      cases o with
      | none =>
        obtain ⟨fp2, h1, h2⟩ := ih vs O M H0 _ os (ds.set i none) (tailF fpc) (upF fp1 i []) ar (rc1.outer fun a z => z.imp id fun ⟨j, z⟩ => by
          rcases upF_mem z with ⟨_, z⟩ | ⟨_, z⟩
          · exact nomatch z
          · exact ⟨j, z⟩) ((r.empty i).outer fun a z => z.imp id fun ⟨i, z⟩ => ⟨i + 1, z⟩)
        refine ⟨fp2, h1, fun a z => (h2 a z).imp (fun ⟨i, z⟩ => ⟨i + 1, z⟩) fun ⟨j, z⟩ => ?_⟩
        rcases upF_mem z with ⟨_, z⟩ | ⟨_, z⟩
        · exact nomatch z
        · exact ⟨j, z⟩
      | some d =>
        obtain ⟨u, g1, g2⟩ := rc.sl 0 d rfl
        simp only [List.map_cons, List.getElem?_cons_zero, Option.some.injEq] at g1
        subst g1
        have hU : ∀ a, (fun a => O a ∨ allF fpc a) a ↔ OO (fun a => O a ∨ allF (tailF fpc) a) (fpc 0) a := fun a => by
          have : allF fpc a ↔ a ∈ fpc 0 ∨ allF (tailF fpc) a := by
            constructor
            · rintro ⟨j, z⟩
              cases j with
              | zero => exact .inl z
              | succ j => exact .inr ⟨j, z⟩
            · rintro (z | ⟨j, z⟩)
              · exact ⟨0, z⟩
              · exact ⟨j + 1, z⟩
          constructor
          · rintro (z | z)
            · exact .inl (.inl z)
            · rcases this.mp z with z | z
              · exact .inr z
              · exact .inl (.inr z)
          · rintro ((z | z) | z)
            · exact .inl z
            · exact .inr (this.mpr (.inr z))
            · exact .inr (this.mpr (.inl z))
        have r1 := r.iff hU
        have hi : i < ds.length := by rw [← r.len]; exact (List.getElem?_eq_some_iff.mp hv).1
        have r2 := r1.put (i := i) (v := v) (d := d) (g2.iff fun a => by
          constructor
          · rintro ((z | z) | z)
            · exact .inl (.inl (.inl z))
            · exact .inr z
            · rcases z with ⟨j, z⟩
              cases j with
              | zero => exact .inl (.inr z)
              | succ j => exact .inl (.inl (.inr ⟨j, z⟩))
          · rintro (((z | ⟨j, z⟩) | z) | z)
            · exact .inl (.inl z)
            · exact .inr ⟨j + 1, z⟩
            · exact .inr ⟨0, z⟩
            · exact .inl (.inr z)) (fun a z w => by
          rcases w with w | ⟨j, w⟩
          · exact rc.off 0 a z (.inl w)
          · exact absurd (rc.dj 0 (j + 1) a z w) (by omega)) hi
        rw [set_self hv] at r2
        obtain ⟨fp2, h1, h2⟩ := ih vs O M H0 _ os (ds.set i (some d)) (tailF fpc) (upF fp1 i (fpc 0)) ar (by
          refine ⟨rc1.len, fun j c e => ?_, rc1.em, rc1.dj, fun j a z w => ?_, fun a z => ?_⟩
          · obtain ⟨u, k1, k2⟩ := rc.sl (j + 1) c (by simpa using e)
            refine ⟨u, by simpa using k1, k2.fewer (fun a z => ?_) fun a z => .inr ⟨j, z⟩⟩
            rcases z with (z | ⟨l, z⟩) | ⟨l, z⟩
            · exact .inl (.inl z)
            · rcases upF_mem z with ⟨_, z⟩ | ⟨_, z⟩
              · exact .inr ⟨0, z⟩
              · exact .inl (.inr ⟨l, z⟩)
            · exact .inr ⟨l + 1, z⟩
          · rcases w with w | ⟨l, w⟩
            · exact rc1.off j a z (.inl w)
            · rcases upF_mem w with ⟨_, w⟩ | ⟨_, w⟩
              · exact absurd (rc.dj (j + 1) 0 a z w) (by omega)
              · exact rc1.off j a z (.inr ⟨l, w⟩)
          · rcases z with (z | ⟨l, z⟩) | ⟨l, z⟩
            · exact rc.tr a (.inl (.inl z))
            · rcases upF_mem z with ⟨_, z⟩ | ⟨_, z⟩
              · exact rc.tr a (.inr ⟨0, z⟩)
              · exact rc.tr a (.inl (.inr ⟨l, z⟩))
            · exact rc.tr a (.inr ⟨l + 1, z⟩)) r2
        refine ⟨fp2, h1, fun a z => ?_⟩
        rcases h2 a z with ⟨j, z⟩ | ⟨j, z⟩
        · exact .inl ⟨j + 1, z⟩
        · rcases upF_mem z with ⟨_, z⟩ | ⟨_, z⟩
          · exact .inl ⟨0, z⟩
          · exact .inr ⟨j, z⟩

/-- a call at data: the value, the slots behind it -/
def dCall (n : Nat) (F : FD) (f : DS → Option (List A1 × DS)) : DS → Option (D × DS) := fun ds => (f ds).bind fun r => (takeA r.1 r.2).bind fun t => if t.1.length = n then match F t.1 with
    | some (.ok d outs) => some (d, putA r.1 outs t.2)
    | _ => none
  else none
/-- the end of a call: from the arguments' state to the caller's -/
theorem call_end {K : PySem.W.Frag} {O : ASet} {σ : St} {H H1 : Hp} {ds1 : DS} {fp fp0 : Nat → List Addr} {p0 : List Addr} {vs : List V} {as : List A1} {args : List D} {dsT : DS} {F : FD} {d : D} {outs : DS} {n : Nat} {Q : VK} {E : XK}
    (r : RS K (OO O p0) σ H1 ds1 fp0) (ar : AR K H1 (MM (OO O p0) fp0) σ vs as p0) (np : ∀ a ∈ p0, ¬ O a) (st : Step H H1 fp fp0 p0) (e1 : takeA as ds1 = some (args, dsT)) (hn : args.length = n) (hv : vs.length = n) (eF : F args = some (.ok d outs))
    (k : ∀ v H' fp' p, RS K (OO O p) σ H' (putA as outs dsT) fp' → R K H' (MM (OO O p) fp') v d p → (∀ a ∈ p, ¬ O a) → Step H H' fp fp' p → Q v H') : spD n K F vs H1 Q E := by
  obtain ⟨fpc, fp1, h1, h2, h3⟩ := take_ok as vs O p0 ds1 fp0 args dsT r np ar e1
  refine ⟨_, args, fpc, _, hv, hn, h1, eF, ?_⟩
  intro v H' fpc' p rc rv npp sc
  -- the caller's slots behind the call
  have r2 : RS K (fun a => OO O p a ∨ allF fpc' a) σ H' dsT fp1 := by
    have hO : ∀ a, allF fp1 a → ¬ ∃ i, a ∈ fpc i := fun a ⟨i, z⟩ w => h2.off i a z (.inr w)
    refine ⟨h2.len, fun i c e => ?_, h2.em, h2.dj, fun i a z w => ?_, fun a z => ?_⟩
    · obtain ⟨u, g1, g2⟩ := h2.sl i c e
      refine ⟨u, g1, g2.carry ⟨fun a o z w => sc.keep a o z fun j y => ?_, fun a z => ?_, fun a z => .inr ⟨i, z⟩⟩⟩
      · rcases w with w | w
        · exact h2.off i a w (.inr ⟨j, y⟩)
        · exact w (.inl (.inr ⟨j, y⟩))
      · rcases z with ((z | z) | z) | z
        · exact .inl (.inl (.inl z))
        · rcases sc.org a (.inr z) with z | z
          · exact .inl (.inl (.inr z))
          · exact .inr z
        · rcases sc.org a (.inl z) with z | z
          · exact .inl (.inl (.inr z))
          · exact .inr z
        · exact .inl (.inr z)
    · rcases w with (w | w) | w
      · exact h2.off i a z (.inl w)
      · exact npp a w (.inr ⟨i, z⟩)
      · obtain ⟨j, w⟩ := w
        exact rc.off j a w (.inl (.inr ⟨i, z⟩))
    · rcases z with ((z | z) | z) | z
      · exact rc.tr a (.inl (.inl (.inl z)))
      · exact rc.tr a (.inl (.inr z))
      · exact rc.tr a (.inr z)
      · exact rc.tr a (.inl (.inl (.inr z)))
  have rc2 : RS K (fun a => OO O p a ∨ allF fp1 a) (vs.map some) H' outs fpc' := rc.iff fun a => by
    constructor
    · rintro ((z | z) | z)
      · exact .inl (.inl z)
      · exact .inr z
      · exact .inl (.inr z)
    · rintro ((z | z) | z)
      · exact .inl (.inl z)
      · exact .inr z
      · exact .inl (.inr z)
  obtain ⟨fp2, g1, g2⟩ := put_ok as vs (OO O p) _ H1 p0 outs dsT fpc' fp1 ar rc2 r2
  refine k v H' fp2 p g1 (rv.fewer (fun a z => ?_) fun a z => .inl (.inr z)) (fun a z w => npp a z (.inl w)) ⟨fun a o e nf => ?_, fun a z => ?_⟩
  · rcases z with (z | z) | z
    · exact .inl (.inl (.inl z))
    · exact .inl (.inr z)
    · rcases g2 a z with z | z
      · exact .inr z
      · exact .inl (.inl (.inr z))
  · have q1 := st.keep a o e nf
    refine sc.keep a o q1 fun i z => ?_
    rcases (h3 a).mp (.inl ⟨i, z⟩) with w | ⟨j, w⟩
    · rcases st.org a (.inr w) with ⟨j, w⟩ | w
      · exact nf j w
      · rw [w] at e; cases e
    · rcases st.org a (.inl ⟨j, w⟩) with ⟨j, w⟩ | w
      · exact nf j w
      · rw [w] at e; cases e
  · -- where an address comes from
    have back : (allF fpc a ∨ allF fp1 a) → (∃ i, a ∈ fp i) ∨ H a = none := fun z => by
      rcases (h3 a).mp z with w | w
      · exact st.org a (.inr w)
      · exact st.org a (.inl w)
    have fresh : H1 a = none → (∃ i, a ∈ fp i) ∨ H a = none := fun z => by
      by_cases w : ∃ i, a ∈ fp i
      · exact .inl w
      · cases e : H a with
        | none => exact .inr rfl
        | some o =>
          have := st.keep a o e fun i y => w ⟨i, y⟩
          rw [z] at this; cases this
    rcases z with z | z
    · rcases g2 a z with z | z
      · rcases sc.org a (.inl z) with z | z
        · exact back (.inl z)
        · exact fresh z
      · exact back (.inr z)
    · rcases sc.org a (.inr z) with z | z
      · exact back (.inl z)
      · exact fresh z
theorem takeA_len : ∀ (as : List A1) {ds ds1 : DS} {args : List D}, takeA as ds = some (args, ds1) → args.length = as.length
  | [], ds, ds1, args, h => by cases h; rfl
  | .tmp d :: r, ds, ds1, args, h => by
    simp only [takeA] at h
    obtain ⟨⟨ys, ds2⟩, e1, h⟩ := Option.bind_eq_some_iff.mp h
    cases h
    simp [takeA_len r e1]
  | .nm i :: r, ds, ds1, args, h => by
    simp only [takeA] at h
    obtain ⟨d, e0, h⟩ := Option.bind_eq_some_iff.mp h
    obtain ⟨⟨ys, ds2⟩, e1, h⟩ := Option.bind_eq_some_iff.mp h
    cases h
    simp [takeA_len r e1]
theorem AR.len {K : PySem.W.Frag} {H : Hp} {M : ASet} {σ : St} {vs : List V} {as : List A1} {p : List Addr} (r : AR K H M σ vs as p) : vs.length = as.length := by
  induction r with
  | nil => rfl
  | tmp _ _ _ ih => simp [ih]
  | nm _ _ ih => simp [ih]
section
variable {X : Cx} {e : Expr} {es : List Expr} {pos p : Pos} {x : Str} {k : Nat} {f : Addr} {fd : FuncData} {ps : List Str} {F : FD} {n : Nat}
/-- f(..) -/
theorem e_call {g : DS → Option (List A1 × DS)} (G : FnOk X.prog X.w X.K X.mg X.base CX0 k f fd ps (spD n X.K F)) (hr : Room k X.A) (hm : X.mg x = some (.ref f)) (hk : PySem.W.keepIn X.K (.ref f) = true) (hb : Binds X.K fd ps []) (ha : PCd X (e :: es) g) (hg : Gl X x := by rfl)
    (hdb : (x == ("__debug__" : Str)) = false := by decide) (he : starEach (e :: es) X.env = (false, eval e X.env) :: starEach es X.env := by rfl) (hpl : (backTo pos (starEach es X.env)).any (·.1) = false := by rfl) :
    PEd X (.Call (.Name x p) (e :: es) [] pos) (dCall n F g) := by
  obtain ⟨t, ht, s⟩ := ha
  refine ⟨_, pe_call G hr hg hm hk hb .nil pass0 ht hdb he hpl, fun O σ H ds fp d ds' Q r e k => ?_⟩
  obtain ⟨⟨as, ds1⟩, e1, e⟩ := Option.bind_eq_some_iff.mp e
  obtain ⟨⟨args, dsT⟩, e2, e⟩ := Option.bind_eq_some_iff.mp e
  simp only at e e2
  split at e
  · rename_i hl
    split at e
    · rename_i d' outs eF
      cases e
      refine s O σ H ds fp as ds1 _ r e1 fun vs H1 fp1 p r1 ar n1 s1 => ?_
      have hlen := takeA_len as e2
      show spD n X.K F (vs ++ []) H1 Q E0
      rw [List.append_nil]
      exact call_end r1 ar n1 s1 e2 hl (by rw [ar.len, ← hlen]; exact hl) eF k
    · cases e
  · cases e
end
end DL

/-! DLa: list comprehensions. -/
namespace DL
open PySem PySem.Spec L2

def wipeD (ds : DS) : List Nat → DS
  | [] => ds
  | v :: vs => (wipeD ds vs).set v none
theorem wipeD_len (ds : DS) : ∀ vs : List Nat, (wipeD ds vs).length = ds.length
  | [] => rfl
  | v :: vs => by unfold wipeD; rw [List.length_set, wipeD_len ds vs]
theorem wipe_get {σ : St} : ∀ {vs : List Nat} {i : Nat}, (wipe σ vs)[i]? = if i ∈ vs then (σ[i]?).map fun _ => none else σ[i]?
  | [], i => by simp [wipe]
  | v :: vs, i => by
    unfold wipe
    rw [List.getElem?_set]
    by_cases h : v = i
    · subst h
      simp only [if_true, List.mem_cons, true_or]
      rw [wipe_length]
      by_cases hl : v < σ.length
      · rw [if_pos hl, List.getElem?_eq_getElem hl]; rfl
      · rw [if_neg hl, List.getElem?_eq_none (by omega)]; rfl
    · rw [if_neg h, wipe_get (vs := vs)]
      simp only [List.mem_cons, show ¬ i = v from fun e => h e.symm, false_or]
theorem wipe_eq {σ σ' : St} {vs : List Nat} (hl : σ'.length = σ.length) (h : ∀ i, i ∉ vs → σ'[i]? = σ[i]?) : wipe σ' vs = wipe σ vs := by
  refine List.ext_getElem? fun i => ?_
  rw [wipe_get, wipe_get]
  split
  · by_cases hi : i < σ.length
    · rw [List.getElem?_eq_getElem hi, List.getElem?_eq_getElem (by rw [hl]; exact hi)]; rfl
    · rw [List.getElem?_eq_none (by omega), List.getElem?_eq_none (by omega)]
  · rename_i hn; exact h i hn
theorem wipe_wipe {σ : St} {vs : List Nat} : wipe (wipe σ vs) vs = wipe σ vs := wipe_eq (wipe_length σ vs) fun i hi => by rw [wipe_get, if_neg hi]
def wipeF (fp : Nat → List Addr) : List Nat → Nat → List Addr
  | [] => fp
  | v :: vs => upF (wipeF fp vs) v []
theorem wipeF_mem {fp : Nat → List Addr} : ∀ {vs : List Nat} {i : Nat} {a : Addr}, a ∈ wipeF fp vs i → a ∈ fp i
  | [], _, _, h => h
  | v :: vs, i, a, h => by
    unfold wipeF at h
    rcases upF_mem h with ⟨_, h⟩ | ⟨_, h⟩
    · exact nomatch h
    · exact wipeF_mem h
theorem RS.wipe1 {K : PySem.W.Frag} {O : ASet} {σ : St} {H : Hp} {ds : DS} {fp : Nat → List Addr} (r : RS K O σ H ds fp) (i : Nat) : RS K O (σ.set i none) H (ds.set i none) (upF fp i []) := by
  have r2 := r.empty i
  refine ⟨by simp [r.len], fun j c e => ?_, r2.em, r2.dj, r2.off, r2.tr⟩
  have ej : j ≠ i := fun z => by
    subst z
    rw [List.getElem?_set] at e
    split at e
    · split at e <;> cases e
    · exact absurd rfl (by assumption)
  obtain ⟨u, h1, h2⟩ := r2.sl j c e
  exact ⟨u, by rw [List.getElem?_set_ne (Ne.symm ej)]; exact h1, h2⟩
theorem RS.wipe {K : PySem.W.Frag} {O : ASet} {σ : St} {H : Hp} {ds : DS} {fp : Nat → List Addr} (r : RS K O σ H ds fp) : ∀ vs : List Nat, RS K O (L2.wipe σ vs) H (wipeD ds vs) (wipeF fp vs)
  | [] => r
  | v :: vs => (RS.wipe r vs).wipe1 v
def keepSh : Option (Option D) → Option D
  | some (some d) => if d.sh then some d else none
  | _ => none
def unwD (ds1 dsF : DS) : List Nat → DS
  | [] => dsF
  | v :: vs => (unwD ds1 dsF vs).set v (keepSh ds1[v]?)
theorem unwD_len (ds1 dsF : DS) : ∀ vs : List Nat, (unwD ds1 dsF vs).length = dsF.length
  | [] => rfl
  | v :: vs => by unfold unwD; rw [List.length_set, unwD_len ds1 dsF vs]
theorem unwD_get {ds1 dsF : DS} : ∀ {vs : List Nat} {i : Nat} {d : D}, (unwD ds1 dsF vs)[i]? = some (some d) → (i ∈ vs ∧ keepSh ds1[i]? = some d) ∨ (i ∉ vs ∧ dsF[i]? = some (some d))
  | [], i, d, h => .inr ⟨(fun z => nomatch z), h⟩
  | v :: vs, i, d, h => by
    unfold unwD at h
    rw [List.getElem?_set] at h
    by_cases e : v = i
    · subst e
      rw [if_pos rfl] at h
      split at h
      · simp only [Option.some.injEq] at h
        exact .inl ⟨List.mem_cons_self .., h⟩
      · cases h
    · rw [if_neg e] at h
      rcases unwD_get h with ⟨h1, h2⟩ | ⟨h1, h2⟩
      · exact .inl ⟨List.mem_cons_of_mem _ h1, h2⟩
      · refine .inr ⟨fun z => ?_, h2⟩
        rcases List.mem_cons.mp z with z | z
        · exact e z.symm
        · exact h1 z
theorem keepSh_some {o : Option (Option D)} {d : D} (h : keepSh o = some d) : o = some (some d) ∧ d.sh = true := by
  unfold keepSh at h
  split at h
  · split at h
    · rename_i hs
      cases h; exact ⟨rfl, hs⟩
    · cases h
  · cases h
theorem unwD_out {ds1 dsF : DS} : ∀ {vs : List Nat} {i : Nat}, i ∉ vs → (unwD ds1 dsF vs)[i]? = dsF[i]?
  | [], i, _ => rfl
  | v :: vs, i, h => by
    unfold unwD
    rw [List.getElem?_set_ne fun z => h (by rw [z]; exact List.mem_cons_self ..)]
    exact unwD_out fun z => h (List.mem_cons_of_mem _ z)
theorem RS.unwipe {K : PySem.W.Frag} {O : ASet} {σ : St} {H : Hp} {ds1 dsF : DS} {fp : Nat → List Addr} {vs : List Nat} (r : RS K O (L2.wipe σ vs) H dsF fp)
    (h : ∀ i ∈ vs, ∀ d, keepSh ds1[i]? = some d → ∃ v, σ[i]? = some (some v) ∧ R K H (MM O fp) v d []) : RS K O σ H (unwD ds1 dsF vs) fp := by
  have em : ∀ i ∈ vs, fp i = [] := fun i hi => r.em i fun d e => by
    obtain ⟨v, h1, _⟩ := r.sl i d e
    rw [wipe_get, if_pos hi] at h1
    cases q : σ[i]? with
    | none => rw [q] at h1; cases h1
    | some o => rw [q] at h1; cases h1
  refine ⟨by rw [unwD_len, ← r.len, wipe_length], fun i d e => ?_, fun i hn => ?_, r.dj, r.off, r.tr⟩
  · rcases unwD_get e with ⟨hi, e⟩ | ⟨hi, e⟩
    · rw [em i hi]
      exact h i hi d e
    · obtain ⟨v, h1, h2⟩ := r.sl i d e
      rw [wipe_get, if_neg hi] at h1
      exact ⟨v, h1, h2⟩
  · by_cases hi : i ∈ vs
    · exact em i hi
    · refine r.em i fun d e => hn d ?_
      rw [unwD_out hi]; exact e

/-! ### the same reading in every block -/
section
variable {X : Cx} {Wx : WXd} {elt tg iter e : Expr} {ifs : List Expr} {scope : Scope} {own : List (Str × Nat)} {pos : Pos} {W : List Nat}
theorem uni_e {ι : Type} {C : ι → Cx} {K : PySem.W.Frag} (hK : ∀ i, (C i).K = K) {f : DS → Option (D × DS)} (h : ∀ i, PEd (C i) e f) : ∃ t, (∀ i, PE (C i) e t) ∧ ∀ (O : ASet) (σ : St) (H : Hp) (ds : DS) (fp : Nat → List Addr) (d : D) (ds' : DS) (Q : VK), RS K O σ H ds fp → f ds = some (d, ds') →
    (∀ v H' fp' p, RS K (OO O p) σ H' ds' fp' → R K H' (MM (OO O p) fp') v d p → (∀ a ∈ p, ¬ O a) → Step H H' fp fp' p → Q v H') → t σ H Q := by
  have h' : ∀ i, ∃ t, PE (C i) e t ∧ ∀ (O : ASet) (σ : St) (H : Hp) (ds : DS) (fp : Nat → List Addr) (d : D) (ds' : DS) (Q : VK), RS K O σ H ds fp → f ds = some (d, ds') →
      (∀ v H' fp' p, RS K (OO O p) σ H' ds' fp' → R K H' (MM (OO O p) fp') v d p → (∀ a ∈ p, ¬ O a) → Step H H' fp fp' p → Q v H') → t σ H Q := fun i => by
    obtain ⟨t, ht, s⟩ := h i
    rw [hK i] at s
    exact ⟨t, ht, s⟩
  exact ⟨fun σ H Q => ∀ i, (Classical.choose (h' i)) σ H Q, fun i => ⟨fun pins s σ H Q I q => (Classical.choose_spec (h' i)).1.run pins s σ H Q I (q i)⟩, fun O σ H ds fp d ds' Q r e k i => (Classical.choose_spec (h' i)).2 O σ H ds fp d ds' Q r e k⟩
theorem uni_t {ι : Type} {C : ι → Cx} {K : PySem.W.Frag} (hK : ∀ i, (C i).K = K) {f : DS → Option (Bool × DS)} (h : ∀ i, PTd (C i) e f) : ∃ t, (∀ i, PT (C i) e t) ∧ ∀ (O : ASet) (σ : St) (H : Hp) (ds : DS) (fp : Nat → List Addr) (b : Bool) (ds' : DS) (Q : Bool → Hp → Prop), RS K O σ H ds fp → f ds = some (b, ds') →
    (∀ H' fp', RS K O σ H' ds' fp' → Step H H' fp fp' [] → Q b H') → t σ H Q := by
  have h' : ∀ i, ∃ t, PT (C i) e t ∧ ∀ (O : ASet) (σ : St) (H : Hp) (ds : DS) (fp : Nat → List Addr) (b : Bool) (ds' : DS) (Q : Bool → Hp → Prop), RS K O σ H ds fp → f ds = some (b, ds') →
      (∀ H' fp', RS K O σ H' ds' fp' → Step H H' fp fp' [] → Q b H') → t σ H Q := fun i => by
    obtain ⟨t, ht, s⟩ := h i
    rw [hK i] at s
    exact ⟨t, ht, s⟩
  exact ⟨fun σ H Q => ∀ i, (Classical.choose (h' i)) σ H Q, fun i => ⟨fun pins s σ H Q I q => (Classical.choose_spec (h' i)).1.run pins s σ H Q I (q i)⟩, fun O σ H ds fp d ds' Q r e k i => (Classical.choose_spec (h' i)).2 O σ H ds fp d ds' Q r e k⟩
theorem uni_g {ι : Type} {C : ι → Cx} {K : PySem.W.Frag} (hK : ∀ i, (C i).K = K) {g : D → DS → Option DS} (h : ∀ i, PGd (C i) tg g W) : ∃ t, (∀ i, PG (C i) tg t) ∧ ∀ (O : ASet) (σ : St) (H : Hp) (ds : DS) (fp : Nat → List Addr) (v : V) (d : D) (p : List Addr) (ds' : DS) (Q : St → Hp → Prop), RS K (OO O p) σ H ds fp → R K H (MM (OO O p) fp) v d p → (∀ a ∈ p, ¬ O a) → g d ds = some ds' →
    (∀ σ' fp', RS K O σ' H ds' fp' → SlStep fp fp' p → (∀ i, i ∉ W → σ'[i]? = σ[i]?) → σ'.length = σ.length → Q σ' H) → t v σ H Q := by
  have h' : ∀ i, ∃ t, PG (C i) tg t ∧ ∀ (O : ASet) (σ : St) (H : Hp) (ds : DS) (fp : Nat → List Addr) (v : V) (d : D) (p : List Addr) (ds' : DS) (Q : St → Hp → Prop), RS K (OO O p) σ H ds fp → R K H (MM (OO O p) fp) v d p → (∀ a ∈ p, ¬ O a) → g d ds = some ds' →
      (∀ σ' fp', RS K O σ' H ds' fp' → SlStep fp fp' p → (∀ i, i ∉ W → σ'[i]? = σ[i]?) → σ'.length = σ.length → Q σ' H) → t v σ H Q := fun i => by
    obtain ⟨t, ht, s⟩ := h i
    rw [hK i] at s
    exact ⟨t, ht, s⟩
  exact ⟨fun v σ H Q => ∀ i, (Classical.choose (h' i)) v σ H Q, fun i => ⟨fun pins s σ H v u Q I r q => (Classical.choose_spec (h' i)).1.run pins s σ H v u Q I r (q i)⟩, fun O σ H ds fp v d p ds' Q r rv n e k i => (Classical.choose_spec (h' i)).2 O σ H ds fp v d p ds' Q r rv n e k⟩
/-- a clause's tests -/
def PTsd (X : Cx) (ifs : List Expr) (f : DS → Option (Bool × DS)) : Prop := (ifs = [] ∧ f = fun ds => some (true, ds)) ∨ ∃ c, ifs = [c] ∧ PTd X c f
def dYes : DS → Option (Bool × DS) := fun ds => some (true, ds)
theorem q_nil : PTsd X [] dYes := .inl ⟨rfl, rfl⟩
theorem q_one {c : Expr} {f : DS → Option (Bool × DS)} (h : PTd X c f) : PTsd X [c] f := .inr ⟨c, rfl, h⟩
theorem uni_q {ι : Type} [Nonempty ι] {C : ι → Cx} {K : PySem.W.Frag} (hK : ∀ i, (C i).K = K) {f : DS → Option (Bool × DS)} (h : ∀ i, PTsd (C i) ifs f) : ∃ t, (∀ i, PTs (C i) ifs t) ∧ ∀ (O : ASet) (σ : St) (H : Hp) (ds : DS) (fp : Nat → List Addr) (b : Bool) (ds' : DS) (Q : Bool → Hp → Prop), RS K O σ H ds fp → f ds = some (b, ds') →
    (∀ H' fp', RS K O σ H' ds' fp' → Step H H' fp fp' [] → Q b H') → t σ H Q := by
  obtain ⟨i0⟩ := ‹Nonempty ι›
  rcases h i0 with ⟨rfl, rfl⟩ | ⟨c, rfl, _⟩
  · exact ⟨tYes, fun i => pts_nil, fun O σ H ds fp b ds' Q r e k => by cases e; exact k H fp r Step.refl⟩
  · have h' : ∀ i, PTd (C i) c f := fun i => by
      rcases h i with ⟨z, _⟩ | ⟨c', z, hc⟩
      · cases z
      · cases z; exact hc
    obtain ⟨t, ht, s⟩ := uni_t hK h'
    exact ⟨t, fun i => pts_one (ht i), s⟩

/-- the turns of a comprehension: the items so far -/
def lcLoop (vs : List Nat) (g : D → DS → Option DS) (tt : DS → Option (Bool × DS)) (e : DS → Option (D × DS)) : List D → List D → DS → Option (List D × DS)
  | [], acc, ds => some (acc, ds)
  | x :: xs, acc, ds => (g x ds).bind fun ds1 => (tt ds1).bind fun t => if t.1 then (e t.2).bind fun r => if acc.length < sizeLine then lcLoop vs g tt e xs (acc ++ [r.1]) (wipeD r.2 vs) else none
    else lcLoop vs g tt e xs acc (wipeD t.2 vs)
def dLc (vs : List Nat) (f : DS → Option (List D × DS)) (g : D → DS → Option DS) (tt : DS → Option (Bool × DS)) (e : DS → Option (D × DS)) : DS → Option (D × DS) := fun ds => (f ds).bind fun r => (lcLoop vs g tt e r.1 [] (wipeD r.2 vs)).bind fun q => some (.lst true q.1, unwD r.2 q.2 vs)
abbrev BI := Shared × Hp × Addr × List (Str × Addr) × List Addr
abbrev Cx.bl (X : Cx) (scope : Scope) (i : BI) : Cx := X.blk i.1 i.2.1 scope (compEnvC scope i.2.2.2.1 i.2.2.1 X.env) i.2.2.2.2
theorem lc_read {K : PySem.W.Frag} {f : DS → Option (List D × DS)} {g : D → DS → Option DS} {tt : DS → Option (Bool × DS)} {ee : DS → Option (D × DS)} {wi : TI} {tG : TG} {tT : TT} {tE : TE} {vs : List Nat}
    (si : ∀ (O : ASet) (σ : St) (H : Hp) (ds : DS) (fp : Nat → List Addr) (xs : List D) (ds' : DS) (Rr : It → Hp → Prop), RS K O σ H ds fp → f ds = some (xs, ds') →
      (∀ J H' fp' x, RS K (OO O x) σ H' ds' fp' → (∀ a ∈ x, ¬ O a) → Step H H' fp fp' x → IterOk K J xs (MM (OO O x) fp') H' → Rr J H') → wi σ H Rr)
    (sg : ∀ (O : ASet) (σ : St) (H : Hp) (ds : DS) (fp : Nat → List Addr) (v : V) (d : D) (p : List Addr) (ds' : DS) (Q : St → Hp → Prop), RS K (OO O p) σ H ds fp → R K H (MM (OO O p) fp) v d p → (∀ a ∈ p, ¬ O a) → g d ds = some ds' →
      (∀ σ' fp', RS K O σ' H ds' fp' → SlStep fp fp' p → (∀ i, i ∉ W → σ'[i]? = σ[i]?) → σ'.length = σ.length → Q σ' H) → tG v σ H Q)
    (sq : ∀ (O : ASet) (σ : St) (H : Hp) (ds : DS) (fp : Nat → List Addr) (b : Bool) (ds' : DS) (Q : Bool → Hp → Prop), RS K O σ H ds fp → tt ds = some (b, ds') →
      (∀ H' fp', RS K O σ H' ds' fp' → Step H H' fp fp' [] → Q b H') → tT σ H Q)
    (se : ∀ (O : ASet) (σ : St) (H : Hp) (ds : DS) (fp : Nat → List Addr) (d : D) (ds' : DS) (Q : VK), RS K O σ H ds fp → ee ds = some (d, ds') →
      (∀ v H' fp' p, RS K (OO O p) σ H' ds' fp' → R K H' (MM (OO O p) fp') v d p → (∀ a ∈ p, ¬ O a) → Step H H' fp fp' p → Q v H') → tE σ H Q)
    (hW : ∀ i ∈ W, i ∈ vs) {O : ASet} {σ : St} {H : Hp} {ds : DS} {fp : Nat → List Addr} {d : D} {ds' : DS} {Q : VK} (r : RS K O σ H ds fp) (e : dLc vs f g tt ee ds = some (d, ds'))
    (k : ∀ v H' fp' p, RS K (OO O p) σ H' ds' fp' → R K H' (MM (OO O p) fp') v d p → (∀ a ∈ p, ¬ O a) → Step H H' fp fp' p → Q v H') : tLc wi tG tT tE vs σ H Q := by
  obtain ⟨⟨xs, ds1⟩, e1, e⟩ := Option.bind_eq_some_iff.mp e
  obtain ⟨⟨accF, dsF⟩, e2, e⟩ := Option.bind_eq_some_iff.mp e
  cases e
  refine si O σ H ds fp xs ds1 _ r e1 fun J H1 fp1 x r1 n1 s1 it L hL => ?_
  -- the state of the turns: the list at L holds acc, its parts at pa
  let M1 : ASet := MM (OO O x) fp1
  have cyL : ∀ b o, H1 b = some o → upd H1 L (.lst []) b = some o := more_upd hL
  let Inv : Nat → Hp → Prop := fun i H' => i ≤ xs.length ∧ ∃ ds2 fp2 acc vs2 pa, RS K (OO O (x ++ L :: pa)) (wipe σ vs) H' ds2 fp2 ∧ (∀ a ∈ x ++ L :: pa, ¬ O a) ∧ H' L = some (.lst vs2) ∧ L ∉ pa ∧ RL K H' (MM (OO O (x ++ L :: pa)) fp2) vs2 acc pa ∧
    lcLoop vs g tt ee (xs.drop i) acc ds2 = some (accF, dsF) ∧ (∀ a o, H1 a = some o → (∀ j, a ∉ fp1 j) → H' a = some o) ∧ ∀ a, ((∃ j, a ∈ fp2 j) ∨ a ∈ L :: pa) → (∃ j, a ∈ fp1 j) ∨ H1 a = none
  refine ⟨fun i m H' => m = xs.length - i ∧ Inv i H', ⟨_, rfl, Nat.zero_le _, wipeD ds1 vs, wipeF fp1 vs, [], [], [], ?_, ?_, upd_same, (fun z => nomatch z), .nil, by rw [List.drop_zero]; exact e2, fun a o z _ => cyL a o z, ?_⟩, ?_⟩
  · refine (r1.wipe vs).more cyL fun a z => ?_
    rcases z with z | z
    · exact .inl (.inl z)
    · rcases List.mem_append.mp z with z | z
      · exact .inl (.inr z)
      · rw [List.mem_singleton] at z; subst z
        exact .inr ⟨hL, by rw [upd_same]; exact fun w => nomatch w⟩
  · intro a z w
    rcases List.mem_append.mp z with z | z
    · exact n1 a z w
    · rw [List.mem_singleton] at z; subst z
      exact r1.tr _ (.inl (.inl w)) hL
  · rintro a (⟨j, z⟩ | z)
    · exact .inl ⟨j, wipeF_mem z⟩
    · rw [List.mem_singleton] at z; subst z; exact .inr hL
  rintro i m H2 ⟨rfl, hi, ds2, fp2, acc, vs2, pa, r2, n2, hL2, nL, ra, el, kp2, og2⟩
  have cy : Carry H1 H2 M1 (MM (OO O (x ++ L :: pa)) fp2) [] := ⟨fun a o z w => kp2 a o z fun j y => by
      rcases w with w | w
      · exact nomatch w
      · exact w (.inr ⟨j, y⟩), fun a z => by
      rcases z with (z | z) | z
      · exact .inl (.inl (.inl z))
      · rcases List.mem_append.mp z with z | z
        · exact .inl (.inl (.inr z))
        · rcases og2 a (.inr z) with z | z
          · exact .inl (.inr z)
          · exact .inr z
      · rcases og2 a (.inl z) with z | z
        · exact .inl (.inr z)
        · exact .inr z, fun _ z => nomatch z⟩
  have ij := it H2 _ cy r2.tr i
  by_cases hlt : i < xs.length
  · refine .inr ?_
    obtain ⟨go, yl⟩ := ij.1 xs[i] (List.getElem?_eq_getElem hlt)
    rw [List.drop_eq_getElem_cons hlt] at el
    obtain ⟨ds3, e3, el⟩ := Option.bind_eq_some_iff.mp el
    obtain ⟨⟨b, ds4⟩, e4, el⟩ := Option.bind_eq_some_iff.mp el
    refine ⟨go, Inv (i + 1), fun H' w => ⟨_, by omega, rfl, w⟩, fun v H3 y => ?_⟩
    obtain ⟨sm, rv⟩ := yl v H3 y
    have r3 : RS K (OO (OO O (x ++ L :: pa)) []) (wipe σ vs) H3 ds2 fp2 := r2.more sm fun a z => z.elim .inl fun z => nomatch z
    refine sg (OO O (x ++ L :: pa)) (wipe σ vs) H3 ds2 fp2 v _ [] ds3 _ r3 (by rw [OO_nil]; exact rv) (fun _ z => nomatch z) e3 fun σ4 fp4 r4 st4 kw4 ln4 => ?_
    have hw4 : wipe σ4 vs = wipe σ vs := by
      rw [wipe_eq (σ := wipe σ vs) ln4 fun j hj => kw4 j fun z => hj (hW j z), wipe_wipe]
    have s34 : Step H3 H3 fp2 fp4 [] := Step.refl.put st4
    refine ⟨hw4, ?_⟩
    refine sq (OO O (x ++ L :: pa)) σ4 H3 ds3 fp4 b ds4 _ r4 e4 fun H4 fp5 r5 s5 => ?_
    have s35 := s34.then s5
    -- what is kept up to here
    have pre : ∀ {H5 : Hp} {fp6 : Nat → List Addr} {q : List Addr}, Step H3 H5 fp2 fp6 q → (∀ a o, H1 a = some o → (∀ j, a ∉ fp1 j) → H5 a = some o) ∧ (∀ a, ((∃ j, a ∈ fp6 j) ∨ a ∈ q) → (∃ j, a ∈ fp1 j) ∨ H1 a = none) := fun {H5 fp6 q} s => by
      have f1 : ∀ a, (∃ j, a ∈ fp2 j) ∨ H3 a = none → (∃ j, a ∈ fp1 j) ∨ H1 a = none := fun a z => by
        rcases z with z | z
        · exact og2 a (.inl z)
        · by_cases w : ∃ j, a ∈ fp1 j
          · exact .inl w
          · cases e : H1 a with
            | none => exact .inr rfl
            | some o =>
              have := sm a o (kp2 a o e fun j y => w ⟨j, y⟩)
              rw [z] at this; cases this
      refine ⟨fun a o e nf => s.keep a o (sm a o (kp2 a o e nf)) fun j y => ?_, fun a z => f1 a (s.org a z)⟩
      rcases og2 a (.inl ⟨j, y⟩) with ⟨l, w⟩ | w
      · exact nf l w
      · rw [w] at e; cases e
    have keepL : ∀ {H5 : Hp} {fp6 : Nat → List Addr} {q : List Addr}, Step H3 H5 fp2 fp6 q → ∀ a ∈ x ++ L :: pa, ∀ o, H3 a = some o → H5 a = some o := fun {H5 fp6 q} s a ha o e => s.keep a o e fun j y => r2.off j a y (.inr ha)
    cases b with
    | true =>
      rw [if_pos rfl] at el
      obtain ⟨⟨y, ds5⟩, e5, el⟩ := Option.bind_eq_some_iff.mp el
      split at el
      · rename_i hz
        refine iteT (se (OO O (x ++ L :: pa)) σ4 H4 ds4 fp5 y ds5 _ r5 e5 fun u H5 fp6 q r6 ru nq s6 => ?_)
        have s36 := s35.then s6
        have hL5 : H5 L = some (.lst vs2) := keepL s36 L (List.mem_append_right _ (List.mem_cons_self ..)) _ (sm _ _ hL2)
        refine ⟨vs2, hL5, by rw [ra.len]; exact hz, ?_⟩
        obtain ⟨k1, k2⟩ := pre s36
        -- the items so far, carried here
        have raC : RL K H5 (MM (OO (OO O (x ++ L :: pa)) q) fp6) vs2 acc pa := ra.carry ⟨fun a o z w => by
            have z3 := sm a o z
            rcases w with w | w
            · exact keepL s36 a (List.mem_append_right _ (List.mem_cons_of_mem _ w)) o z3
            · exact s36.keep a o z3 fun j y => w (.inr ⟨j, y⟩), fun a z => by
            have back : (∃ j, a ∈ fp2 j) ∨ H3 a = none → MM (OO O (x ++ L :: pa)) fp2 a ∨ H2 a = none := fun z => by
              rcases z with z | z
              · exact .inl (.inr z)
              · cases e : H2 a with
                | none => exact .inr rfl
                | some o => have := sm a o e; rw [z] at this; cases this
            rcases z with (z | z) | z
            · exact .inl (.inl z)
            · exact back (s36.org a (.inr z))
            · exact back (s36.org a (.inl z)), fun a z => .inl (.inl (.inr (List.mem_append_right _ (List.mem_cons_of_mem _ z))))⟩
        have npq : ∀ a ∈ pa, a ∉ q := fun a z w => nq a w (.inr (List.mem_append_right _ (List.mem_cons_of_mem _ z)))
        have nLq : L ∉ q := fun w => nq L w (.inr (List.mem_append_right _ (List.mem_cons_self ..)))
        have eqO : ∀ a, OO (OO O (x ++ L :: pa)) q a ↔ OO O (x ++ L :: (pa ++ q)) a := fun a => by
          rw [OO_OO]
          simp only [List.append_assoc, List.cons_append]
        have r7 := r6.iff eqO
        have raL : RL K (upd H5 L (.lst (vs2 ++ [u]))) (MM (OO O (x ++ L :: (pa ++ q))) (wipeF fp6 vs)) (vs2 ++ [u]) (acc ++ [y]) (pa ++ q) := by
          have t := raC.snoc ru npq
          refine t.carry ⟨fun a o z w => ?_, fun a z => .inl ?_, fun a z => .inl (.inr (List.mem_append_right _ (List.mem_cons_of_mem _ z)))⟩
          · have : a ≠ L := fun z => by
              subst z
              rcases w with w | w
              · rcases List.mem_append.mp w with w | w
                · exact nL w
                · exact nLq w
              · exact w (.inl (.inl (.inr (List.mem_append_right _ (List.mem_cons_self ..)))))
            rw [upd_ne this]; exact z
          · rcases z with z | ⟨j, z⟩
            · exact .inl ((eqO a).mpr z)
            · exact .inr ⟨j, wipeF_mem z⟩
        refine ⟨hlt, wipeD ds5 vs, wipeF fp6 vs, acc ++ [y], vs2 ++ [u], pa ++ q, ?_, fun a z w => ?_, upd_same, fun z => (List.mem_append.mp z).elim nL nLq, raL, el, fun a o z nf => ?_, fun a z => ?_⟩
        · have r8 := r7.wipe vs
          rw [hw4] at r8
          refine ⟨r8.len, fun j c e => ?_, r8.em, r8.dj, r8.off, fun a z => ?_⟩
          · obtain ⟨u', g1, g2⟩ := r8.sl j c e
            refine ⟨u', g1, g2.carry ⟨fun a o z w => ?_, fun a z => .inl z, fun a z => .inr ⟨j, z⟩⟩⟩
            have : a ≠ L := fun z => by
              subst z
              rcases w with w | w
              · exact r8.off j a w (.inr (List.mem_append_right _ (List.mem_cons_self ..)))
              · exact w (.inl (.inr (List.mem_append_right _ (List.mem_cons_self ..))))
            rw [upd_ne this]; exact z
          · by_cases ea : a = L
            · subst ea; rw [upd_same]; exact fun w => nomatch w
            · rw [upd_ne ea]; exact r8.tr a z
        · rcases List.mem_append.mp z with z | z
          · exact n2 a (List.mem_append_left _ z) w
          · rcases List.mem_cons.mp z with z | z
            · subst z; exact n2 a (List.mem_append_right _ (List.mem_cons_self ..)) w
            · rcases List.mem_append.mp z with z | z
              · exact n2 a (List.mem_append_right _ (List.mem_cons_of_mem _ z)) w
              · exact nq a z (.inl w)
        · have : a ≠ L := fun q => by subst q; rw [hL] at z; cases z
          rw [upd_ne this]; exact k1 a o z nf
        · rcases z with ⟨j, z⟩ | z
          · exact k2 a (.inl ⟨j, wipeF_mem z⟩)
          · rcases List.mem_cons.mp z with z | z
            · subst z; exact .inr hL
            · rcases List.mem_append.mp z with z | z
              · exact og2 a (.inr (List.mem_cons_of_mem _ z))
              · exact k2 a (.inr z)
      · cases el
    | false =>
      rw [if_neg Bool.false_ne_true] at el
      refine iteF ?_
      obtain ⟨k1, k2⟩ := pre s35
      have hL4 : H4 L = some (.lst vs2) := keepL s35 L (List.mem_append_right _ (List.mem_cons_self ..)) _ (sm _ _ hL2)
      have r8 := r5.wipe vs
      rw [hw4] at r8
      refine ⟨hlt, wipeD ds4 vs, wipeF fp5 vs, acc, vs2, pa, r8, n2, hL4, nL, ?_, el, k1, fun a z => ?_⟩
      · refine ra.carry ⟨fun a o z w => ?_, fun a z => ?_, fun a z => .inl (.inr (List.mem_append_right _ (List.mem_cons_of_mem _ z)))⟩
        · have z3 := sm a o z
          rcases w with w | w
          · exact keepL s35 a (List.mem_append_right _ (List.mem_cons_of_mem _ w)) o z3
          · exact s35.keep a o z3 fun j y => w (.inr ⟨j, y⟩)
        · rcases z with z | ⟨j, z⟩
          · exact .inl (.inl z)
          · rcases s35.org a (.inl ⟨j, wipeF_mem z⟩) with z | z
            · exact .inl (.inr z)
            · refine .inr ?_
              cases e : H2 a with
              | none => rfl
              | some o => have := sm a o e; rw [z] at this; cases this
      · rcases z with ⟨j, z⟩ | z
        · exact k2 a (.inl ⟨j, wipeF_mem z⟩)
        · exact og2 a (.inr z)
  · refine .inl ⟨ij.2 (by omega), ?_⟩
    rw [List.drop_eq_nil_of_le (by omega)] at el
    cases el
    have rO : RS K (OO O (L :: pa)) (wipe σ vs) H2 dsF fp2 := r2.outer fun a z => z.imp id fun z => List.mem_append_right _ z
    have subM : ∀ a, MM (OO O (L :: pa)) fp2 a → MM (OO O (x ++ L :: pa)) fp2 a := fun a z => z.imp (fun z => z.imp id fun z => List.mem_append_right _ z) id
    have rF := rO.unwipe (ds1 := ds1) fun j hj c ec => by
      obtain ⟨e5, sh⟩ := keepSh_some ec
      obtain ⟨v, g1, g2⟩ := r1.sl j c e5
      have := g2.sh0 sh
      rw [this] at g2
      refine ⟨v, g1, (g2.carry cy).fewer subM fun _ z => nomatch z⟩
    refine k (.ref L) H2 fp2 (L :: pa) rF (.lstM hL2 (.inl (.inr (List.mem_cons_self ..))) nL (ra.fewer subM fun a z => .inl (.inr (List.mem_cons_of_mem _ z)))) (fun a z => n2 a (List.mem_append_right _ z)) ⟨fun a o e nf => ?_, fun a z => ?_⟩
    · refine kp2 a o (s1.keep a o e nf) fun j y => ?_
      rcases s1.org a (.inl ⟨j, y⟩) with ⟨l, w⟩ | w
      · exact nf l w
      · rw [w] at e; cases e
    · have back : (∃ j, a ∈ fp1 j) ∨ H1 a = none → (∃ i, a ∈ fp i) ∨ H a = none := fun z => by
        rcases z with z | z
        · exact s1.org a (.inl z)
        · by_cases w : ∃ j, a ∈ fp j
          · exact .inl w
          · cases e : H a with
            | none => exact .inr rfl
            | some o => have := s1.keep a o e fun j y => w ⟨j, y⟩; rw [z] at this; cases this
      exact back (og2 a z)
instance : Nonempty (Shared × Hp × Addr × List (Str × Addr) × List Addr → Prop) := ⟨fun _ => True⟩
theorem e_lc {f : DS → Option (List D × DS)} {g : D → DS → Option DS} {tt : DS → Option (Bool × DS)} {ee : DS → Option (D × DS)} (own : List (Str × Nat)) (hc : X.calm = true) (hN : X.N.Nodup) (hi : PId X tg iter f) (ok : BlkOk X.N X.env.scope scope own)
    (hg : ∀ i : BI, PGd (Cx.bl X scope i) tg g W) (ht : ∀ i : BI, PTsd (Cx.bl X scope i) ifs tt) (he : ∀ i : BI, PEd (Cx.bl X scope i) elt ee) (hW : ∀ i ∈ W, i ∈ own.map (·.2) := by decide) (hs : ∀ x, foldedSetIterable iter X.env x = pure x := by intro _; rfl) :
    PEd X (.ListComp elt [⟨tg, iter, ifs, 0⟩] scope pos) (dLc (own.map (·.2)) f g tt ee) := by
  obtain ⟨wi, hi, si⟩ := hi
  obtain ⟨tG, hG, sg⟩ := uni_g (C := Cx.bl X scope) (K := X.K) (fun _ => rfl) hg
  obtain ⟨tE, hE, se⟩ := uni_e (C := Cx.bl X scope) (K := X.K) (fun _ => rfl) he
  by_cases ne : Nonempty BI
  · obtain ⟨tT, hT, sq⟩ := uni_q (C := Cx.bl X scope) (K := X.K) (fun _ => rfl) ht
    refine ⟨_, pe_lc hc hN hi ok (fun s H C cl fp => hG ⟨s, H, C, cl, fp⟩) (fun s H C cl fp => hT ⟨s, H, C, cl, fp⟩) (fun s H C cl fp => hE ⟨s, H, C, cl, fp⟩) hs, fun O σ H ds fp d ds' Q r e k => ?_⟩
    exact lc_read si sg sq se hW r e k
  · exact absurd ⟨(X.s_0, X.H_0, 0, [], [])⟩ ne
/-- y = [..], y a local name -/
theorem d_lc {f : DS → Option (List D × DS)} {g : D → DS → Option DS} {tt : DS → Option (Bool × DS)} {ee : DS → Option (D × DS)} (i : Nat) {y : Str} {py spos : Pos} (own : List (Str × Nat)) (hc : X.calm = true) (hN : X.N.Nodup) (hi : PId X tg iter f) (ok : BlkOk X.N X.env.scope scope own)
    (hg : ∀ i : BI, PGd (Cx.bl X scope i) tg g W) (ht : ∀ i : BI, PTsd (Cx.bl X scope i) ifs tt) (he : ∀ i : BI, PEd (Cx.bl X scope i) elt ee) (hsw : swapsWith (.ListComp elt [⟨tg, iter, ifs, 0⟩] scope pos) (some (.Name y py)) spos.line X.env = pure true)
    (hy : X.N[i]? = some y := by rfl) (hyl : X.env.scope.names.lookup y = some .local := by rfl) (hW : ∀ i ∈ W, i ∈ own.map (·.2) := by decide) (hs : ∀ x, foldedSetIterable iter X.env x = pure x := by intro _; rfl) :
    PSd X Wx (.Assign [.Name y py] (.ListComp elt [⟨tg, iter, ifs, 0⟩] scope pos) spos) (dAsg (dLc (own.map (·.2)) f g tt ee) (gNm i)) [i] := by
  obtain ⟨wi, hi, si⟩ := hi
  obtain ⟨tG, hG, sg⟩ := uni_g (C := Cx.bl X scope) (K := X.K) (fun _ => rfl) hg
  obtain ⟨tE, hE, se⟩ := uni_e (C := Cx.bl X scope) (K := X.K) (fun _ => rfl) he
  have ne : Nonempty BI := ⟨(X.s_0, X.H_0, 0, [], [])⟩
  obtain ⟨tT, hT, sq⟩ := uni_q (C := Cx.bl X scope) (K := X.K) (fun _ => rfl) ht
  refine ⟨_, ps_setLc hc hN hy hyl hsw hi ok (fun s H C cl fp => hG ⟨s, H, C, cl, fp⟩) (fun s H C cl fp => hT ⟨s, H, C, cl, fp⟩) (fun s H C cl fp => hE ⟨s, H, C, cl, fp⟩) hs, fun O σ H ds fp fl ds' Dn r e k => ?_⟩
  obtain ⟨⟨d, ds1⟩, e1, e⟩ := Option.bind_eq_some_iff.mp e
  obtain ⟨ds2, e2, e⟩ := Option.bind_eq_some_iff.mp e
  cases e
  show tLc wi tG tT tE (own.map (·.2)) σ H (fun x H1 => gName i x σ H1 Dn.nx)
  refine lc_read si sg sq se hW r e1 fun v H1 fp1 p r1 rv n1 s1 => ?_
  unfold gNm at e2
  split at e2
  · rename_i hl
    cases e2
    exact k _ H1 _ (r1.put rv n1 hl) (s1.put SlStep.put) fun j hj => by rw [List.getElem?_set_ne (fun z => hj (List.mem_singleton.mpr z.symm))]
  · cases e2
end
end DL

/-! DLb: lists in their slots: x[i] = e, pop, extend, insert. -/
namespace DL
open PySem PySem.Spec L2

section
variable {X : Cx} {Wx : WXd} {a b c e : Expr} {es : List Expr} {pos p apos : Pos} {x : Str}
theorem lst_upd {K : PySem.W.Frag} {O : ASet} {σ : St} {H H0 : Hp} {ds : DS} {fp fp0 : Nat → List Addr} {p q p' : List Addr} {i : Nat} {a : Addr} {vs' : List V} {xs xs' : List D} (r : RS K (OO O q) σ H ds fp) (e : ds[i]? = some (some (.lst true xs))) (nq : ∀ a ∈ q, ¬ O a) (st : Step H0 H fp0 fp q)
    (hv : σ[i]? = some (some (.ref a))) (hf : fp i = a :: p) (na : a ∉ p) (new : RL K H (MM (OO O q) fp) vs' xs' p') (sub : ∀ c ∈ p', c ∈ p ∨ c ∈ q) : ∃ fp2, RS K O σ (upd H a (.lst vs')) (ds.set i (some (.lst true xs'))) fp2 ∧ Step H0 (upd H a (.lst vs')) fp0 fp2 [] := by
  have hi := (List.getElem?_eq_some_iff.mp e).1
  have kp : ∀ b o, H b = some o → b ∉ fp i → upd H a (.lst vs') b = some o := fun b o e n => by
    rw [upd_ne fun z => n (by rw [hf, z]; exact List.mem_cons_self ..)]; exact e
  have aq : a ∉ q := fun z => r.off i a (by rw [hf]; exact List.mem_cons_self ..) (.inr z)
  have ap : a ∉ p' := fun z => (sub a z).elim na aq
  have hq : ∀ c ∈ a :: p', c ∈ fp i ∨ c ∈ q := fun c z => by
    rcases List.mem_cons.mp z with z | z
    · exact .inl (by rw [hf, z]; exact List.mem_cons_self ..)
    · exact (sub c z).imp (fun z => by rw [hf]; exact List.mem_cons_of_mem _ z) id
  have cy : Carry H (upd H a (.lst vs')) (MM (OO O q) fp) (MM O (upF fp i (a :: p'))) p' := ⟨fun c o z w => by
      have hca : c ≠ a := fun z => by
        subst z
        rcases w with w | w
        · exact ap w
        · exact w (.inr ⟨i, by rw [hf]; exact List.mem_cons_self ..⟩)
      rw [upd_ne hca]; exact z, fun c z => by
      rcases z with z | ⟨j, z⟩
      · exact .inl (.inl (.inl z))
      · rcases upF_mem z with ⟨_, z⟩ | ⟨_, z⟩
        · rcases hq c z with z | z
          · exact .inl (.inr ⟨i, z⟩)
          · exact .inl (.inl (.inr z))
        · exact .inl (.inr ⟨j, z⟩), fun c z => .inr ⟨i, by rw [upF_same]; exact List.mem_cons_of_mem _ z⟩⟩
  have rw' : R K (upd H a (.lst vs')) (MM O (upF fp i (a :: p'))) (.ref a) (.lst true xs') (a :: p') :=
    .lstM upd_same (.inr ⟨i, by rw [upF_same]; exact List.mem_cons_self ..⟩) ap (new.carry cy)
  exact ⟨_, r.write hi hv kp rw' hq nq, st.write kp hq⟩
theorem RL.setI {K : PySem.W.Frag} {H : Hp} {M : ASet} : ∀ {vs : List V} {ds : List D} {p q : List Addr} {v : V} {d : D} (n : Nat), RL K H M vs ds p → R K H M v d q → (∀ a ∈ p, a ∉ q) → ∃ p', RL K H M (vs.set n v) (ds.set n d) p' ∧ ∀ c ∈ p', c ∈ p ∨ c ∈ q
  | _, _, _, q, v, d, n, .nil, _, _ => ⟨[], .nil, fun _ z => nomatch z⟩
  | _, _, _, q, v, d, 0, .cons (ps := ps) h t nd, s, n => ⟨q ++ ps, .cons s t fun a z w => n a (List.mem_append_right _ w) z, fun c z => (List.mem_append.mp z).elim .inr fun z => .inl (List.mem_append_right _ z)⟩
  | _, _, _, q, v, d, k + 1, .cons (p := p1) h t nd, s, n => by
    obtain ⟨p', h1, h2⟩ := RL.setI k t s fun a z => n a (List.mem_append_right _ z)
    refine ⟨p1 ++ p', .cons h h1 fun a z w => ?_, fun c z => ?_⟩
    · rcases h2 a w with w | w
      · exact nd a z w
      · exact n a (List.mem_append_left _ z) w
    · rcases List.mem_append.mp z with z | z
      · exact .inl (List.mem_append_left _ z)
      · exact (h2 c z).imp (List.mem_append_right _) id
/-- x[i] = e -/
def dSetIx (i : Nat) (f g : DS → Option (D × DS)) : DS → Option (Fl × DS) := fun ds => (f ds).bind fun r => (dNm i r.2).bind fun _ => (g r.2).bind fun q => match q.1, dNm i q.2 with
  | .int j, some (.lst true xs) => (ixN xs.length j).bind fun n => some (.nx, q.2.set i (some (.lst true (xs.set n r.1))))
  | _, _ => none
theorem d_setix (i : Nat) {px spos : Pos} {f g : DS → Option (D × DS)} (he : PEd X e f) (hb : PEd X b g) (hN : X.N[i]? = some x := by rfl) (hv : Vis X.env.scope x := by first | exact Or.inl rfl | exact Or.inr (Or.inl rfl) | exact Or.inr (Or.inr rfl)) (hd : (x == ("__debug__" : Str)) = false := by decide)
    (hcd : (x == ("__classdict__" : Str)) = false := by decide)
    (ha : ∀ v, assign (.Subscript (.Name x px) b spos) X.env v = (do
      let ov ← holding [v] (eval (.Name x px) X.env)
      let iv ← holding [v, ov] (eval b X.env)
      standAt spos
      holding [v, ov, iv] (setItem ov iv v)
      release [v, ov, iv] []) := by intro _; rfl)
    (hs : swapsWithSole [.Subscript (.Name x px) b spos] e pos.line X.env = pure false := by rfl) (hw : swappedStores [.Subscript (.Name x px) b spos] e X.env = pure none := by rfl) (h1 : (assignEach [.Subscript (.Name x px) b spos] X.env).map (·.2) = [assign (.Subscript (.Name x px) b spos) X.env] := by rfl) :
    PSd X Wx (.Assign [.Subscript (.Name x px) b spos] e pos) (dSetIx i f g) [] := by
  obtain ⟨t, ht, s⟩ := he
  obtain ⟨u, hu, su⟩ := hb
  refine ⟨_, ps_asg ht (pg_sub (pe_var hN hv hd hcd) hu set_list ha) hs hw h1, fun O σ H ds fp fl ds' Dn r ef k => ?_⟩
  obtain ⟨⟨d, ds1⟩, e1, ef⟩ := Option.bind_eq_some_iff.mp ef
  obtain ⟨d0, e0, ef⟩ := Option.bind_eq_some_iff.mp ef
  obtain ⟨⟨dj, ds2⟩, e2, ef⟩ := Option.bind_eq_some_iff.mp ef
  simp only at ef e0 e2
  split at ef
  · rename_i j xs h1
    obtain ⟨n, e3, ef⟩ := Option.bind_eq_some_iff.mp ef
    cases ef
    refine s O σ H ds fp d ds1 _ r e1 fun v H1 fp1 p r1 rv n1 s1 => ?_
    obtain ⟨vx, g1, _⟩ := r1.sl i d0 (dNm_some.mp e0)
    refine ⟨vx, g1, ?_⟩
    refine su (OO O p) σ H1 ds1 fp1 _ _ _ r1 e2 fun vj H2 fp2 pj r2 rj n2 s2 => ?_
    cases rj
    have r2 := r2.drop
    have s2 := s2.less (y := []) fun _ z => nomatch z
    have e4 := dNm_some.mp h1
    obtain ⟨a, vs, p2, f1, f2, f3, f4, f5⟩ := r2.lst e4
    rw [g1] at f1; cases f1
    have cv := r1.carry (O' := OO O p) s2 (q := p) (fun a z => .inr z) (fun a z => .inl z) (fun a z => z)
    obtain ⟨p', k1, k2⟩ := f5.setI n (rv.carry cv) fun a z w => r2.off i a (by rw [f3]; exact List.mem_cons_of_mem _ z) (.inr w)
    have st := (s1.trans s2 fun a z i w => r1.off i a w (.inr z)).less (y := p) fun a z => List.mem_append_right _ z
    obtain ⟨fp3, r3, s3⟩ := lst_upd r2 e4 n1 st g1 f3 f4 k1 k2
    exact ⟨a, vs, j, n, rfl, rfl, f2, by rw [f5.len]; exact e3, k σ _ fp3 r3 s3 fun _ _ => rfl⟩
  · cases ef
/-- x.pop() -/
def dPop (i : Nat) : DS → Option (D × DS) := fun ds => match dNm i ds with
  | some (.lst true xs) => (xs[xs.length - 1]?).bind fun d => if shL xs then some (d, ds.set i (some (.lst true xs.dropLast))) else none
  | _ => none
theorem RL.dropLast {K : PySem.W.Frag} {H : Hp} {M : ASet} {vs : List V} {ds : List D} {p : List Addr} (r : RL K H M vs ds p) (h : shL ds = true) : RL K H M vs.dropLast ds.dropLast [] := by
  rw [List.dropLast_eq_take, List.dropLast_eq_take, r.len]
  exact r.take _ h
theorem e_pop (i : Nat) {px : Pos} (hN : X.N[i]? = some x := by rfl) (hv : Vis X.env.scope x := by first | exact Or.inl rfl | exact Or.inr (Or.inl rfl) | exact Or.inr (Or.inr rfl)) (hd : (x == ("__debug__" : Str)) = false := by decide)
    (hcd : (x == ("__classdict__" : Str)) = false := by decide) (hbase : attributeBase (.Name x px) "pop" X.env (eval (.Name x px) X.env) = eval (.Name x px) X.env := by rfl) (hline : (apos.endLine == pos.line) = true := by rfl) :
    PEd X (.Call (.Attribute (.Name x px) "pop" apos) [] [] pos) (dPop i) := by
  refine ⟨_, pe_bm0 PySem.F.plainAttrs_list PySem.F.slot_list_pop PySem.F.type_list_pop mt_pop (pe_var hN hv hd hcd) hbase hline, fun O σ H ds fp d ds' Q r ef k => ?_⟩
  unfold dPop at ef
  split at ef
  · rename_i xs h0
    obtain ⟨dl, e1, ef⟩ := Option.bind_eq_some_iff.mp ef
    split at ef
    · rename_i hs
      cases ef
      have e4 := dNm_some.mp h0
      obtain ⟨a, vs, p2, g1, f2, f3, f4, f5⟩ := r.lst e4
      have hp := f5.sh0 hs
      subst hp
      obtain ⟨v, h1, h2⟩ := f5.getS hs e1
      have r' : RS X.K (OO O []) σ H ds fp := by rw [OO_nil]; exact r
      obtain ⟨fp3, r3, s3⟩ := lst_upd r' e4 (fun _ z => nomatch z) Step.refl g1 f3 f4 ((f5.dropLast hs).fewer (fun a z => z.imp (fun z => z.elim id fun z => nomatch z) id) fun _ z => nomatch z) (fun _ z => nomatch z)
      refine ⟨.ref a, g1, .inl ⟨rfl, _, .inl (.inl f2)⟩, a, vs, v, rfl, rfl, f2, by rw [f5.len]; exact h1, ?_⟩
      refine k v _ fp3 [] (by rw [OO_nil]; exact r3) ?_ (fun _ z => nomatch z) s3
      rw [OO_nil]
      refine h2.carry ⟨fun b o z w => ?_, fun b z => ?_, fun _ z => nomatch z⟩
      · rcases w with w | w
        · exact nomatch w
        · rw [upd_ne fun q => w (.inr ⟨i, by rw [f3, q]; exact List.mem_cons_self ..⟩)]; exact z
      · rcases z with z | ⟨j, z⟩
        · exact .inl (.inl z)
        · rcases s3.org b (.inl ⟨j, z⟩) with z | z
          · exact .inl (.inr z)
          · exact .inr z
    · cases ef
  · cases ef
/-- x.pop(i) -/
def dPopAt (i : Nat) (g : DS → Option (D × DS)) : DS → Option (D × DS) := fun ds => match dNm i ds with
  | some (.lst true _) => (g ds).bind fun q => match q.1, dNm i q.2 with
    | .int j, some (.lst true xs) => if shL xs && decide (j.natAbs < 2 ^ 62) then (ixN xs.length j).bind fun n => (xs[n]?).bind fun d => some (d, q.2.set i (some (.lst true (xs.eraseIdx n)))) else none
    | _, _ => none
  | _ => none
theorem RL.erase {K : PySem.W.Frag} {H : Hp} {M : ASet} : ∀ {vs : List V} {ds : List D} {p : List Addr} (n : Nat), RL K H M vs ds p → shL ds = true → RL K H M (vs.eraseIdx n) (ds.eraseIdx n) []
  | _, _, _, _, .nil, _ => .nil
  | _, _, _, 0, .cons h t _, s => by
    simp only [shL, Bool.and_eq_true] at s
    exact t.sh s.2
  | _, _, _, n + 1, .cons h t _, s => by
    simp only [shL, Bool.and_eq_true] at s
    have := h.sh0 s.1
    subst this
    exact RL.cons0 h (RL.erase n t s.2)
theorem e_popAt (i : Nat) {px : Pos} {g : DS → Option (D × DS)} (he : PEd X e g) (hN : X.N[i]? = some x := by rfl) (hv : Vis X.env.scope x := by first | exact Or.inl rfl | exact Or.inr (Or.inl rfl) | exact Or.inr (Or.inr rfl)) (hd : (x == ("__debug__" : Str)) = false := by decide)
    (hcd : (x == ("__classdict__" : Str)) = false := by decide) (hbase : attributeBase (.Name x px) "pop" X.env (eval (.Name x px) X.env) = eval (.Name x px) X.env := by rfl)
    (hfew : ((backTo pos (starEach [e] X.env)).all (fun x => !x.1) && (backToKw pos (keywordEach [] X.env)).all (fun x => x.1.isSome) && decide ([e].length + ([] : List Keyword).length + (if ([] : List Keyword).isEmpty then 0 else 1) < 30)) = true := by rfl)
    (hline : (apos.endLine == pos.line) = true := by rfl) (hs : starEach [e] X.env = (false, eval e X.env) :: starEach [] X.env := by rfl) (hplain : (backTo pos (starEach [] X.env)).any (·.1) = false := by rfl) :
    PEd X (.Call (.Attribute (.Name x px) "pop" apos) [e] [] pos) (dPopAt i g) := by
  obtain ⟨t, ht, s⟩ := he
  refine ⟨_, pe_bm PySem.F.plainAttrs_list PySem.F.slot_list_pop PySem.F.type_list_pop mt_popAt (pe_var hN hv hd hcd) (pa_cons ht pa_nil hs) hbase hfew hline hs hplain, fun O σ H ds fp d ds' Q r ef k => ?_⟩
  unfold dPopAt at ef
  split at ef
  · rename_i xs0 h0
    obtain ⟨⟨dj, ds1⟩, e1, ef⟩ := Option.bind_eq_some_iff.mp ef
    simp only at ef
    split at ef
    · rename_i j xs h1
      split at ef
      · rename_i hz
        simp only [Bool.and_eq_true, decide_eq_true_eq] at hz
        obtain ⟨hz1, hz0⟩ := hz
        have hz2 : -(2 ^ 63) ≤ j := by omega
        have hz3 : j < 2 ^ 63 := by omega
        obtain ⟨n, e2, ef⟩ := Option.bind_eq_some_iff.mp ef
        obtain ⟨dn, e3, ef⟩ := Option.bind_eq_some_iff.mp ef
        cases ef
        obtain ⟨a0, vs0, p0, g1, g2, _⟩ := r.lst (dNm_some.mp h0)
        refine ⟨.ref a0, g1, .inl ⟨rfl, _, .inl (.inl g2)⟩, ?_⟩
        refine s O σ H ds fp _ ds1 _ r e1 fun v H1 fp1 q r1 rv n1 s1 => ?_
        cases rv
        have r1 := r1.drop
        have s1 := s1.less (y := []) fun _ z => nomatch z
        have e4 := dNm_some.mp h1
        obtain ⟨a, vs, p2, f1, f2, f3, f4, f5⟩ := r1.lst e4
        rw [g1] at f1; cases f1
        have hp := f5.sh0 hz1
        subst hp
        obtain ⟨v, k1, k2⟩ := f5.getS hz1 e3
        have r' : RS X.K (OO O []) σ H1 ds1 fp1 := by rw [OO_nil]; exact r1
        obtain ⟨fp3, r3, s3⟩ := lst_upd r' e4 (fun _ z => nomatch z) Step.refl g1 f3 f4 ((f5.erase n hz1).fewer (fun a z => z.imp (fun z => z.elim id fun z => nomatch z) id) fun _ z => nomatch z) (fun _ z => nomatch z)
        obtain ⟨q1, q2, q3, q4⟩ := ixN_seq e2
        refine ⟨a0, vs, j, n, v, rfl, rfl, f2, hz2, hz3, by rw [f5.len]; exact q1, k1, ?_⟩
        refine k v _ fp3 [] (by rw [OO_nil]; exact r3) ?_ (fun _ z => nomatch z) (s1.then s3)
        rw [OO_nil]
        refine k2.carry ⟨fun b o z w => ?_, fun b z => ?_, fun _ z => nomatch z⟩
        · rcases w with w | w
          · exact nomatch w
          · rw [upd_ne fun q => w (.inr ⟨i, by rw [f3, q]; exact List.mem_cons_self ..⟩)]; exact z
        · rcases z with z | ⟨l, z⟩
          · exact .inl (.inl z)
          · rcases s3.org b (.inl ⟨l, z⟩) with z | z
            · exact .inl (.inr z)
            · exact .inr z
      · cases ef
    · cases ef
  · cases ef
/-- x.extend(e): a list of shared items -/
def dExt (i : Nat) (f : DS → Option (D × DS)) : DS → Option (D × DS) := fun ds => match dNm i ds with
  | some (.lst true _) => (f ds).bind fun r => match r.1, dNm i r.2 with
    | .lst _ ys, some (.lst true xs) => if shL ys && decide (xs.length + ys.length ≤ sizeLine) then some (.non, r.2.set i (some (.lst true (xs ++ ys)))) else none
    | _, _ => none
  | _ => none
theorem e_extend (i : Nat) {px : Pos} {f : DS → Option (D × DS)} (he : PEo X e f) (hN : X.N[i]? = some x := by rfl) (hv : Vis X.env.scope x := by first | exact Or.inl rfl | exact Or.inr (Or.inl rfl) | exact Or.inr (Or.inr rfl)) (hd : (x == ("__debug__" : Str)) = false := by decide)
    (hcd : (x == ("__classdict__" : Str)) = false := by decide) (hbase : attributeBase (.Name x px) "extend" X.env (eval (.Name x px) X.env) = eval (.Name x px) X.env := by rfl)
    (hfew : ((backTo pos (starEach [e] X.env)).all (fun x => !x.1) && (backToKw pos (keywordEach [] X.env)).all (fun x => x.1.isSome) && decide ([e].length + ([] : List Keyword).length + (if ([] : List Keyword).isEmpty then 0 else 1) < 30)) = true := by rfl)
    (hline : (apos.endLine == pos.line) = true := by rfl) (hs : starEach [e] X.env = (false, eval e X.env) :: starEach [] X.env := by rfl) (hplain : (backTo pos (starEach [] X.env)).any (·.1) = false := by rfl) :
    PEd X (.Call (.Attribute (.Name x px) "extend" apos) [e] [] pos) (dExt i f) := by
  obtain ⟨t, ht, s⟩ := he
  refine ⟨_, pe_bm PySem.F.plainAttrs_list PySem.F.slot_list_extend PySem.F.type_list_extend mt_extend (pe_var hN hv hd hcd) (pa_cons ht pa_nil hs) hbase hfew hline hs hplain, fun O σ H ds fp d ds' Q r ef k => ?_⟩
  unfold dExt at ef
  split at ef
  · rename_i xs0 h0
    obtain ⟨⟨dj, ds1⟩, e1, ef⟩ := Option.bind_eq_some_iff.mp ef
    simp only at ef
    split at ef
    · rename_i m ys xs h1
      split at ef
      · rename_i hz
        simp only [Bool.and_eq_true, decide_eq_true_eq] at hz
        obtain ⟨hz1, hz2⟩ := hz
        cases ef
        obtain ⟨a0, vs0, p0, g1, g2, _⟩ := r.lst (dNm_some.mp h0)
        refine ⟨.ref a0, g1, .inl ⟨rfl, _, .inl (.inl g2)⟩, ?_⟩
        refine s O σ H ds fp _ ds1 _ r e1 fun v H1 fp1 p q r1 rv n1 s1 => ?_
        have e4 := dNm_some.mp h1
        obtain ⟨a, vs, p2, f1, f2, f3, f4, f5⟩ := r1.lst e4
        rw [g1] at f1; cases f1
        obtain ⟨b, ws, q2, rfl, l1, l2, _⟩ := rv.lstS
        have l3 := l2.sh hz1
        have new := f5.append l3 (fun _ _ z => nomatch z)
        rw [List.append_nil] at new
        obtain ⟨fp3, r3, s3⟩ := lst_upd r1 e4 n1 s1 g1 f3 f4 new (fun c z => .inl z)
        exact ⟨a0, b, vs, ws, rfl, rfl, f2, l1, by rw [f5.len, l2.len]; exact hz2, k .non _ fp3 [] (by rw [OO_nil]; exact r3) .non (fun _ z => nomatch z) s3⟩
      · cases ef
    · cases ef
  · cases ef
end
end DL

/-! DLc: a def that stands at its name. -/
namespace DL
open PySem PySem.Spec L2

/-- the def x keeps its promise F, by at most k calls one in another -/
def Has (P : Program) (w : World) (K : PySem.W.Frag) (mg : Str → Option Value) (base : Heap) (x : Str) (k n : Nat) (F : FD) : Prop :=
  ∃ f fd ps, FnOk P w K mg base CX0 k f fd ps (spD n K F) ∧ mg x = some (.ref f) ∧ PySem.W.keepIn K (.ref f) = true ∧ Binds K fd ps []
/-- how a def stands in the text -/
structure At (K : PySem.W.Frag) (mg : Str → Option Value) (x qual : Str) (st : Stmt) (ps : List Str) (f : Addr) (fd : FuncData) : Prop where
  fn : Fun K x qual st f fd
  mg : mg x = some (.ref f)
  kp : PySem.W.keepIn K (.ref f) = true
  bd : Binds K fd ps []
section
variable {P : Program} {w : World} {K : PySem.W.Frag} {mg : Str → Option Value} {base : Heap}
theorem has_mk {x qual : Str} {st : Stmt} {f : Addr} {fd : FuncData} {N ps : List Str} {k : Nat} {b : DS → Option (Fl × DS)} {W : List Nat} (A : At K mg x qual st ps f fd) (S : FnScope N ps (defScope st))
    (body : ∀ (cdv : Value) (A : Around) (outer : List Env) (s : Shared) (H : Hp) (E : XK), Room k (A.deeper (PyProof.Rows.envOfC qual (defScope st) s.heap.objs.size f cdv)) → PSsd (cxOf CX0 P w K mg base N qual (defScope st) f cdv A outer s H E).nox WF (defBody st) b W) :
    Has P w K mg base x (k + 1) ps.length (dFn N.length ps.length W b) := ⟨f, fd, ps, fn_ok A.fn S body, A.mg, A.kp, A.bd⟩
theorem Has.mono {x : Str} {j k n : Nat} {F : FD} (h : Has P w K mg base x j n F) (le : j ≤ k) : Has P w K mg base x k n F := by
  obtain ⟨f, fd, ps, h1, h2⟩ := h
  exact ⟨f, fd, ps, h1.mono le, h2⟩
end
section
variable {X : Cx} {e : Expr} {es : List Expr} {pos p : Pos} {x : Str} {k j n : Nat} {F : FD}
theorem e_f {g : DS → Option (List A1 × DS)} (h : Has X.prog X.w X.K X.mg X.base x j n F) (hr : Room k X.A) (ha : PCd X (e :: es) g) (hj : j ≤ k := by decide) (hg : Gl X x := by rfl)
    (hdb : (x == ("__debug__" : Str)) = false := by decide) (he : starEach (e :: es) X.env = (false, eval e X.env) :: starEach es X.env := by rfl) (hpl : (backTo pos (starEach es X.env)).any (·.1) = false := by rfl) :
    PEd X (.Call (.Name x p) (e :: es) [] pos) (dCall n F g) := by
  obtain ⟨f, fd, ps, h1, h2, h3, h4⟩ := h
  exact e_call h1 (hr.mono hj) h2 h3 h4 ha hg hdb he hpl
end
end DL

/-! DLd: chains, += of names, two names at once, constants of the module, more built-ins. -/
namespace DL
open PySem PySem.Spec L2

theorem hu_65 {A : Around} {k : Nat} {env : Env} (hr : Room k (A.deeper env)) : (A.deeper env).units + 65 < cLine := by
  have := hr.un
  omega
section
variable {X : Cx} {Wx : WXd} {a b c e : Expr} {es : List Expr} {pos p apos : Pos} {x : Str}
/-! ### a op b op' c -/
def dChain (g g' : D → D → Option D) (f1 f2 f3 : DS → Option (D × DS)) : DS → Option (Bool × DS) := fun ds => (f1 ds).bind fun r1 => (f2 r1.2).bind fun r2 => (g r1.1 r2.1).bind fun t => match t with
  | .bl true => (f3 r2.2).bind fun r3 => (g' r2.1 r3.1).bind fun u => match u with
    | .bl k => some (k, r3.2)
    | _ => none
  | .bl false => some (false, r2.2)
  | _ => none
theorem chain_rd {O : ASet} {σ : St} {H : Hp} {ds : DS} {fp : Nat → List Addr} {g g' : D → D → Option D} {f1 f2 f3 : DS → Option (D × DS)} {k : Bool} {ds' : DS} {Q : Bool → Hp → Prop} {r1 r2 : R2} {ta tb tc : TE}
    (so : ∀ (M : ASet) (H : Hp) (x y : V) (c d e : D) (p q : List Addr) (Q : VK), (∀ a, M a → H a ≠ none) → R X.K H M x c p → R X.K H M y d q → g c d = some e → GiveV X.K M H e Q → r1 x y H Q)
    (so' : ∀ (M : ASet) (H : Hp) (x y : V) (c d e : D) (p q : List Addr) (Q : VK), (∀ a, M a → H a ≠ none) → R X.K H M x c p → R X.K H M y d q → g' c d = some e → GiveV X.K M H e Q → r2 x y H Q)
    (sa : ∀ (O : ASet) (σ : St) (H : Hp) (ds : DS) (fp : Nat → List Addr) (d : D) (ds' : DS) (Q : VK), RS X.K O σ H ds fp → f1 ds = some (d, ds') → (∀ v H' fp' p, RS X.K (OO O p) σ H' ds' fp' → R X.K H' (MM (OO O p) fp') v d p → (∀ a ∈ p, ¬ O a) → Step H H' fp fp' p → Q v H') → ta σ H Q)
    (sb : ∀ (O : ASet) (σ : St) (H : Hp) (ds : DS) (fp : Nat → List Addr) (d : D) (ds' : DS) (Q : VK), RS X.K O σ H ds fp → f2 ds = some (d, ds') → (∀ v H' fp' p, RS X.K (OO O p) σ H' ds' fp' → R X.K H' (MM (OO O p) fp') v d p → (∀ a ∈ p, ¬ O a) → Step H H' fp fp' p → Q v H') → tb σ H Q)
    (sc : ∀ (O : ASet) (σ : St) (H : Hp) (ds : DS) (fp : Nat → List Addr) (d : D) (ds' : DS) (Q : VK), RS X.K O σ H ds fp → f3 ds = some (d, ds') → (∀ v H' fp' p, RS X.K (OO O p) σ H' ds' fp' → R X.K H' (MM (OO O p) fp') v d p → (∀ a ∈ p, ¬ O a) → Step H H' fp fp' p → Q v H') → tc σ H Q)
    (r : RS X.K O σ H ds fp) (e : dChain g g' f1 f2 f3 ds = some (k, ds')) (kk : ∀ H' fp', RS X.K O σ H' ds' fp' → Step H H' fp fp' [] → Q k H') : tTest (tChain r1 r2 ta tb tc) σ H Q := by
  obtain ⟨⟨c1, ds1⟩, e1, e⟩ := Option.bind_eq_some_iff.mp e
  obtain ⟨⟨c2, ds2⟩, e2, e⟩ := Option.bind_eq_some_iff.mp e
  obtain ⟨t, e3, e⟩ := Option.bind_eq_some_iff.mp e
  refine sa O σ H ds fp c1 ds1 _ r e1 fun v H1 fp1 p r1 rv n1 s1 => ?_
  refine sb (OO O p) σ H1 ds1 fp1 c2 ds2 _ r1 e2 fun u H2 fp2 q r2 ru n2 s2 => ?_
  rw [OO_OO] at r2 ru
  have cv := r1.carry (O' := OO O (p ++ q)) s2 (q := p) (fun a z => .inr z) (fun a z => z.elim (fun z => .inl (.inl z)) fun z => (List.mem_append.mp z).imp .inr id) (fun a z => z.elim .inl fun z => .inr (List.mem_append_left _ z))
  have st : Step H H2 fp fp2 (p ++ q) := (s1.trans s2 fun a z i w => r1.off i a w (.inr z)).less fun a z => List.mem_append.mpr (List.mem_append.mp z).symm
  have npq : ∀ a ∈ p ++ q, ¬ O a := fun a z => (List.mem_append.mp z).elim (n1 a) fun z w => n2 a z (.inl w)
  refine so _ _ _ _ _ _ _ _ _ _ r2.tr (rv.carry cv) ru e3 fun w H3 z kp hz rw' => ?_
  simp only at e
  split at e
  · obtain ⟨⟨c3, ds3⟩, e4, e⟩ := Option.bind_eq_some_iff.mp e
    obtain ⟨t2, e5, e⟩ := Option.bind_eq_some_iff.mp e
    simp only at e
    split at e
    · cases e
      cases rw'
      refine ⟨true, rfl, iteT ?_⟩
      -- the middle value is carried over the new heap and the last operand
      have r3 : RS X.K (OO O q) σ H3 ds2 fp2 := (r2.more kp (O' := OO O (p ++ q)) fun a z => .inl z).outer fun a z => z.imp id fun z => List.mem_append_right _ z
      have ru3 : R X.K H3 (MM (OO O q) fp2) u c2 q := (ru.more kp (M' := MM (OO O (p ++ q)) fp2) (fun a z => .inl z) (fun a z => .inl (.inr (List.mem_append_right _ z)))).fewer (fun a z => z.imp (fun z => z.imp id fun z => List.mem_append_right _ z) id) (fun a z => .inl (.inr z))
      have st3 : Step H H3 fp fp2 q := by
        have := st.grow kp hz
        exact ⟨this.keep, fun a z => z.elim (fun z => st.org a (.inl z)) fun z => st.org a (.inr (List.mem_append_right _ z))⟩
      refine sc (OO O q) σ H3 ds2 fp2 c3 _ _ r3 e4 fun y H4 fp4 l r4 ry n4 s4 => ?_
      rw [OO_OO] at r4 ry
      have cv2 := r3.carry (O' := OO O (q ++ l)) s4 (q := q) (fun a z => .inr z) (fun a z => z.elim (fun z => .inl (.inl z)) fun z => (List.mem_append.mp z).imp .inr id) (fun a z => z.elim .inl fun z => .inr (List.mem_append_left _ z))
      refine so' _ _ _ _ _ _ _ _ _ _ r4.tr (ru3.carry cv2) ry e5 fun w2 H5 z2 kp2 hz2 rw2 => ?_
      cases rw2
      refine ⟨_, rfl, kk H5 fp4 (r4.more kp2 fun a z => .inl (.inl z)) ?_⟩
      have s5 : Step H H4 fp fp4 (l ++ q) := st3.trans s4 fun a z i w => r3.off i a w (.inr z)
      exact (s5.grow kp2 hz2).less fun _ z => nomatch z
    · cases e
  · cases e
    cases rw'
    exact ⟨false, rfl, iteF ⟨false, rfl, kk H3 fp2 (r2.more kp fun a z => .inl (.inl z)) ((st.grow kp hz).less fun _ z => nomatch z)⟩⟩
  · cases e
theorem t_chain {op op' : CmpOp} {g g' : D → D → Option D} {f1 f2 f3 : DS → Option (D × DS)} (ho : OpD X (compareOp op) g) (ho' : OpD X (compareOp op') g') (ha : PEd X a f1) (hb : PEd X b f2) (hc : PEd X c f3) (hm : lastMarks [op, op'] [b, c] = false := by with_unfolding_all rfl) :
    PTd X (.Compare a [op, op'] [b, c] pos) (dChain g g' f1 f2 f3) := by
  obtain ⟨r1, h1, so⟩ := ho
  obtain ⟨r2, h2, so'⟩ := ho'
  obtain ⟨ta, ha, sa⟩ := ha
  obtain ⟨tb, hb, sb⟩ := hb
  obtain ⟨tc, hc, sc⟩ := hc
  exact ⟨_, pt_chain h1 h2 ha hb hc hm, fun O σ H ds fp k ds' Q r e kk => chain_rd so so' sa sb sc r e kk⟩

/-! ### a name op= e, ints -/
def dAug (i : Nat) (g : Int → Int → Int) (f : DS → Option (D × DS)) : DS → Option (Fl × DS) := fun ds => match dNm i ds with
  | some (.int m) => (f ds).bind fun r => match r.1 with
    | .int n => some (.nx, r.2.set i (some (.int (g m n))))
    | _ => none
  | _ => none
theorem d_aug (i : Nat) {op : Operator} {g : Int → Int → Int} {f : DS → Option (D × DS)} {px : Pos} (hN : X.N.Nodup) (ho : PIp X op (ipI g)) (he : PEd X e f) (hi : X.N[i]? = some x := by rfl) (hx : Loc X.env.scope x := by first | exact Or.inl rfl | exact Or.inr rfl) (hf : X.fn x = true ∨ X.env.scope.names.lookup x = some .local := by first | exact .inl rfl | exact .inr rfl) :
    PSd X Wx (.AugAssign (.Name x px) op e pos) (dAug i g f) [i] := by
  obtain ⟨t, ht, s⟩ := he
  refine ⟨_, ps_aug hN hi hx ht ho hf, fun O σ H ds fp fl ds' Dn r ef k => ?_⟩
  unfold dAug at ef
  split at ef
  · rename_i m h0
    obtain ⟨⟨d, ds1⟩, e1, ef⟩ := Option.bind_eq_some_iff.mp ef
    simp only at ef
    split at ef
    · rename_i n
      cases ef
      obtain ⟨v, g1, g2⟩ := r.sl i _ (dNm_some.mp h0)
      generalize fp i = q at g2
      cases g2
      refine ⟨_, g1, s O σ H ds fp _ ds1 _ r e1 fun v H1 fp1 p r1 rv n1 s1 => ?_⟩
      cases rv
      have hl : i < ds1.length := by
        rw [← r1.len]; exact (List.getElem?_eq_some_iff.mp g1).1
      have r2 := r1.drop
      have r3 : RS X.K (OO O []) σ H1 ds1 fp1 := by rw [OO_nil]; exact r2
      exact ⟨m, n, rfl, rfl, k _ H1 _ (r3.put (.int _) (fun _ z => nomatch z) hl) ((s1.less (y := []) fun _ z => nomatch z).put SlStep.put) fun j hj => by rw [List.getElem?_set_ne (fun z => hj (List.mem_singleton.mpr z.symm))]⟩
    · cases ef
  · cases ef
/-! ### a, b = x, y -/
def dPar (i j : Nat) (f g : DS → Option (D × DS)) : DS → Option (Fl × DS) := fun ds => (f ds).bind fun r => (g r.2).bind fun q => if i < q.2.length ∧ j < q.2.length then some (.nx, (q.2.set i (some r.1)).set j (some q.1)) else none
theorem d_par (i j : Nat) {y : Str} {f g : DS → Option (D × DS)} {px py pt pt2 : Pos} {kt k2} (hN : X.N.Nodup) (ha : PEd X a f) (hb : PEd X b g) (hi : X.N[i]? = some x := by rfl) (hj : X.N[j]? = some y := by rfl) (hij : i ≠ j := by decide) (hx : X.env.scope.names.lookup x = some .local := by rfl) (hy : X.env.scope.names.lookup y = some .local := by rfl)
    (hc : X.calm = true := by rfl) (hs : starEach [a, b] X.env = (false, eval a X.env) :: starEach [b] X.env := by rfl) (hs2 : starEach [b] X.env = (false, eval b X.env) :: starEach [] X.env := by rfl)
    (hP : ∀ t : TA, PA X [a, b] t → PS X (.Assign [.Tuple [.Name x px, .Name y py] kt pt] (.Tuple [a, b] k2 pt2) pos) (tPar i j t)) :
    PSd X Wx (.Assign [.Tuple [.Name x px, .Name y py] kt pt] (.Tuple [a, b] k2 pt2) pos) (dPar i j f g) [i, j] := by
  obtain ⟨ta, ha, sa⟩ := ha
  obtain ⟨tb, hb, sb⟩ := hb
  refine ⟨_, hP _ (pa_cons ha (pa_cons hb pa_nil hs2) hs), fun O σ H ds fp fl ds' Dn r ef k => ?_⟩
  obtain ⟨⟨c, ds1⟩, e1, ef⟩ := Option.bind_eq_some_iff.mp ef
  obtain ⟨⟨d, ds2⟩, e2, ef⟩ := Option.bind_eq_some_iff.mp ef
  simp only at ef
  split at ef
  · rename_i hl
    cases ef
    refine sa O σ H ds fp c ds1 _ r e1 fun v H1 fp1 p r1 rv n1 s1 => ?_
    refine sb (OO O p) σ H1 ds1 fp1 d ds2 _ r1 e2 fun u H2 fp2 q r2 ru n2 s2 => ?_
    refine ⟨v, u, rfl, ?_⟩
    have cv := r1.carry (O' := OO (OO O p) q) s2 (q := p) (fun a z => .inr z) (fun a z => z) (fun a z => .inl z)
    have rv2 := rv.carry cv
    have st : Step H H2 fp fp2 (p ++ q) := (s1.trans s2 fun a z i w => r1.off i a w (.inr z)).less fun a z => List.mem_append.mpr (List.mem_append.mp z).symm
    have r3 : RS X.K (OO (OO O q) p) σ H2 ds2 fp2 := r2.iff fun a => by
      constructor
      · rintro ((z | z) | z)
        · exact .inl (.inl z)
        · exact .inr z
        · exact .inl (.inr z)
      · rintro ((z | z) | z)
        · exact .inl (.inl z)
        · exact .inr z
        · exact .inl (.inr z)
    have sw : ∀ a, MM (OO (OO O p) q) fp2 a ↔ MM (OO (OO O q) p) fp2 a := fun a => by
      constructor
      · rintro (((z | z) | z) | z)
        · exact .inl (.inl (.inl z))
        · exact .inl (.inr z)
        · exact .inl (.inl (.inr z))
        · exact .inr z
      · rintro (((z | z) | z) | z)
        · exact .inl (.inl (.inl z))
        · exact .inl (.inr z)
        · exact .inl (.inl (.inr z))
        · exact .inr z
    have r4 := r3.put (i := i) (rv2.iff sw) (fun a z w => by
      rcases w with w | w
      · exact n1 a z w
      · exact n2 a w (.inr z)) hl.1
    have r5 := r4.put (i := j) (v := u) (d := d) (ru.fewer (fun a z => by
      rcases z with (z | z) | ⟨l, z⟩
      · exact .inl (.inl (.inl z))
      · exact .inl (.inr z)
      · rcases upF_mem z with ⟨_, z⟩ | ⟨_, z⟩
        · exact .inl (.inl (.inr z))
        · exact .inr ⟨l, z⟩) fun a z => .inl (.inr z)) (fun a z w => n2 a z (.inl w)) (by rw [List.length_set]; exact hl.2)
    refine k _ H2 _ r5 ⟨st.keep, fun a z => ?_⟩ fun l hl' => ?_
    · rcases z with ⟨l, z⟩ | z
      · rcases upF_mem z with ⟨_, z⟩ | ⟨_, z⟩
        · exact st.org a (.inr (List.mem_append_right _ z))
        · rcases upF_mem z with ⟨_, z⟩ | ⟨_, z⟩
          · exact st.org a (.inr (List.mem_append_left _ z))
          · exact st.org a (.inl ⟨l, z⟩)
      · exact nomatch z
    · simp only [List.mem_cons, List.not_mem_nil, or_false, not_or] at hl'
      rw [List.getElem?_set_ne (Ne.symm hl'.2), List.getElem?_set_ne (Ne.symm hl'.1)]
  · cases ef
/-- a module's constant -/
theorem e_gl {i : Int} {t : Tok} (hm : X.mg x = some (.int i t)) (hg : Gl X x := by rfl) (hd : (x == ("__debug__" : Str)) = false := by decide) : PEd X (.Name x pos) (dK (.int i)) := by
  refine ⟨_, pe_glob hg hm (v := .int i) ⟨_, rfl⟩ hd, fun O σ H ds fp d ds' Q r e k => ?_⟩
  cases e
  exact k _ H fp [] (by rw [OO_nil]; exact r) (.int i) (fun _ z => nomatch z) Step.refl

/-! ### lists of ints, of bools, of texts -/
def intsD : List D → Option (List Int)
  | [] => some []
  | .int i :: r => (intsD r).map (i :: ·)
  | _ => none
def boolsD : List D → Option (List Bool)
  | [] => some []
  | .bl i :: r => (boolsD r).map (i :: ·)
  | _ => none
def strsD : List D → Option (List Str)
  | [] => some []
  | .str i :: r => (strsD r).map (i :: ·)
  | _ => none
theorem intsD_map (l : List Int) : intsD (l.map .int) = some l := by
  induction l with
  | nil => rfl
  | cons a l ih => simp [intsD, ih]
theorem boolsD_map (l : List Bool) : boolsD (l.map .bl) = some l := by
  induction l with
  | nil => rfl
  | cons a l ih => simp [boolsD, ih]
theorem strsD_map (l : List Str) : strsD (l.map .str) = some l := by
  induction l with
  | nil => rfl
  | cons a l ih => simp [strsD, ih]
theorem RL.ints {K : PySem.W.Frag} {H : Hp} {M : ASet} : ∀ {vs : List V} {ds : List D} {p : List Addr} {l : List Int}, RL K H M vs ds p → intsD ds = some l → vs = l.map V.int
  | _, _, _, l, .nil, h => by simp only [intsD, Option.some.injEq] at h; subst h; rfl
  | _, _, _, l, .cons (d := d) a t _, h => by
    cases a <;> simp only [intsD, reduceCtorEq] at h
    obtain ⟨r, h1, rfl⟩ := Option.map_eq_some_iff.mp h
    rw [RL.ints t h1]; rfl
theorem RL.bools {K : PySem.W.Frag} {H : Hp} {M : ASet} : ∀ {vs : List V} {ds : List D} {p : List Addr} {l : List Bool}, RL K H M vs ds p → boolsD ds = some l → vs = l.map V.bl
  | _, _, _, l, .nil, h => by simp only [boolsD, Option.some.injEq] at h; subst h; rfl
  | _, _, _, l, .cons (d := d) a t _, h => by
    cases a <;> simp only [boolsD, reduceCtorEq] at h
    obtain ⟨r, h1, rfl⟩ := Option.map_eq_some_iff.mp h
    rw [RL.bools t h1]; rfl
theorem RL.strs {K : PySem.W.Frag} {H : Hp} {M : ASet} : ∀ {vs : List V} {ds : List D} {p : List Addr} {l : List Str}, RL K H M vs ds p → strsD ds = some l → vs = l.map V.str
  | _, _, _, l, .nil, h => by simp only [strsD, Option.some.injEq] at h; subst h; rfl
  | _, _, _, l, .cons (d := d) a t _, h => by
    cases a <;> simp only [strsD, reduceCtorEq] at h
    obtain ⟨r, h1, rfl⟩ := Option.map_eq_some_iff.mp h
    rw [RL.strs t h1]; rfl
theorem RL.ofInts {K : PySem.W.Frag} {H : Hp} {M : ASet} : ∀ (l : List Int), RL K H M (l.map V.int) (l.map .int) []
  | [] => .nil
  | i :: l => RL.cons0 (.int i) (RL.ofInts l)
theorem RL.ofStrs {K : PySem.W.Frag} {H : Hp} {M : ASet} : ∀ (l : List Str), RL K H M (l.map V.str) (l.map .str) []
  | [] => .nil
  | i :: l => RL.cons0 (.str i) (RL.ofStrs l)
theorem shL_ints (l : List Int) : shL (l.map .int) = true := shL_all.mpr fun x h => by
  obtain ⟨i, _, rfl⟩ := List.mem_map.mp h; rfl
theorem shL_strs (l : List Str) : shL (l.map .str) = true := shL_all.mpr fun x h => by
  obtain ⟨i, _, rfl⟩ := List.mem_map.mp h; rfl
def fSum : List D → Option D
  | [.lst _ xs] => (intsD xs).map fun l => .int l.sum
  | _ => none
theorem c_sum (hc : X.calm = true := by rfl) : CallD X (.builtin "sum") fSum := by
  refine ⟨_, cr_sum hc, fun M H vs ds e Q hM rb h k => ?_⟩
  unfold fSum at h
  split at h
  · obtain ⟨l, e1, rfl⟩ := Option.map_eq_some_iff.mp h
    obtain ⟨v, p, rfl, r⟩ := RB.one rb
    obtain ⟨a, ws, _, rfl, sa, ra, _⟩ := r.lstS
    exact ⟨a, l, rfl, .inl (.inl (by rw [← ra.ints e1]; exact sa)), k.int⟩
  · cases h
def fAll : List D → Option D
  | [.lst _ xs] => (boolsD xs).map fun l => .bl (l.all id)
  | _ => none
theorem c_all (hc : X.calm = true := by rfl) : CallD X (.builtin "all") fAll := by
  refine ⟨_, cr_all hc, fun M H vs ds e Q hM rb h k => ?_⟩
  unfold fAll at h
  split at h
  · obtain ⟨l, e1, rfl⟩ := Option.map_eq_some_iff.mp h
    obtain ⟨v, p, rfl, r⟩ := RB.one rb
    obtain ⟨a, ws, _, rfl, sa, ra, _⟩ := r.lstS
    exact ⟨a, l, rfl, .inl (.inl (by rw [← ra.bools e1]; exact sa)), k.bl⟩
  · cases h
def fAny : List D → Option D
  | [.lst _ xs] => (boolsD xs).map fun l => .bl (l.any id)
  | _ => none
theorem c_any (hc : X.calm = true := by rfl) : CallD X (.builtin "any") fAny := by
  refine ⟨_, cr_any hc, fun M H vs ds e Q hM rb h k => ?_⟩
  unfold fAny at h
  split at h
  · obtain ⟨l, e1, rfl⟩ := Option.map_eq_some_iff.mp h
    obtain ⟨v, p, rfl, r⟩ := RB.one rb
    obtain ⟨a, ws, _, rfl, sa, ra, _⟩ := r.lstS
    exact ⟨a, l, rfl, .inl (.inl (by rw [← ra.bools e1]; exact sa)), k.bl⟩
  · cases h
/-! ### texts -/
theorem listS_str {K : PySem.W.Frag} {M : ASet} {H : Hp} {Q : VK} {l : List Str} (hM : ∀ a, M a → H a ≠ none) (k : GiveV K M H (.lst true (l.map .str)) Q) : rNewStrs l H Q := fun p hp => k.lst hM (RL.ofStrs l) (shL_strs l) p hp
/-- a text's method of one argument, by values -/
def MtD (X : Cx) (r : V → List V → Hp → VK → Prop) (F : D → D → Option D) : Prop := ∀ (M : ASet) (H : Hp) (x y : V) (c d e : D) (p q : List Addr) (Q : VK), (∀ a, M a → H a ≠ none) → R X.K H M x c p → R X.K H M y d q → F c d = some e → GiveV X.K M H e Q → (∃ z, x = .str z) ∧ r x [y] H Q
theorem p2_tm1 {r : V → List V → Hp → VK → Prop} {F : D → D → Option D} {f : DS → Option (D × D × DS)} (hF : MtD X r F) (hS : ∀ c d e, F c d = some e → ∃ z, c = .str z) (h : P2d X a b f) : ∃ ta tb, PE X a ta ∧ PE X b tb ∧ ∀ (O : ASet) (σ : St) (H : Hp) (ds : DS) (fp : Nat → List Addr) (d : D) (ds' : DS) (Q : VK), RS X.K O σ H ds fp → dOp F f ds = some (d, ds') →
    (∀ v H' fp' p, RS X.K (OO O p) σ H' ds' fp' → R X.K H' (MM (OO O p) fp') v d p → (∀ a ∈ p, ¬ O a) → Step H H' fp fp' p → Q v H') → ta σ H fun x H1 => tb σ H1 fun y H2 => (∃ z, x = .str z) ∧ r x [y] H2 Q := by
  obtain ⟨ta, tb, ha, hb, s⟩ := h
  refine ⟨ta, tb, ha, hb, fun O σ H ds fp d ds' Q rs e k => ?_⟩
  obtain ⟨x, y, e1, e2⟩ := dOp_some e
  exact s O σ H ds fp x y ds' _ rs e1 fun v u H' fp' p q z r' rv ru nz st => hF _ _ _ _ _ _ _ _ _ _ r'.tr rv ru e2 (fin_op r' st k)
/-- sep.join(xs), the separator written -/
def dJoin (sep : Str) (f : DS → Option (D × DS)) : DS → Option (D × DS) := fun ds => (f ds).bind fun r => match r.1 with
  | .lst _ xs => (strsD xs).bind fun ys => if (ys.map (·.length)).sum + ys.length * sep.length ≤ 16777216 then some (.str (Txt.join sep ys), r.2) else none
  | _ => none
theorem e_join {sep : Str} {j : Nat} {sp : Pos} {f : DS → Option (D × DS)} (he : PEo X e f) (hs : starEach [e] X.env = [(false, eval e X.env)] := by rfl) (hbase : attributeBase (.Constant (.str sep) j sp) "join" X.env (eval (.Constant (.str sep) j sp) X.env) = eval (.Constant (.str sep) j sp) X.env := by rfl) (hline : (apos.endLine == pos.line) = true := by rfl) :
    PEd X (.Call (.Attribute (.Constant (.str sep) j sp) "join" apos) [e] [] pos) (dJoin sep f) := by
  obtain ⟨t, ht, s⟩ := he
  refine ⟨_, pe_join pe_str ht hs hbase hline, fun O σ H ds fp d ds' Q r ef k => ?_⟩
  obtain ⟨⟨c, ds1⟩, e1, ef⟩ := Option.bind_eq_some_iff.mp ef
  simp only at ef
  split at ef
  · obtain ⟨ys, e2, ef⟩ := Option.bind_eq_some_iff.mp ef
    split at ef
    · rename_i hz
      cases ef
      refine ⟨⟨sep, rfl⟩, s O σ H ds fp _ _ _ r e1 fun v H1 fp1 p x r1 rv n1 s1 => ?_⟩
      obtain ⟨a, ws, _, rfl, sa, ra, _⟩ := rv.lstS
      exact ⟨sep, a, ys, rfl, rfl, .inl (.inl (.inl (by rw [← ra.strs e2]; exact sa))), hz, (fin_op r1 s1 k).str⟩
    · cases ef
  · cases ef
/-- x.split(sep), the separator written -/
def dSplit (sep : Str) (f : DS → Option (D × DS)) : DS → Option (D × DS) := fun ds => (f ds).bind fun r => match r.1 with
  | .str z => if (sep.length == 0) = false ∧ z.length + 2 ≤ sizeLine then some (.lst true ((Txt.split z sep).map .str), r.2) else none
  | _ => none
theorem e_split {sep : Str} {j : Nat} {sp : Pos} {f : DS → Option (D × DS)} (ho : PEd X a f) (hs : starEach [.Constant (.str sep) j sp] X.env = [(false, eval (.Constant (.str sep) j sp) X.env)] := by rfl) (hbase : attributeBase a "split" X.env (eval a X.env) = eval a X.env := by rfl) (hline : (apos.endLine == pos.line) = true := by rfl) :
    PEd X (.Call (.Attribute a "split" apos) [.Constant (.str sep) j sp] [] pos) (dSplit sep f) := by
  obtain ⟨t, ht, s⟩ := ho
  refine ⟨_, pe_split ht pe_str hs hbase hline, fun O σ H ds fp d ds' Q r ef k => ?_⟩
  obtain ⟨⟨c, ds1⟩, e1, ef⟩ := Option.bind_eq_some_iff.mp ef
  simp only at ef
  split at ef
  · split at ef
    · rename_i z hz
      cases ef
      refine s O σ H ds fp _ _ _ r e1 fun v H1 fp1 p r1 rv n1 s1 => ?_
      cases rv
      exact ⟨⟨z, rfl⟩, z, sep, rfl, rfl, hz.1, hz.2, listS_str r1.tr (fin_op r1 s1 k)⟩
    · cases ef
  · cases ef
theorem okEL_all {n : Nat} : ∀ {xs : List D}, okEL n xs = true → ∀ z ∈ xs, okE n z = true
  | [], _, z, w => nomatch w
  | x :: xs, h, z, w => by
    simp only [okEL, Bool.and_eq_true] at h
    rcases List.mem_cons.mp w with w | w
    · rw [w]; exact h.1
    · exact okEL_all h.2 z w
/-- xs.index(y): it is there -/
def dIndex (f g : DS → Option D) : DS → Option (D × DS) := fun ds => (f ds).bind fun c => (g ds).bind fun d => match c with
  | .lst _ xs => if okE 60 d && okEL 60 xs then (xs.findIdx? fun z => eqvD z d).map fun j => (.int (j : Nat), ds) else none
  | _ => none
theorem e_index {f g : DS → Option D} (hu : X.A.units + 65 < cLine) (ha : PEb X a f) (he : PEb X e g) (hbase : attributeBase a "index" X.env (eval a X.env) = eval a X.env := by rfl)
    (hfew : ((backTo pos (starEach [e] X.env)).all (fun x => !x.1) && (backToKw pos (keywordEach [] X.env)).all (fun x => x.1.isSome) && decide ([e].length + ([] : List Keyword).length + (if ([] : List Keyword).isEmpty then 0 else 1) < 30)) = true := by rfl)
    (hline : (apos.endLine == pos.line) = true := by rfl) (hs : starEach [e] X.env = (false, eval e X.env) :: starEach [] X.env := by rfl) (hplain : (backTo pos (starEach [] X.env)).any (·.1) = false := by rfl) :
    PEd X (.Call (.Attribute a "index" apos) [e] [] pos) (dIndex f g) := by
  obtain ⟨t, ht, s⟩ := ha
  obtain ⟨u, hu', su⟩ := he
  refine ⟨_, pe_bm PySem.F.plainAttrs_list PySem.F.slot_list_index PySem.F.type_list_index (mt_indexD hu) ht (pa_cons hu' pa_nil hs) hbase hfew hline hs hplain, fun O σ H ds fp d ds' Q r ef k => ?_⟩
  obtain ⟨c, e1, ef⟩ := Option.bind_eq_some_iff.mp ef
  obtain ⟨y, e2, ef⟩ := Option.bind_eq_some_iff.mp ef
  split at ef
  · rename_i m xs _
    split at ef
    · rename_i hz
      simp only [Bool.and_eq_true] at hz
      obtain ⟨j, e3, ef⟩ := Option.map_eq_some_iff.mp ef
      cases ef
      refine s O σ H ds fp _ _ r e1 fun v p rv => ?_
      obtain ⟨a', ws, _, rfl, sa, ra, _⟩ := rv.lstS
      refine ⟨.inl ⟨rfl, _, .inl (.inl sa)⟩, su O σ H ds fp y _ r e2 fun w q rw => ?_⟩
      have h2 : okE 61 (.lst m xs) = true := okEL_lst hz.2
      have dp := rv.dp 61 h2
      have sh := okE_shaped h2 (by decide)
      simp only [toP] at dp sh
      obtain ⟨hj, hj2, hj3⟩ := List.findIdx?_eq_some_iff_getElem.mp e3
      have ok := okEL_all hz.2
      refine ⟨a', w, toP y, toPL xs, j, toP xs[j], rfl, rfl, dp, rw.dp 60 hz.1, sh, okE_shaped hz.1 (by decide), ?_, ?_, ?_, ?_⟩
      · rw [toPL_map, List.getElem?_map, List.getElem?_eq_getElem hj]; rfl
      · rw [eqvD_eq 60 60 _ y (ok _ (List.getElem_mem hj)) hz.1]; exact hj2
      · intro l z' hl ez
        rw [toPL_map, List.getElem?_map, List.getElem?_eq_getElem (by omega)] at ez
        cases ez
        rw [eqvD_eq 60 60 _ y (ok _ (List.getElem_mem _)) hz.1]
        simpa using hj3 l hl
      · exact k _ H fp [] (by rw [OO_nil]; exact r) (.int _) (fun _ z => nomatch z) Step.refl
    · cases ef
  · cases ef
end
end DL

/-! DLe: dicts; isinstance. -/
namespace DL
open PySem PySem.Spec L2

/-! ### keys -/
theorem eqv_kD (a b : Key) : eqvD (kD a) (kD b) = decide (a = b) := by
  cases a with
  | inl i =>
    cases b with
    | inl j => simp only [kD, eqvD]; rw [key_ll]
    | inr y => simp only [kD, eqvD]; rw [key_lr]
  | inr x =>
    cases b with
    | inl j => simp only [kD, eqvD]; rw [key_rl]
    | inr y =>
      simp only [kD, eqvD]; rw [key_rr]
      by_cases h : x = y
      · subst h; simp
      · rw [decide_eq_false h]; exact beq_eq_false_iff_ne.mpr h
theorem eqvL_kD : ∀ (a b : List Key), eqvDL (a.map kD) (b.map kD) = decide (a = b)
  | [], [] => by simp [eqvDL]
  | [], _ :: _ => by simp [eqvDL]
  | _ :: _, [] => by simp [eqvDL]
  | x :: xs, y :: ys => by
    simp only [List.map_cons, eqvDL, eqv_kD, eqvL_kD xs ys]
    by_cases h : x = y
    · subst h; simp
    · simp [h]
theorem eqvT_kD (a b : List Key) : eqvD (.tup (a.map kD)) (.tup (b.map kD)) = decide (a = b) := by rw [eqvD, eqvL_kD]
def isK : D → Bool
  | .int _ => true
  | .str _ => true
  | _ => false
/-- a key of a dict of this kind -/
def keyOk : KK → D → Bool
  | .flat, d => isK d
  | .tup, .tup xs => xs.all isK
  | _, _ => false
def dLook : List D → List D → D → Option D
  | k :: ks, v :: vs, x => if eqvD k x then some v else dLook ks vs x
  | _, _, _ => none
def dPut (ks vs : List D) (x y : D) : List D × List D :=
  if ks.any fun k => eqvD k x then (ks, List.zipWith (fun k v => if eqvD k x then y else v) ks vs) else (ks ++ [x], vs ++ [y])
section
variable {K : PySem.W.Frag} {H : Hp} {M : ASet}
theorem key_flat {v : V} {d : D} {p : List Addr} (r : R K H M v d p) (h : isK d = true) : ∃ k : Key, d = kD k ∧ v = kV k := by
  cases r <;> simp [isK] at h
  · exact ⟨.inl _, rfl, rfl⟩
  · exact ⟨.inr _, rfl, rfl⟩
theorem keys_flat : ∀ {vs : List V} {ds : List D} {p : List Addr}, RL K H M vs ds p → ds.all isK = true → ∃ ks : List Key, ds = ks.map kD ∧ vs = ks.map kV
  | _, _, _, .nil, _ => ⟨[], rfl, rfl⟩
  | _, _, _, .cons a t _, h => by
    simp only [List.all_cons, Bool.and_eq_true] at h
    obtain ⟨k, rfl, rfl⟩ := key_flat a h.1
    obtain ⟨ks, rfl, rfl⟩ := keys_flat t h.2
    exact ⟨k :: ks, rfl, rfl⟩
theorem key_tup {v : V} {d : D} {p : List Addr} (r : R K H M v d p) (h : keyOk .tup d = true) : ∃ (b : Addr) (k : List Key), v = .ref b ∧ d = .tup (k.map kD) ∧ H b = some (.tup (k.map kV)) := by
  cases r <;> simp only [keyOk, reduceCtorEq, Bool.false_eq_true] at h
  rename_i eb _ rb
  obtain ⟨k, rfl, rfl⟩ := keys_flat rb h
  exact ⟨_, k, rfl, rfl, eb⟩
/-- looking up -/
theorem look_of {κ : Type} [DecidableEq κ] (g : κ → D) (hg : ∀ a b, eqvD (g a) (g b) = decide (a = b)) (k : κ) : ∀ {kvs : List (κ × V)} {ds : List D}, RL K H M (kvs.map (·.2)) ds [] →
    match dLook (kvs.map fun q => g q.1) ds (g k) with
    | some d => ∃ v, valV kvs k = some v ∧ R K H M v d []
    | none => valV kvs k = none := by
  intro kvs
  induction kvs with
  | nil => intro ds r; cases ds <;> simp [dLook, valV_nil]
  | cons q kvs ih =>
    intro ds r
    generalize hp : ([] : List Addr) = p at r
    cases r with
    | cons a t n =>
      rename_i d p1 ds p2
      have hp := hp.symm
      obtain ⟨rfl, rfl⟩ := List.append_eq_nil_iff.mp hp
      simp only [List.map_cons, dLook, hg]
      by_cases e : q.1 = k
      · rw [decide_eq_true e]
        simp only [if_true]
        exact ⟨q.2, valV_pos e, a⟩
      · rw [decide_eq_false e]
        simp only [Bool.false_eq_true, if_false]
        have := ih t
        rw [valV_neg e]
        exact this
theorem any_of {κ : Type} [DecidableEq κ] (g : κ → D) (hg : ∀ a b, eqvD (g a) (g b) = decide (a = b)) (k : κ) : ∀ (kvs : List (κ × V)), (kvs.map fun q => g q.1).any (fun x => eqvD x (g k)) = kvs.any fun q => decide (q.1 = k)
  | [] => rfl
  | q :: kvs => by simp only [List.map_cons, List.any_cons, hg, any_of g hg k kvs]
theorem put_zip {κ : Type} [DecidableEq κ] (g : κ → D) (hg : ∀ a b, eqvD (g a) (g b) = decide (a = b)) (k : κ) {v : V} {d : D} (rv : R K H M v d []) : ∀ {kvs : List (κ × V)} {ds : List D}, RL K H M (kvs.map (·.2)) ds [] →
    RL K H M ((kvs.map fun q => if q.1 = k then (q.1, v) else q).map (·.2)) (List.zipWith (fun x y => if eqvD x (g k) then d else y) (kvs.map fun q => g q.1) ds) [] := by
  intro kvs
  induction kvs with
  | nil => intro ds r; cases ds <;> exact .nil
  | cons q kvs ih =>
    intro ds r
    generalize hp : ([] : List Addr) = p at r
    cases r with
    | cons a t n =>
      rename_i d' p1 ds p2
      have hp := hp.symm
      obtain ⟨rfl, rfl⟩ := List.append_eq_nil_iff.mp hp
      simp only [List.map_cons, List.zipWith_cons_cons, hg]
      refine RL.cons0 ?_ (ih t)
      by_cases e : q.1 = k
      · rw [decide_eq_true e, if_pos e]; exact rv
      · rw [decide_eq_false e, if_neg e]; exact a
theorem put_of {κ : Type} [DecidableEq κ] (g : κ → D) (hg : ∀ a b, eqvD (g a) (g b) = decide (a = b)) (k : κ) {v : V} {d : D} (rv : R K H M v d []) {kvs : List (κ × V)} {ds : List D} (r : RL K H M (kvs.map (·.2)) ds []) :
    (dPut (kvs.map fun q => g q.1) ds (g k) d).1 = (putK kvs k v).map (fun q => g q.1) ∧ RL K H M ((putK kvs k v).map (·.2)) (dPut (kvs.map fun q => g q.1) ds (g k) d).2 [] := by
  unfold dPut putK
  rw [any_of g hg k kvs]
  by_cases h : (kvs.any fun q => decide (q.1 = k)) = true
  · rw [if_pos h, if_pos h]
    refine ⟨?_, put_zip g hg k rv r⟩
    rw [List.map_map]
    refine List.map_congr_left fun q _ => ?_
    show g q.1 = g (if q.1 = k then (q.1, v) else q).1
    split <;> rfl
  · rw [if_neg h, if_neg h]
    refine ⟨by simp, ?_⟩
    rw [List.map_append]
    have := r.append (RL.cons0 rv .nil) (fun _ z => nomatch z)
    exact this
end
/-- a dict that is read: what stands at a key -/
theorem dict_rd {K : PySem.W.Frag} {H : Hp} {M : ASet} {x y : V} {m : Bool} {kk : KK} {ks vs : List D} {key : D} {p q : List Addr} (rx : R K H M x (.dct m kk ks vs) p) (ry : R K H M y key q) (hk : keyOk kk key = true) (hs : shL vs = true) :
    ∃ a o, x = .ref a ∧ IsD H a ∧ DGet H a y o ∧ match dLook ks vs key with
      | some d => ∃ v, o = some v ∧ R K H M v d []
      | none => o = none := by
  have flat : ∀ {a : Addr} {kvs : List (Key × V)} {ds : List D}, H a = some (.dK kvs) → RL K H M (kvs.map (·.2)) ds [] → isK key = true → ∃ o, DGet H a y o ∧ match dLook (kvs.map fun q => kD q.1) ds key with
      | some d => ∃ v, o = some v ∧ R K H M v d []
      | none => o = none := fun {a kvs ds} e t h => by
    obtain ⟨k, rfl, rfl⟩ := key_flat ry h
    exact ⟨_, .k e, look_of kD eqv_kD k t⟩
  have tup : ∀ {a : Addr} {kvs : List (List Key × V)} {ds : List D}, H a = some (.dT kvs) → RL K H M (kvs.map (·.2)) ds [] → keyOk .tup key = true → ∃ o, DGet H a y o ∧ match dLook (kvs.map fun q => .tup (q.1.map kD)) ds key with
      | some d => ∃ v, o = some v ∧ R K H M v d []
      | none => o = none := fun {a kvs ds} e t h => by
    cases ry <;> simp only [keyOk, reduceCtorEq, Bool.false_eq_true] at h
    rename_i b ws xs eb nb rb
    obtain ⟨k, rfl, rfl⟩ := keys_flat rb h
    exact ⟨_, .t e eb, look_of (fun k => D.tup (k.map kD)) eqvT_kD k t⟩
  cases rx with
  | dKM e _ _ t =>
    have t := t.sh hs
    obtain ⟨o, h1, h2⟩ := flat e t hk
    exact ⟨_, o, rfl, .inl ⟨_, .inl e⟩, h1, h2⟩
  | dKF e _ t =>
    obtain ⟨o, h1, h2⟩ := flat e t hk
    exact ⟨_, o, rfl, .inl ⟨_, .inl e⟩, h1, h2⟩
  | dTM e _ _ t =>
    have t := t.sh hs
    obtain ⟨o, h1, h2⟩ := tup e t hk
    exact ⟨_, o, rfl, .inr ⟨_, .inl e⟩, h1, h2⟩
  | dTF e _ t =>
    obtain ⟨o, h1, h2⟩ := tup e t hk
    exact ⟨_, o, rfl, .inr ⟨_, .inl e⟩, h1, h2⟩
/-- d[k] by values -/
def dGetV : D → D → Option D
  | .dct _ kk ks vs, k => if keyOk kk k && shL vs then dLook ks vs k else none
  | _, _ => none
def dInV : D → D → Option Bool
  | k, .dct _ kk ks vs => if keyOk kk k && shL vs then some (dLook ks vs k).isSome else none
  | _, _ => none
section
variable {X : Cx} {Wx : WXd} {a b c e i o : Expr} {es : List Expr} {pos p apos : Pos} {x : Str}
theorem getV_rd {K : PySem.W.Frag} {H : Hp} {M : ASet} {x y : V} {c d e : D} {p q : List Addr} {Q : VK} (rx : R K H M x c p) (ry : R K H M y d q) (h : dGetV c d = some e) (k : ∀ v, R K H M v e [] → Q v H) : ∃ a v, x = .ref a ∧ DGet H a y (some v) ∧ Q v H := by
  unfold dGetV at h
  split at h
  · split at h
    · rename_i hk
      simp only [Bool.and_eq_true] at hk
      obtain ⟨a, o, rfl, _, g, m⟩ := dict_rd rx ry hk.1 hk.2
      rw [h] at m
      obtain ⟨v, rfl, rv⟩ := m
      exact ⟨a, v, rfl, g, k v rv⟩
    · cases h
  · cases h
def dDget (f : DS → Option (D × D × DS)) : DS → Option (D × DS) := fun ds => (f ds).bind fun r => (dGetV r.1 r.2.1).bind fun d => some (d, r.2.2)
theorem e_dget {f : DS → Option (D × D × DS)} (hu : X.A.units + 64 < cLine) (h : P2d X o i f) (hs : NoSl i := by exact fun _ _ => rfl) : PEd X (.Subscript o i pos) (dDget f) := by
  obtain ⟨ta, tb, ha, hb, s⟩ := h
  refine ⟨_, pe_dget (by omega) ha hb hs, fun O σ H ds fp d ds' Q rs e k => ?_⟩
  obtain ⟨⟨x, y, ds1⟩, e1, e⟩ := Option.bind_eq_some_iff.mp e
  obtain ⟨z, e2, e⟩ := Option.bind_eq_some_iff.mp e
  cases e
  refine s O σ H ds fp x y ds1 _ rs e1 fun v u H' fp' p q t r' rv ru nz st => getV_rd rv ru e2 fun w rw => ?_
  exact k w H' fp' [] (by rw [OO_nil]; exact r'.drop) (by rw [OO_nil]; exact rw.fewer (fun a z => z.imp .inl id) fun _ z => nomatch z) (fun _ z => nomatch z) (st.less fun _ z => nomatch z)
def dDgetb (f g : DS → Option D) : DS → Option D := fun ds => (f ds).bind fun x => (g ds).bind fun y => dGetV x y
theorem b_dget {f g : DS → Option D} (hu : X.A.units + 64 < cLine) (ha : PEb X o f) (hb : PEb X i g) (hs : NoSl i := by exact fun _ _ => rfl) : PEb X (.Subscript o i pos) (dDgetb f g) := by
  obtain ⟨ta, ha, sa⟩ := ha
  obtain ⟨tb, hb, sb⟩ := hb
  refine ⟨_, pe_dget (by omega) ha hb hs, fun O σ H ds fp d Q rs e k => ?_⟩
  obtain ⟨x, e1, e⟩ := Option.bind_eq_some_iff.mp e
  obtain ⟨y, e2, e⟩ := Option.bind_eq_some_iff.mp e
  exact sa O σ H ds fp x _ rs e1 fun v p rv => sb O σ H ds fp y _ rs e2 fun u q ru => getV_rd rv ru e fun w rw => k w [] rw
def dDin (neg : Bool) (f : DS → Option (D × D × DS)) : DS → Option (D × DS) := fun ds => (f ds).bind fun r => (dInV r.1 r.2.1).bind fun b => some (.bl (if neg then !b else b), r.2.2)
theorem inV_rd {K : PySem.W.Frag} {H : Hp} {M : ASet} {x y : V} {c d : D} {b : Bool} {p q : List Addr} (rx : R K H M x c p) (ry : R K H M y d q) (h : dInV c d = some b) : ∃ a o, y = .ref a ∧ DGet H a x o ∧ o.isSome = b := by
  unfold dInV at h
  split at h
  · split at h
    · rename_i hk
      simp only [Bool.and_eq_true] at hk
      obtain ⟨a, o, rfl, _, g, m⟩ := dict_rd ry rx hk.1 hk.2
      cases h
      refine ⟨a, o, rfl, g, ?_⟩
      revert m
      generalize dLook _ _ c = z
      intro m
      cases z with
      | none => rw [show o = none from m]; rfl
      | some d => obtain ⟨v, rfl, _⟩ := m; rfl
    · cases h
  · cases h
theorem e_din {f : DS → Option (D × D × DS)} (hu : X.A.units + 64 < cLine) (h : P2d X i o f) (hm : behindInMarks .In o = false := by first | rfl | with_unfolding_all rfl) : PEd X (.Compare i [.In] [o] pos) (dDin false f) := by
  obtain ⟨ta, tb, ha, hb, s⟩ := h
  refine ⟨_, pe_cmp (pc_din (by omega) ha hb) hm, fun O σ H ds fp d ds' Q rs e k => ?_⟩
  obtain ⟨⟨x, y, ds1⟩, e1, e⟩ := Option.bind_eq_some_iff.mp e
  obtain ⟨z, e2, e⟩ := Option.bind_eq_some_iff.mp e
  cases e
  refine s O σ H ds fp x y ds1 _ rs e1 fun v u H' fp' p q t r' rv ru nz st => ?_
  obtain ⟨a, o, ea, g, eb⟩ := inV_rd rv ru e2
  refine ⟨a, o, ea, g, ?_⟩
  rw [eb]
  exact (fin_op r' st k).bl
theorem e_dnin {f : DS → Option (D × D × DS)} (hu : X.A.units + 64 < cLine) (h : P2d X i o f) (hm : behindInMarks .NotIn o = false := by first | rfl | with_unfolding_all rfl) : PEd X (.Compare i [.NotIn] [o] pos) (dDin true f) := by
  obtain ⟨ta, tb, ha, hb, s⟩ := h
  refine ⟨_, pe_cmp (pc_dnotin (by omega) ha hb) hm, fun O σ H ds fp d ds' Q rs e k => ?_⟩
  obtain ⟨⟨x, y, ds1⟩, e1, e⟩ := Option.bind_eq_some_iff.mp e
  obtain ⟨z, e2, e⟩ := Option.bind_eq_some_iff.mp e
  cases e
  refine s O σ H ds fp x y ds1 _ rs e1 fun v u H' fp' p q t r' rv ru nz st => ?_
  obtain ⟨a, o, ea, g, eb⟩ := inV_rd rv ru e2
  refine ⟨a, o, ea, g, ?_⟩
  rw [eb]
  exact (fin_op r' st k).bl
/-! {} -/
theorem dict_new {O : ASet} {σ : St} {H : Hp} {ds : DS} {fp : Nat → List Addr} {d : D} {ho : HO} {Q : VK} (r : RS X.K O σ H ds fp) (k : ∀ v H' fp' p, RS X.K (OO O p) σ H' ds fp' → R X.K H' (MM (OO O p) fp') v d p → (∀ a ∈ p, ¬ O a) → Step H H' fp fp' p → Q v H')
    {q : Addr} (hq : H q = none) (rv : ∀ M : ASet, M q → R X.K (upd H q ho) M (.ref q) d [q]) : Q (.ref q) (upd H q ho) := by
  refine k _ _ fp [q] (r.more (more_upd hq) fun a z => ?_) (rv _ (.inl (.inr (List.mem_singleton.mpr rfl)))) (fun a z w => ?_) ⟨fun a o e _ => more_upd hq a o e, fun a z => ?_⟩
  · rcases z with z | z
    · exact .inl z
    · rw [List.mem_singleton] at z; subst z; exact .inr ⟨hq, by rw [upd_same]; exact fun w => nomatch w⟩
  · rw [List.mem_singleton] at z; subst z; exact r.tr _ (.inl w) hq
  · rcases z with z | z
    · exact .inl z
    · rw [List.mem_singleton] at z; subst z; exact .inr hq
theorem e_dnewK : PEd X (.Dict [] [] pos) (dK (.dct true .flat [] [])) := by
  refine ⟨_, pe_dnewK, fun O σ H ds fp d ds' Q r e k => ?_⟩
  cases e
  exact fun q hq => dict_new r k hq fun M hm => .dKM (kvs := []) upd_same hm (fun z => nomatch z) .nil
theorem e_dnewT : PEd X (.Dict [] [] pos) (dK (.dct true .tup [] [])) := by
  refine ⟨_, pe_dnewT, fun O σ H ds fp d ds' Q r e k => ?_⟩
  cases e
  exact fun q hq => dict_new r k hq fun M hm => .dTM (kvs := []) upd_same hm (fun z => nomatch z) .nil
/-! x[k] = e -/
def dDput (i : Nat) (f g : DS → Option (D × DS)) : DS → Option (Fl × DS) := fun ds => (f ds).bind fun r => (dNm i r.2).bind fun _ => (g r.2).bind fun q => match dNm i q.2 with
  | some (.dct true kk ks vs) => if keyOk kk q.1 && r.1.sh && shL vs && decide (ks.length < sizeLine) then some (.nx, q.2.set i (some (.dct true kk (dPut ks vs q.1 r.1).1 (dPut ks vs q.1 r.1).2))) else none
  | _ => none
theorem dct_upd {K : PySem.W.Frag} {O : ASet} {σ : St} {H H0 : Hp} {ds : DS} {fp fp0 : Nat → List Addr} {i : Nat} {a : Addr} {v : V} {d d' : D} {ho : HO} (r : RS K O σ H ds fp) (e : ds[i]? = some (some d)) (st : Step H0 H fp0 fp [])
    (hv : σ[i]? = some (some (.ref a))) (hf : fp i = [a]) (new : R K (upd H a ho) (MM O (upF fp i [a])) (.ref a) d' [a]) : ∃ fp2, RS K O σ (upd H a ho) (ds.set i (some d')) fp2 ∧ Step H0 (upd H a ho) fp0 fp2 [] := by
  have hi := (List.getElem?_eq_some_iff.mp e).1
  have kp : ∀ b o, H b = some o → b ∉ fp i → upd H a ho b = some o := fun b o e n => by
    rw [upd_ne fun z => n (by rw [hf, z]; exact List.mem_cons_self ..)]; exact e
  have hq : ∀ c ∈ [a], c ∈ fp i ∨ c ∈ ([] : List Addr) := fun c z => .inl (by rw [hf]; exact z)
  have r' : RS K (OO O []) σ H ds fp := by rw [OO_nil]; exact r
  exact ⟨_, r'.write hi hv kp new hq (fun _ z => nomatch z), st.write kp hq⟩
theorem d_dput (j : Nat) {px spos : Pos} {f g : DS → Option (D × DS)} (hu : X.A.units + 64 < cLine) (he : PEd X e f) (hb : PEd X b g) (hN : X.N[j]? = some x := by rfl) (hv : Vis X.env.scope x := by first | exact Or.inl rfl | exact Or.inr (Or.inl rfl) | exact Or.inr (Or.inr rfl)) (hd : (x == ("__debug__" : Str)) = false := by decide)
    (hcd : (x == ("__classdict__" : Str)) = false := by decide) (hs : swapsWith e (some (.Subscript (.Name x px) b spos)) pos.line X.env = pure false := by rfl) :
    PSd X Wx (.Assign [.Subscript (.Name x px) b spos] e pos) (dDput j f g) [] := by
  obtain ⟨t, ht, s⟩ := he
  obtain ⟨u, hu', su⟩ := hb
  refine ⟨_, ps_dput (by omega) (pe_var hN hv hd hcd) hu' ht hs, fun O σ H ds fp fl ds' Dn r ef k => ?_⟩
  obtain ⟨⟨d, ds1⟩, e1, ef⟩ := Option.bind_eq_some_iff.mp ef
  obtain ⟨d0, e0, ef⟩ := Option.bind_eq_some_iff.mp ef
  obtain ⟨⟨key, ds2⟩, e2, ef⟩ := Option.bind_eq_some_iff.mp ef
  simp only at ef e0 e2
  split at ef
  · rename_i kk ks vs h1
    split at ef
    · rename_i hz
      simp only [Bool.and_eq_true, decide_eq_true_eq] at hz
      obtain ⟨⟨⟨hk, hsd⟩, hsv⟩, hl⟩ := hz
      cases ef
      refine s O σ H ds fp d ds1 _ r e1 fun v H1 fp1 p r1 rv n1 s1 => ?_
      have hp := rv.sh0 hsd
      subst hp
      rw [OO_nil] at r1 rv
      obtain ⟨vx, g1, _⟩ := r1.sl j d0 (dNm_some.mp e0)
      refine ⟨vx, g1, ?_⟩
      refine su O σ H1 ds1 fp1 _ _ _ r1 e2 fun vk H2 fp2 pj r2 rk n2 s2 => ?_
      have r2d := r2.drop
      have s2d := s2.less (y := []) fun _ z => nomatch z
      have rv2 : R X.K H2 (MM O fp2) v d [] := rv.carry ⟨fun a o z w => s2.keep a o z fun l y => by
          rcases w with w | w
          · exact nomatch w
          · exact w (.inr ⟨l, y⟩), fun a z => by
          rcases z with z | z
          · exact .inl (.inl z)
          · rcases s2.org a (.inl z) with z | z
            · exact .inl (.inr z)
            · exact .inr z, fun _ z => nomatch z⟩
      have rk2 : R X.K H2 (MM O fp2) vk key [] := by
        have hks : key.sh = true := by
          cases kk with
          | flat =>
            have hk : isK key = true := hk
            cases key <;> simp [isK] at hk <;> rfl
          | tup =>
            cases key <;> simp only [keyOk, reduceCtorEq, Bool.false_eq_true] at hk
            rename_i xs
            rw [D.sh]
            refine shL_all.mpr fun y hy => ?_
            have := List.all_eq_true.mp hk y hy
            cases y <;> simp [isK] at this <;> rfl
          | nest => simp [keyOk] at hk
        have := rk.sh0 hks
        subst this
        exact rk.fewer (fun a z => z.imp .inl id) fun _ z => nomatch z
      have e4 := dNm_some.mp h1
      obtain ⟨vd, f1, f2⟩ := r2d.sl j _ e4
      rw [g1] at f1; cases f1
      have st := s1.then s2d
      generalize hf : fp2 j = pf at f2
      cases f2 with
      | @dKM ad kvs dsx pv ed m na t =>
        have hpv := t.sh0 hsv
        subst hpv
        obtain ⟨k0, rfl, rfl⟩ := key_flat rk2 hk
        obtain ⟨q1, q2⟩ := put_of kD eqv_kD k0 rv2 t
        have na2 : ∀ M' : ASet, (∀ b, M' b → MM O fp2 b) → RL X.K (upd H2 ad (.dK (putK kvs k0 v))) M' ((putK kvs k0 v).map (·.2)) (dPut (kvs.map fun q => kD q.1) vs (kD k0) d).2 [] := fun M' hM => q2.carry ⟨fun b o z w => by
            rcases w with w | w
            · exact nomatch w
            · rw [upd_ne fun y => w (by rw [y]; exact m)]; exact z, fun b z => .inl (hM b z), fun _ z => nomatch z⟩
        have hsub : ∀ b, MM O (upF fp2 j [ad]) b → MM O fp2 b := fun b z => by
          rcases z with z | ⟨l, z⟩
          · exact .inl z
          · rcases upF_mem z with ⟨_, z⟩ | ⟨_, z⟩
            · exact .inr ⟨j, by rw [hf]; exact z⟩
            · exact .inr ⟨l, z⟩
        obtain ⟨fp3, r3, s3⟩ := dct_upd (v := v) (ho := .dK (putK kvs k0 v)) (d' := .dct true .flat (dPut (kvs.map fun q => kD q.1) vs (kD k0) d).1 (dPut (kvs.map fun q => kD q.1) vs (kD k0) d).2) r2d e4 st g1 hf (by
          rw [q1]
          exact .dKM upd_same (.inr ⟨j, by rw [upF_same]; exact List.mem_cons_self ..⟩) (fun z => nomatch z) (na2 _ hsub))
        exact ⟨ad, _, rfl, .k ed (by simpa using hl), k σ _ fp3 r3 s3 fun _ _ => rfl⟩
      | @dTM ad kvs dsx pv ed m na t =>
        have hpv := t.sh0 hsv
        subst hpv
        obtain ⟨bk, k0, rfl, rfl, eb⟩ := key_tup rk2 hk
        obtain ⟨q1, q2⟩ := put_of (fun k => D.tup (k.map kD)) eqvT_kD k0 rv2 t
        have na2 : ∀ M' : ASet, (∀ b, M' b → MM O fp2 b) → RL X.K (upd H2 ad (.dT (putK kvs k0 v))) M' ((putK kvs k0 v).map (·.2)) (dPut (kvs.map fun q => .tup (q.1.map kD)) vs (.tup (k0.map kD)) d).2 [] := fun M' hM => q2.carry ⟨fun b o z w => by
            rcases w with w | w
            · exact nomatch w
            · rw [upd_ne fun y => w (by rw [y]; exact m)]; exact z, fun b z => .inl (hM b z), fun _ z => nomatch z⟩
        have hsub : ∀ b, MM O (upF fp2 j [ad]) b → MM O fp2 b := fun b z => by
          rcases z with z | ⟨l, z⟩
          · exact .inl z
          · rcases upF_mem z with ⟨_, z⟩ | ⟨_, z⟩
            · exact .inr ⟨j, by rw [hf]; exact z⟩
            · exact .inr ⟨l, z⟩
        obtain ⟨fp3, r3, s3⟩ := dct_upd (v := v) (ho := .dT (putK kvs k0 v)) (d' := .dct true .tup (dPut (kvs.map fun q => .tup (q.1.map kD)) vs (.tup (k0.map kD)) d).1 (dPut (kvs.map fun q => .tup (q.1.map kD)) vs (.tup (k0.map kD)) d).2) r2d e4 st g1 hf (by
          rw [q1]
          exact .dTM upd_same (.inr ⟨j, by rw [upF_same]; exact List.mem_cons_self ..⟩) (fun z => nomatch z) (na2 _ hsub))
        exact ⟨ad, _, rfl, .t ed eb (by simpa using hl), k σ _ fp3 r3 s3 fun _ _ => rfl⟩
    · cases ef
  · cases ef

/-! ### isinstance of built-in types -/
/-- the built-in type of a value -/
def tyD : D → Option String
  | .non => some "NoneType"
  | .bl _ => some "bool"
  | .int _ => some "int"
  | .str _ => some "str"
  | .tup _ => some "tuple"
  | .lst _ _ => some "list"
  | .dct _ _ _ _ => some "dict"
  | _ => none
def dIsi (T : String) (f : DS → Option (D × DS)) : DS → Option (D × DS) := fun ds => (f ds).bind fun r => (tyD r.1).bind fun t => (kitB t T).bind fun b => some (.bl b, r.2)
theorem ty_of {K : PySem.W.Frag} {H : Hp} {M : ASet} {v : V} {d : D} {p : List Addr} {t : String} (r : R K H M v d p) (h : tyD d = some t) : TyX K H v (.type t) := by
  cases r <;> simp only [tyD, reduceCtorEq, Option.some.injEq] at h <;> subst h
  · exact .base .non
  · exact .base (.bl _)
  · exact .base (.int _)
  · exact .base (.str _)
  · rename_i e _ _; exact .base (.tup e)
  · rename_i e _ _ _; exact .base (.lst e)
  · rename_i e _ _; exact .base (.lst e)
  · rename_i e _ _ _; exact .base (.dK e)
  · rename_i e _ _; exact .base (.dK e)
  · rename_i e _ _ _; exact .base (.dT e)
  · rename_i e _ _; exact .base (.dT e)
theorem e_isi {T : String} {y : Str} {py : Pos} {f : DS → Option (D × DS)} (hm : X.mg x = none) (hmy : X.mg y = none) (he : PEo X e f) (hgy : Gl X y := by rfl) (hvy : bootBuiltins y = some (.type T) := by decide +kernel) (hny : y ≠ "__name__" := by decide) (hdy : (y == ("__debug__" : Str)) = false := by decide)
    (hg : Gl X x := by rfl) (hv : bootBuiltins x = some (.builtin "isinstance") := by decide +kernel) (hn : x ≠ "__name__" := by decide) (hdb : (x == ("__debug__" : Str)) = false := by decide)
    (hs : starEach [e, .Name y py] X.env = (false, eval e X.env) :: starEach [.Name y py] X.env := by rfl) (hs2 : starEach [.Name y py] X.env = (false, eval (.Name y py) X.env) :: starEach [] X.env := by rfl) (hpl : (backTo pos (starEach [.Name y py] X.env)).any (·.1) = false := by rfl) :
    PEd X (.Call (.Name x p) [e, .Name y py] [] pos) (dIsi T f) := by
  obtain ⟨t, ht, s⟩ := he
  refine ⟨_, pe_callB call_isi hg hm hv (pa_cons ht (pa_cons (pe_bltn (v := .ty T) hgy hmy hvy rfl hny hdy) pa_nil hs2) hs) hn hdb hs hpl, fun O σ H ds fp d ds' Q rs e k => ?_⟩
  obtain ⟨⟨c, ds1⟩, e1, e⟩ := Option.bind_eq_some_iff.mp e
  obtain ⟨ty, e2, e⟩ := Option.bind_eq_some_iff.mp e
  obtain ⟨b, e3, e⟩ := Option.bind_eq_some_iff.mp e
  cases e
  exact s O σ H ds fp c ds1 _ rs e1 fun v H1 fp1 p z r1 rv n1 s1 => ⟨v, .ty T, .type ty, .type T, b, rfl, .ty T, ty_of rv e2, kit_ty e3, (fin_op r1 s1 k).bl⟩
end
end DL

/-! DLf: sorted of ints; reading without a change; a loop that takes its list's items. -/
namespace DL
open PySem PySem.Spec L2

def insI (x : Int) : List Int → List Int
  | [] => [x]
  | y :: ys => if x ≤ y then x :: y :: ys else y :: insI x ys
def sortI : List Int → List Int
  | [] => []
  | x :: xs => insI x (sortI xs)
theorem insI_perm (x : Int) : ∀ l : List Int, (insI x l).Perm (x :: l)
  | [] => .refl _
  | y :: ys => by
    unfold insI
    split
    · exact .refl _
    · exact ((insI_perm x ys).cons y).trans (.swap x y ys)
theorem sortI_perm : ∀ l : List Int, (sortI l).Perm l
  | [] => .refl _
  | x :: xs => (insI_perm x _).trans ((sortI_perm xs).cons x)
theorem insI_sorted (x : Int) : ∀ {l : List Int}, l.Pairwise (· ≤ ·) → (insI x l).Pairwise (· ≤ ·)
  | [], _ => by simp [insI]
  | y :: ys, h => by
    unfold insI
    obtain ⟨h1, h2⟩ := List.pairwise_cons.mp h
    split
    · rename_i hx
      refine List.pairwise_cons.mpr ⟨fun z hz => ?_, h⟩
      rcases List.mem_cons.mp hz with rfl | hz
      · exact hx
      · exact Int.le_trans hx (h1 z hz)
    · rename_i hx
      refine List.pairwise_cons.mpr ⟨fun z hz => ?_, insI_sorted x h2⟩
      rcases List.mem_cons.mp ((insI_perm x ys).mem_iff.mp hz) with rfl | hz
      · omega
      · exact h1 z hz
theorem sortI_sorted : ∀ l : List Int, (sortI l).Pairwise (· ≤ ·)
  | [] => .nil
  | x :: xs => insI_sorted x (sortI_sorted xs)
theorem sorted_unique : ∀ {a b : List Int}, a.Perm b → a.Pairwise (· ≤ ·) → b.Pairwise (· ≤ ·) → a = b
  | [], b, p, _, _ => p.nil_eq
  | x :: xs, [], p, _, _ => absurd p.length_eq (by simp)
  | x :: xs, y :: ys, p, ha, hb => by
    obtain ⟨a1, a2⟩ := List.pairwise_cons.mp ha
    obtain ⟨b1, b2⟩ := List.pairwise_cons.mp hb
    have e : x = y := by
      have h1 : x ∈ y :: ys := p.mem_iff.mp (List.mem_cons_self ..)
      have h2 : y ∈ x :: xs := p.mem_iff.mpr (List.mem_cons_self ..)
      rcases List.mem_cons.mp h1 with h | h
      · exact h
      · rcases List.mem_cons.mp h2 with h' | h'
        · exact h'.symm
        · have := b1 x h; have := a1 y h'; omega
    subst e
    rw [sorted_unique (List.Perm.cons_inv p) a2 b2]
section
variable {X : Cx} {Wx : WXd} {a b c e : Expr} {es : List Expr} {pos p apos : Pos} {x : Str}
def fSorted : List D → Option D
  | [.lst _ xs] => (intsD xs).map fun l => .lst true ((sortI l).map .int)
  | _ => none
theorem c_sorted : CallD X (.builtin "sorted") fSorted := by
  refine ⟨_, cr_sortedI, fun M H vs ds e Q hM rb h k => ?_⟩
  unfold fSorted at h
  split at h
  · obtain ⟨l, e1, rfl⟩ := Option.map_eq_some_iff.mp h
    obtain ⟨v, p, rfl, r⟩ := RB.one rb
    obtain ⟨a, ws, _, rfl, sa, ra, _⟩ := r.lstS
    refine ⟨a, l, rfl, .inl (.inl (by rw [← ra.ints e1]; exact sa)), fun ns' p hp hs hn => ?_⟩
    have : ns' = sortI l := sorted_unique (hp.trans (sortI_perm l).symm) hs (sortI_sorted l)
    subst this
    exact k.lst hM (RL.ofInts _) (shL_ints _) p hn
  · cases h

/-! ### reading alone: every list is as if it were never written -/
def fzS (ds : DS) : DS := ds.map fun o => o.map D.fz
mutual
/-- new through and through: no list that another may hold -/
def D.nf : D → Bool
  | .tup _ => false
  | .lst m xs => m && nfL xs
  | .dct _ _ _ _ => false
  | .obj _ _ _ _ => false
  | .frl _ => false
  | .kt _ => false
  | _ => true
def nfL : List D → Bool
  | [] => true
  | x :: xs => x.nf && nfL xs
end
section
variable {K : PySem.W.Frag} {H : Hp} {M M' : ASet}
mutual
theorem R.wider : ∀ {v : V} {d : D} {p : List Addr}, R K H M v d p → d.nf = true → (∀ a, M a → M' a) → R K H M' v d p
  | _, _, _, .non, _, _ => .non
  | _, _, _, .bl b, _, _ => .bl b
  | _, _, _, .int i, _, _ => .int i
  | _, _, _, .str s, _, _ => .str s
  | _, _, _, .any v, _, _ => .any v
  | _, _, _, .tup _ _ _, z, _ => by simp [D.nf] at z
  | _, _, _, .kt _ _, z, _ => by simp [D.nf] at z
  | _, _, _, .lstM h m na t, z, s => .lstM h (s _ m) na (RL.wider t (by simpa only [D.nf, Bool.true_and] using z) s)
  | _, _, _, .lstF _ _ _, z, _ => by simp [D.nf] at z
  | _, _, _, .frl _ _ _, z, _ => by simp [D.nf] at z
  | _, _, _, .frk _ _, z, _ => by simp [D.nf] at z
  | _, _, _, .dKM _ _ _ _, z, _ => by simp [D.nf] at z
  | _, _, _, .dKF _ _ _, z, _ => by simp [D.nf] at z
  | _, _, _, .dTM _ _ _ _, z, _ => by simp [D.nf] at z
  | _, _, _, .dTF _ _ _, z, _ => by simp [D.nf] at z
  | _, _, _, .objM _ _ _ _, z, _ => by simp [D.nf] at z
  | _, _, _, .objF _ _ _, z, _ => by simp [D.nf] at z
theorem RL.wider : ∀ {vs : List V} {ds : List D} {p : List Addr}, RL K H M vs ds p → nfL ds = true → (∀ a, M a → M' a) → RL K H M' vs ds p
  | _, _, _, .nil, _, _ => .nil
  | _, _, _, .cons h t n, z, s => by
    simp only [nfL, Bool.and_eq_true] at z
    exact .cons (R.wider h z.1 s) (RL.wider t z.2 s) n
end
end
theorem RS.froze {K : PySem.W.Frag} {O : ASet} {σ : St} {H : Hp} {ds : DS} {fp : Nat → List Addr} (r : RS K O σ H ds fp) : RS K O σ H (fzS ds) (fun _ => []) := by
  refine ⟨by simp [fzS, r.len], fun i d e => ?_, fun _ _ => rfl, fun i j a z => (nomatch z), fun i a z => (nomatch z), fun a z => r.tr a (z.elim .inl fun ⟨_, w⟩ => nomatch w)⟩
  unfold fzS at e
  rw [List.getElem?_map] at e
  obtain ⟨o, e1, e2⟩ := Option.map_eq_some_iff.mp e
  obtain ⟨c, rfl, rfl⟩ := Option.map_eq_some_iff.mp e2
  obtain ⟨v, h1, h2⟩ := r.sl i c e1
  refine ⟨v, h1, h2.freeze ⟨fun a z => .inl (z.imp id fun ⟨_, w⟩ => nomatch w), fun a ha z => ?_⟩⟩
  rcases z with z | ⟨_, w⟩
  · exact r.off i a ha z
  · exact nomatch w
/-- a new value, read out of the slots without a change -/
def dRo (f : DS → Option (D × DS)) : DS → Option (D × DS) := fun ds => (f (fzS ds)).bind fun r => if r.1.nf then some (r.1, ds) else none
theorem e_ro {f : DS → Option (D × DS)} (h : PEd X e f) : PEd X e (dRo f) := by
  obtain ⟨t, ht, s⟩ := h
  refine ⟨t, ht, fun O σ H ds fp d ds' Q r ef k => ?_⟩
  obtain ⟨⟨c, ds1⟩, e1, ef⟩ := Option.bind_eq_some_iff.mp ef
  split at ef
  · rename_i hn
    cases ef
    refine s O σ H _ _ _ _ _ r.froze e1 fun v H1 fp1 p r1 rv n1 s1 => ?_
    -- all that was tracked stands as it stood
    have kp : ∀ a o, H a = some o → H1 a = some o := fun a o e => s1.keep a o e fun _ z => nomatch z
    have fr : ∀ a, a ∈ p → H a = none := fun a z => (s1.org a (.inr z)).elim (fun ⟨_, w⟩ => nomatch w) id
    have r2 : RS X.K (OO O p) σ H1 _ fp := r.more kp fun a z => z.imp id fun z => ⟨fr a z, rv.trk a z⟩
    have wide : R X.K H1 (MM (OO O p) (fun _ => [])) v _ p := rv.fewer (fun a z => z.elim .inl fun ⟨_, w⟩ => nomatch w) fun a z => .inl (.inr z)
    exact k v H1 fp p r2 (wide.wider hn fun a z => z.elim .inl fun ⟨_, w⟩ => nomatch w) n1 ⟨fun a o e _ => kp a o e, fun a z => z.imp id (fr a)⟩
  · cases ef

/-! ### for y in x, the items taken out of x's list -/
def dForC (i j : Nat) (b : DS → Option (Fl × DS)) : DS → Option (Fl × DS) := fun ds => match dNm i ds with
  | some (.lst true xs) => (dLoop (gNm j) b xs (ds.set i none)).bind fun r => match r.1 with
    | .nx => if i < r.2.length then some (.nx, r.2.set i (some (.lst true (xs.map fun _ => .any)))) else none
    | .rt d => some (.rt d, r.2)
    | _ => none
  | _ => none
theorem RL.anys {K : PySem.W.Frag} {H : Hp} {M : ASet} : ∀ {vs : List V} {xs : List D}, vs.length = xs.length → RL K H M vs (xs.map fun _ => .any) []
  | [], [], _ => .nil
  | v :: vs, x :: xs, h => RL.cons0 (.any v) (RL.anys (by simpa using h))
theorem d_forC (i j : Nat) {y : Str} {px py : Pos} {sts : List Stmt} {W : List Nat} {b : DS → Option (Fl × DS)} (hN : X.N.Nodup) (hp : PassesOwn (model X.prog X.w) X.A X.env X.xe) (hc : X.calm = true) (hb : PSsd X Wx sts b W) (hi : X.N[i]? = some x := by rfl) (hv : Vis X.env.scope x := by first | exact Or.inl rfl | exact Or.inr (Or.inl rfl) | exact Or.inr (Or.inr rfl))
    (hd : (x == ("__debug__" : Str)) = false := by decide) (hcd : (x == ("__classdict__" : Str)) = false := by decide) (hj : X.N[j]? = some y := by rfl) (hy : Loc X.env.scope y := by first | exact Or.inl rfl | exact Or.inr rfl) (hf : X.fn y = true ∨ X.env.scope.names.lookup y = some .local := by first | exact .inl rfl | exact .inr rfl)
    (hW : i ∉ j :: W := by decide) (hs : ∀ z, foldedSetIterable (.Name x px) X.env z = pure z := by intro _; rfl) : PSd X Wx (.For (.Name y py) (.Name x px) sts [] pos) (dForC i j b) (j :: W) := by
  obtain ⟨tb, hb, sb⟩ := hb
  refine ⟨_, ps_for hp hc (pi_list (pe_var hi hv hd hcd)) (pg_name hN hj hy hf) hb hs, fun O σ H ds fp fl ds' Dn r e k => ?_⟩
  unfold dForC at e
  split at e
  · rename_i xs h0
    obtain ⟨⟨flL, dsL⟩, e1, e⟩ := Option.bind_eq_some_iff.mp e
    have e0 := dNm_some.mp h0
    obtain ⟨a, vs, p, g1, g2, g3, g4, g5⟩ := r.lst e0
    have hl := g5.len
    obtain ⟨v', g1', r1, rv1⟩ := r.take e0
    rw [g1] at g1'; cases g1'
    rw [g3] at r1 rv1
    have rl1 : RL X.K H (MM (OO O (a :: p)) (upF fp i [])) vs xs p := by
      cases rv1 with
      | lstM h _ _ t => rw [g2] at h; cases h; exact t
    have na : ∀ b ∈ a :: p, ¬ O b := fun b z => r.off i b (by rw [g3]; exact z)
    refine ⟨_, g1, a, rfl, ⟨vs, .inl (.inl g2)⟩, ?_⟩
    refine ⟨fun n m σ' H' => m = xs.length - n ∧ n ≤ xs.length ∧ ∃ ds2 fp2 pk, RS X.K (OO O (a :: pk)) σ' H' ds2 fp2 ∧ RL X.K H' (MM (OO O (a :: pk)) fp2) (vs.drop n) (xs.drop n) pk ∧ (∀ c ∈ pk, c ∈ p) ∧ a ∉ pk ∧ H' a = some (.lst vs) ∧ dLoop (gNm j) b (xs.drop n) ds2 = some (flL, dsL) ∧ Step H H' fp fp2 [] ∧ ∀ l, l ∉ j :: W → σ'[l]? = σ[l]?,
      ⟨_, rfl, Nat.zero_le _, ds.set i none, upF fp i [], p, r1, rl1, fun _ z => z, g4, g2, e1, Step.putF (p := []) Step.refl (fun _ z => nomatch z), fun _ _ => rfl⟩, ?_⟩
    rintro n m σ2 H2 ⟨rfl, hn, ds2, fp2, pk, r2, rl2, sp, nap, ha2, e2, s2, kw2⟩
    by_cases hlt : n < xs.length
    · refine .inr ⟨⟨vs, vs[n], .inl (.inl ha2), List.getElem?_eq_getElem (by omega)⟩, ?_⟩
      rw [List.drop_eq_getElem_cons hlt] at e2 rl2
      rw [List.drop_eq_getElem_cons (show n < vs.length by omega)] at rl2
      obtain ⟨ds3, e3, e2⟩ := Option.bind_eq_some_iff.mp e2
      obtain ⟨⟨fl4, ds4⟩, e4, e2⟩ := Option.bind_eq_some_iff.mp e2
      refine ⟨fun σ' H' => n + 1 ≤ xs.length ∧ ∃ ds2 fp2 pk, RS X.K (OO O (a :: pk)) σ' H' ds2 fp2 ∧ RL X.K H' (MM (OO O (a :: pk)) fp2) (vs.drop (n + 1)) (xs.drop (n + 1)) pk ∧ (∀ c ∈ pk, c ∈ p) ∧ a ∉ pk ∧ H' a = some (.lst vs) ∧ dLoop (gNm j) b (xs.drop (n + 1)) ds2 = some (flL, dsL) ∧ Step H H' fp fp2 [] ∧ ∀ l, l ∉ j :: W → σ'[l]? = σ[l]?, fun σ' H' w => ⟨_, by omega, rfl, w⟩, fun v H3 yl => ?_⟩
      obtain ⟨rfl, yl⟩ := yl
      have := yl vs (.inl (.inl ha2))
      rw [List.getElem?_eq_getElem (show n < vs.length by omega)] at this
      cases this
      show tb _ (σ2.set j (some vs[n])) H3
      generalize hvs : vs.drop (n + 1) = vsR at rl2
      generalize hxs : xs.drop (n + 1) = xsR at rl2 e2
      generalize hvn : vs[n] = vn at rl2
      generalize hxn : xs[n] = xn at rl2 e3
      cases rl2 with
      | cons rvn rln nd =>
        rename_i p1 p2
        unfold gNm at e3
        split at e3
        · rename_i hjl
          cases e3
          have nap1 : a ∉ p1 := fun z => nap (List.mem_append_left _ z)
          have nap2 : a ∉ p2 := fun z => nap (List.mem_append_right _ z)
          have eqO : ∀ c, OO O (a :: (p1 ++ p2)) c ↔ OO (OO O (a :: p2)) p1 c := fun c => by
            simp only [OO, List.mem_cons, List.mem_append]
            constructor
            · rintro (z | z | z | z)
              · exact .inl (.inl z)
              · exact .inl (.inr (.inl z))
              · exact .inr z
              · exact .inl (.inr (.inr z))
            · rintro ((z | z | z) | z)
              · exact .inl z
              · exact .inr (.inl z)
              · exact .inr (.inr (.inr z))
              · exact .inr (.inr (.inl z))
          have r3 := r2.iff eqO
          have np1 : ∀ c ∈ p1, ¬ OO O (a :: p2) c := fun c z w => by
            rcases w with w | w
            · exact na c (List.mem_cons_of_mem _ (sp c (List.mem_append_left _ z))) w
            · rcases List.mem_cons.mp w with w | w
              · subst w; exact nap1 z
              · exact nd c z w
          have r4 := r3.put (i := j) (rvn.iff fun c => by simp only [MM, eqO c]) np1 hjl
          have s4 : Step H H3 fp (upF fp2 j p1) [] := ⟨s2.keep, fun c z => by
            rcases z with ⟨l, z⟩ | z
            · rcases upF_mem z with ⟨_, z⟩ | ⟨_, z⟩
              · exact .inl ⟨i, by rw [g3]; exact List.mem_cons_of_mem _ (sp c (List.mem_append_left _ z))⟩
              · exact s2.org c (.inl ⟨l, z⟩)
            · exact nomatch z⟩
          have rl4 : RL X.K H3 (MM (OO O (a :: p2)) (upF fp2 j p1)) vsR xsR p2 := rln.fewer (fun c z => by
            rcases z with z | ⟨l, z⟩
            · exact .inl ((eqO c).mpr (.inl z))
            · rcases upF_mem z with ⟨_, z⟩ | ⟨_, z⟩
              · exact .inl ((eqO c).mpr (.inr z))
              · exact .inr ⟨l, z⟩) fun c z => .inl (.inr (List.mem_cons_of_mem _ z))
          have kj : ∀ l, l ∉ j :: W → (σ2.set j (some vn))[l]? = σ[l]? := fun l hl' => by
            rw [List.getElem?_set_ne fun z => hl' (by rw [z]; exact List.mem_cons_self ..)]
            exact kw2 l hl'
          refine sb (OO O (a :: p2)) (σ2.set j (some vn)) H3 (ds2.set j (some xn)) _ fl4 ds4 _ r4 e4 ?_
          have step : ∀ {σ5 : St} {H5 : Hp} {fp5 : Nat → List Addr}, RS X.K (OO O (a :: p2)) σ5 H5 ds4 fp5 → Step H3 H5 (upF fp2 j p1) fp5 [] → (∀ l, l ∉ W → σ5[l]? = (σ2.set j (some vn))[l]?) → dLoop (gNm j) b xsR ds4 = some (flL, dsL) →
              n + 1 ≤ xs.length ∧ ∃ ds2 fp2 pk, RS X.K (OO O (a :: pk)) σ5 H5 ds2 fp2 ∧ RL X.K H5 (MM (OO O (a :: pk)) fp2) vsR xsR pk ∧ (∀ c ∈ pk, c ∈ p) ∧ a ∉ pk ∧ H5 a = some (.lst vs) ∧ dLoop (gNm j) b xsR ds2 = some (flL, dsL) ∧ Step H H5 fp fp2 [] ∧ ∀ l, l ∉ j :: W → σ5[l]? = σ[l]? := fun {σ5 H5 fp5} r5 s5 h5 el => by
            refine ⟨hlt, ds4, fp5, p2, r5, ?_, fun c z => sp c (List.mem_append_right _ z), nap2, ?_, el, s4.then s5, fun l hl' => by rw [h5 l fun z => hl' (List.mem_cons_of_mem _ z), kj l hl']⟩
            · refine rl4.carry ⟨fun c o z w => s5.keep c o z fun l q => ?_, fun c z => ?_, fun c z => .inl (.inr (List.mem_cons_of_mem _ z))⟩
              · rcases w with w | w
                · exact r4.off l c q (.inr (List.mem_cons_of_mem _ w))
                · exact w (.inr ⟨l, q⟩)
              · rcases z with z | z
                · exact .inl (.inl z)
                · rcases s5.org c (.inl z) with z | z
                  · exact .inl (.inr z)
                  · exact .inr z
            · exact s5.keep a _ ha2 fun l q => r4.off l a q (.inr (List.mem_cons_self ..))
          cases fl4 with
          | nx => exact fun σ5 H5 fp5 r5 s5 h5 => step r5 s5 h5 e2
          | ct => exact fun σ5 H5 fp5 r5 s5 h5 => step r5 s5 h5 e2
          | bk =>
            cases e2
            simp only at e
            split at e
            · rename_i hil
              cases e
              refine fun σ5 H5 fp5 r5 s5 h5 => ?_
              have hia : σ5[i]? = some (some (.ref a)) := by
                rw [h5 i fun z => hW (List.mem_cons_of_mem _ z), kj i hW]; exact g1
              have ha5 : H5 a = some (.lst vs) := s5.keep a _ ha2 fun l q => r4.off l a q (.inr (List.mem_cons_self ..))
              have r6 : RS X.K (OO O [a]) σ5 H5 _ fp5 := r5.outer fun c z => z.imp id fun z => by
                rw [List.mem_singleton] at z; subst z; exact List.mem_cons_self ..
              have r7 := r6.put (i := i) (v := .ref a) (d := .lst true (xs.map fun _ => .any)) (p := [a]) (.lstM ha5 (.inl (.inr (List.mem_singleton.mpr rfl))) (fun z => nomatch z) (RL.anys hl)) (fun c z => by rw [List.mem_singleton] at z; subst z; exact na _ (List.mem_cons_self ..)) hil
              rw [set_self hia] at r7
              refine k σ5 H5 _ r7 ?_ fun l hl' => by rw [h5 l fun z => hl' (List.mem_cons_of_mem _ z), kj l hl']
              exact ⟨(s4.then s5).keep, fun c z => by
                rcases z with ⟨l, z⟩ | z
                · rcases upF_mem z with ⟨_, z⟩ | ⟨_, z⟩
                  · rw [List.mem_singleton] at z; subst z; exact .inl ⟨i, by rw [g3]; exact List.mem_cons_self ..⟩
                  · exact (s4.then s5).org c (.inl ⟨l, z⟩)
                · exact nomatch z⟩
            · cases e
          | rt d =>
            cases e2
            cases e
            refine fun v σ5 H5 fp5 p5 r5 rv5 n5 s5 h5 => ?_
            refine k v σ5 H5 fp5 p5 (r5.outer fun c z => z.imp .inl id) (rv5.fewer (fun c z => ?_) fun c z => .inl (.inr z)) (fun c z w => n5 c z (.inl w)) (s4.then s5) fun l hl' => by rw [h5 l fun z => hl' (List.mem_cons_of_mem _ z), kj l hl']
            rcases z with (z | z) | z
            · exact .inl (.inl (.inl z))
            · exact .inl (.inr z)
            · exact .inr z
          | ex C fs => cases e2; cases e
        · cases e3
    · refine .inl ⟨⟨vs, .inl (.inl ha2), by omega⟩, ?_⟩
      rw [List.drop_eq_nil_of_le (by omega)] at e2
      cases e2
      simp only at e
      split at e
      · rename_i hil
        cases e
        have hia : σ2[i]? = some (some (.ref a)) := by rw [kw2 i hW]; exact g1
        have r6 : RS X.K (OO O [a]) σ2 H2 dsL fp2 := r2.outer fun c z => z.imp id fun z => by
          rw [List.mem_singleton] at z; subst z; exact List.mem_cons_self ..
        have r7 := r6.put (i := i) (v := .ref a) (d := .lst true (xs.map fun _ => .any)) (p := [a]) (.lstM ha2 (.inl (.inr (List.mem_singleton.mpr rfl))) (fun z => nomatch z) (RL.anys hl)) (fun c z => by rw [List.mem_singleton] at z; subst z; exact na _ (List.mem_cons_self ..)) hil
        rw [set_self hia] at r7
        refine k σ2 H2 _ r7 ⟨s2.keep, fun c z => ?_⟩ kw2
        rcases z with ⟨l, z⟩ | z
        · rcases upF_mem z with ⟨_, z⟩ | ⟨_, z⟩
          · rw [List.mem_singleton] at z; subst z; exact .inl ⟨i, by rw [g3]; exact List.mem_cons_self ..⟩
          · exact s2.org c (.inl ⟨l, z⟩)
        · exact nomatch z
      · cases e
  · cases e
end
end DL

/-! DLg: what the top has written; the end. -/
namespace DL
open PySem PySem.Spec L2

section
variable {X : Cx}
/-- a name whose value is given away -/
def dMv (i : Nat) : DS → Option (D × DS) := fun ds => match dNm i ds with
  | some d => some (d, ds.set i none)
  | none => none
theorem e_mv (i : Nat) {x : Str} {pos : Pos} (hN : X.N[i]? = some x := by rfl) (hv : Vis X.env.scope x := by first | exact Or.inl rfl | exact Or.inr (Or.inl rfl) | exact Or.inr (Or.inr rfl)) (hd : (x == ("__debug__" : Str)) = false := by decide)
    (hcd : (x == ("__classdict__" : Str)) = false := by decide) : PEd X (.Name x pos) (dMv i) := by
  refine ⟨_, pe_var hN hv hd hcd, fun O σ H ds fp d ds' Q r e k => ?_⟩
  unfold dMv at e
  split at e
  · rename_i c ec
    cases e
    obtain ⟨v, h1, r1, rv⟩ := r.take (dNm_some.mp ec)
    refine ⟨v, h1, k v H _ _ r1 rv (fun a z w => r.off i a z w) ⟨fun a o e _ => e, fun a z => ?_⟩⟩
    rcases z with ⟨j, z⟩ | z
    · rcases upF_mem z with ⟨_, z⟩ | ⟨_, z⟩
      · exact nomatch z
      · exact .inl ⟨j, z⟩
    · exact .inl ⟨i, z⟩
  · cases e
end
section
variable {K : PySem.W.Frag} {h : Heap} {mg : Str → Option Value}
/-- a def of the module, by the facts of the head -/
theorem at_mk {x qual : Str} {st : Stmt} {f : Addr} {ps : List Str} {oc kV dc pm cd ct : Value} {od an : Option Addr} {sl : Array (Option Value)} (X : K.In h) (G : h.Ns mainGlobals mg) (a : PySem.W.nsIn K mainGlobals x = some (some (.ref f)))
    (l : K.lookup f = some ⟨oc, od, .func (PySem.W.fnOf x qual (defArgs st) (defBody st) (defScope st) .none kV dc pm an cd ct), sl⟩) (c : PySem.W.codeIn K cd qual = true) (k : PySem.W.keepIn K (.ref f) = true)
    (hb : ∀ (kV doc pm : Value) (an : Option Addr) (cdv ct : Value) (us : List Value), us.length = ps.length → bindArgs (PySem.W.fnOf x qual (defArgs st) (defBody st) (defScope st) .none kV doc pm an cdv ct) ⟨us, []⟩ = pure (ps.zip us)) :
    At K mg x qual st ps f (PySem.W.fnOf x qual (defArgs st) (defBody st) (defScope st) .none kV dc pm an cd ct) :=
  have F := fun_mk l c k
  ⟨F, PySem.W.mg_of X G a, k, F.binds hb⟩
theorem mg_no {x : Str} (X : K.In h) (G : h.Ns mainGlobals mg) (a : PySem.W.nsIn K mainGlobals x = some none) : mg x = none := PySem.W.mg_none_of X G a
end
def spLaw (K : PySem.W.Frag) : Sp := fun vs H Q _ => ∃ (a : Addr) (ns : List Int), vs = [.ref a] ∧ SqL K H a (ns.map V.int) ∧ ns.length ≤ 63 ∧ ∀ H', Q (.bl true) H'
/-- the law's answer, by data alone: the script as it may stand -/
def LawYes (F : FD) : Prop := ∀ (ns : List Int) (d : D), ns.length ≤ 63 → (d = .frl (ns.map .int) ∨ d = .lst false (ns.map .int)) → ∃ outs, F [d] = some (.ok (.bl true) outs)
theorem ints_R {K : PySem.W.Frag} {H : Hp} {M : ASet} : ∀ ns : List Int, RL K H M (ns.map V.int) (ns.map D.int) []
  | [] => .nil
  | n :: ns => RL.cons0 (.int n) (ints_R ns)
theorem law_sp {K : PySem.W.Frag} {F : FD} (h : LawYes F) : ∀ vs H Q E, spLaw K vs H Q E → spD 1 K F vs H Q E := by
  rintro vs H Q E ⟨a, ns, rfl, hS, hl, k⟩
  have go : ∀ d : D, (d = .frl (ns.map .int) ∨ d = .lst false (ns.map .int)) → R K H (MM (fun _ => False) fun _ => []) (.ref a) d [] → spD 1 K F [.ref a] H Q E := fun d hd rd => by
    obtain ⟨outs, e⟩ := h ns d hl hd
    refine ⟨fun _ => False, [d], fun _ => [], .ok (.bl true) outs, rfl, rfl, ?_, e, ?_⟩
    · refine ⟨rfl, fun i c z => ?_, fun i z => rfl, fun i j b z => (nomatch z), fun i b z => (nomatch z), fun b z => ?_⟩
      · match i, z with
        | 0, z => cases z; exact ⟨_, rfl, rd⟩
      · rcases z with z | ⟨_, z⟩
        · exact z.elim
        · exact nomatch z
    · intro v H' fp' p _ rv _ _
      cases rv
      exact k H'
  have no : ¬ MM (fun _ => False) (fun _ => ([] : List Addr)) a := by
    rintro (z | ⟨_, z⟩)
    · exact z
    · exact nomatch z
  rcases hS with hS | ⟨o, its, n, hS⟩
  · rcases hS with hS | ⟨o, hS⟩
    · exact go _ (.inr rfl) (.lstF hS no (ints_R ns))
    · exact go _ (.inl rfl) (.frl hS no (ints_R ns))
  · exact go _ (.inl rfl) (.frk (fun G => .inr ⟨o, its, n, hS⟩) (ints_R ns))
theorem law_end {P : Program} {w : World} {K : PySem.W.Frag} {mg : Str → Option Value} {base : Heap} {k : Nat} {f : Addr} {fd : FuncData} {F : FD} (G : FnOk P w K mg base CX0 k f fd ["script"] (spD 1 K F)) (h : LawYes F) : FnOk P w K mg base CX0 k f fd ["script"] (spLaw K) := G.imp (law_sp h)
theorem law_walk {l : PySem.W.OpenLaw} {q : Program} {loose : List Str} {XP : (Str → Option Value) → Heap → Prop} {YP : World → Heap → Prop} {d : DefRec} {K : Params → PySem.W.Frag} {k : Nat} (hn : l.most = some 63) (hdf : d.params.defaults = []) (hr : Room k callerA)
    (hY : ∀ (w : World) (h : Heap), YP w h → (K w.params).In h)
    (F : ∀ (w : World) (mg : Str → Option Value) (fa : Addr) (h : Heap), (K w.params).In h → h.Ns mainGlobals mg → mg d.name = some (.ref fa) →
      ∃ fd : FuncData, (∀ (s : Shared) (u : Value), BindsTo s fd ⟨[u], []⟩ [("script", u)]) ∧ ∀ base : Heap, (K w.params).In base → base.Ns mainGlobals mg → FnOk l.prog w (K w.params) mg base CX0 k fa fd ["script"] (spLaw (K w.params))) :
    PySem.W.WalkO q loose XP YP l.row.toRowW d [] (fun f vs => PySem.call f vs) :=
  L2.walk_of (n := 63) (k := k) (x := "script") (CX := fun _ => CX0) (sp := fun w => spLaw (K w.params)) hn (by decide) hdf hr hY F (fun _ _ a ns hl _ hS => ⟨a, ns, rfl, hS, hl, fun _ => rfl⟩) fun _ _ _ _ _ z => z
end DL

/-! DLh: the denotations worked out by simp. -/
namespace DL
open PySem PySem.Spec L2

theorem obind_congr {α β : Type} {x y : Option α} (k : α → Option β) (h : x = y) : x.bind k = y.bind k := by rw [h]
def rg1K (r : List D × DS) : Option (List D × DS) := match r.1 with
  | [.int j] => if i62 j then some (rangeD 0 j.toNat, r.2) else none
  | _ => none
def rg2K (r : List D × DS) : Option (List D × DS) := match r.1 with
  | [.int i, .int j] => if i62 i && i62 j then some (rangeD i (j - i).toNat, r.2) else none
  | _ => none
@[simp] theorem rg1K_some {j : Int} {ds : DS} (h : i62 j = true) : rg1K ([.int j], ds) = some (rangeD 0 j.toNat, ds) := if_pos h
@[simp] theorem rg2K_some {i j : Int} {ds : DS} (h : i62 i = true) (h2 : i62 j = true) : rg2K ([.int i, .int j], ds) = some (rangeD i (j - i).toNat, ds) := by
  unfold rg2K
  simp only [h, h2, Bool.and_self, if_true]
section
variable {f g h : DS → Option (D × DS)} {a b : DS → Option D} {ds : DS} {d e : D} {i j n m : Nat} {W : List Nat} {t u : DS → Option (Bool × DS)} {s r : DS → Option (Fl × DS)} {p : DS → Option (D × D × DS)} {as bs : DS → Option (List D × DS)} {cs : DS → Option (List A1 × DS)}
@[simp] theorem ev_fn {args : List D} : dFn m n W s args = (s (args.map some ++ List.replicate (m - n) none)).bind fun r => match r.1 with
  | .rt d => some (.ok d (outsOf W n r.2))
  | .nx => some (.ok .non (outsOf W n r.2))
  | _ => none := Eq.trans rfl rfl
@[simp] theorem ev_seq : dSeq s r ds = (s ds).bind fun q => match q.1 with
  | .nx => r q.2
  | _ => some q := by
  unfold dSeq
  cases s ds with
  | none => rfl
  | some q => obtain ⟨fl, q⟩ := q; cases fl <;> rfl
@[simp] theorem ev_ifs : dIfS t s r ds = (t ds).bind fun q => if q.1 then s q.2 else r q.2 := Eq.trans rfl rfl
@[simp] theorem ev_b : dB f ds = (f ds).bind fun r => match r.1 with
  | .bl b => some (b, r.2)
  | _ => none := by
  unfold dB
  cases f ds with
  | none => rfl
  | some q => obtain ⟨d, q⟩ := q; cases d <;> rfl
@[simp] theorem ev_op {op : D → D → Option D} : dOp op p ds = (p ds).bind fun r => (op r.1 r.2.1).bind fun d => some (d, r.2.2) := Eq.trans rfl rfl
@[simp] theorem ev_p : dP f g ds = (f ds).bind fun r => (g r.2).bind fun q => some (r.1, q.1, q.2) := Eq.trans rfl rfl
@[simp] theorem ev_pb : dPb f b ds = (f ds).bind fun r => (b r.2).bind fun d => some (r.1, d, r.2) := Eq.trans rfl rfl
@[simp] theorem ev_pn : dPn i g ds = (dNm i ds).bind fun _ => (g ds).bind fun r => (dNm i r.2).bind fun c => some (c, r.1, r.2) := Eq.trans rfl rfl
@[simp] theorem ev_n : dN i ds = match ds[i]? with
  | some (some d) => if d.sh then some (d, ds) else none
  | _ => none := by
  unfold dN
  split <;> simp_all
@[simp] theorem ev_nm : dNm i ds = match ds[i]? with
  | some (some d) => some d
  | _ => none := by
  unfold dNm
  split <;> simp_all
@[simp] theorem ev_fr : dFr i ds = match ds[i]? with
  | some (some d) => some (d.fz, ds.set i (some d.fz))
  | _ => none := by
  unfold dFr
  split <;> simp_all
@[simp] theorem ev_rd : dRd a ds = (a ds).bind fun d => some (d, ds) := by unfold dRd; cases a ds <;> rfl
@[simp] theorem ev_fz : dFz f ds = (f ds).bind fun r => some (r.1.fz, r.2) := by unfold dFz; cases f ds <;> rfl
@[simp] theorem ev_k : dK d ds = some (d, ds) := Eq.trans rfl rfl
@[simp] theorem ev_c : dC d ds = some d := Eq.trans rfl rfl
@[simp] theorem ev_cb {F : List D → Option D} : dCB F as ds = (as ds).bind fun r => (F r.1).bind fun d => some (d, r.2) := Eq.trans rfl rfl
@[simp] theorem ev_o1 : dO1 f ds = (f ds).bind fun r => some ([r.1], r.2) := Eq.trans rfl rfl
@[simp] theorem ev_o2 : dO2 p ds = (p ds).bind fun r => some ([r.1, r.2.1], r.2.2) := Eq.trans rfl rfl
@[simp] theorem ev_a0 : dA0 ds = some ([], ds) := Eq.trans rfl rfl
@[simp] theorem ev_a1 : dA1 f as ds = (f ds).bind fun r => (as r.2).bind fun q => some (r.1 :: q.1, q.2) := Eq.trans rfl rfl
@[simp] theorem ev_tup : dTup as ds = (as ds).bind fun r => if r.1.length ≤ sizeLine then some (.tup r.1, r.2) else none := Eq.trans rfl rfl
@[simp] theorem ev_lst : dLst as ds = (as ds).bind fun r => if r.1.length ≤ sizeLine then some (.lst true r.1, r.2) else none := Eq.trans rfl rfl
@[simp] theorem ev_ix : dIx p ds = (p ds).bind fun r => (dAt r.1 r.2.1).bind fun d => if d.sh then some (d, r.2.2) else none := Eq.trans rfl rfl
@[simp] theorem ev_ixb : dIxb a b ds = (a ds).bind fun x => (b ds).bind fun y => dAt x y := Eq.trans rfl rfl
@[simp] theorem ev_opb {op : D → D → Option D} : dOpb op a b ds = (a ds).bind fun x => (b ds).bind fun y => op x y := Eq.trans rfl rfl
@[simp] theorem ev_ret : dRet f ds = (f ds).bind fun r => some (.rt r.1, r.2) := Eq.trans rfl rfl
@[simp] theorem ev_retN : dRetN ds = some (.rt .non, ds) := Eq.trans rfl rfl
@[simp] theorem ev_pass : dPass ds = some (.nx, ds) := Eq.trans rfl rfl
@[simp] theorem ev_brk : dBrk ds = some (.bk, ds) := Eq.trans rfl rfl
@[simp] theorem ev_cnt : dCnt ds = some (.ct, ds) := Eq.trans rfl rfl
@[simp] theorem ev_drop : dDrop f ds = (f ds).bind fun r => some (.nx, r.2) := Eq.trans rfl rfl
@[simp] theorem ev_asg {w : D → DS → Option DS} : dAsg f w ds = (f ds).bind fun r => (w r.1 r.2).bind fun ds' => some (.nx, ds') := Eq.trans rfl rfl
@[simp] theorem ev_gnm : gNm i d ds = if i < ds.length then some (ds.set i (some d)) else none := Eq.trans rfl rfl
@[simp] theorem ev_gtp {w : List D → DS → Option DS} {xs : List D} : gTp n w (.tup xs) ds = if xs.length = n then w xs ds else none := by
  unfold gTp; rfl
@[simp] theorem ev_gs0 : gs0 [] ds = some ds := Eq.trans rfl rfl
@[simp] theorem ev_gs1 {w : D → DS → Option DS} {v : List D → DS → Option DS} {xs : List D} : gs1 w v (d :: xs) ds = (w d ds).bind fun ds1 => v xs ds1 := Eq.trans rfl rfl
@[simp] theorem ev_call {F : FD} : dCall n F cs ds = (cs ds).bind fun r => (takeA r.1 r.2).bind fun t => if t.1.length = n then (F t.1).bind fun q => match q with
    | .ok d outs => some (d, putA r.1 outs t.2)
    | _ => none
  else none := by
  unfold dCall
  cases cs ds with
  | none => rfl
  | some r =>
    show ((takeA r.1 r.2).bind _) = ((takeA r.1 r.2).bind _)
    cases takeA r.1 r.2 with
    | none => rfl
    | some t =>
      show (if _ then _ else _) = (if _ then _ else _)
      split
      · cases F t.1 with
        | none => rfl
        | some q => cases q <;> rfl
      · rfl
@[simp] theorem ev_ca0 : cA0 ds = some ([], ds) := Eq.trans rfl rfl
@[simp] theorem ev_cat : cAt f cs ds = (f ds).bind fun r => (cs r.2).bind fun q => some (.tmp r.1 :: q.1, q.2) := Eq.trans rfl rfl
@[simp] theorem ev_can : cAn i cs ds = (dNm i ds).bind fun _ => (cs ds).bind fun q => some (.nm i :: q.1, q.2) := Eq.trans rfl rfl
@[simp] theorem ev_t0 : takeA [] ds = some ([], ds) := Eq.trans rfl rfl
@[simp] theorem ev_t1 {l : List A1} : takeA (.tmp d :: l) ds = (takeA l ds).bind fun q => some (d :: q.1, q.2) := Eq.trans rfl rfl
@[simp] theorem ev_t2 {l : List A1} : takeA (.nm i :: l) ds = (dNm i ds).bind fun d => (takeA l (ds.set i none)).bind fun q => some (d :: q.1, q.2) := Eq.trans rfl rfl
@[simp] theorem ev_pu0 {os : DS} : putA [] os ds = ds := by unfold putA; rfl
@[simp] theorem ev_pu1 {l : List A1} {o : Option D} {os : DS} : putA (.tmp d :: l) (o :: os) ds = putA l os ds := Eq.trans rfl rfl
@[simp] theorem ev_pu2 {l : List A1} {o : Option D} {os : DS} : putA (.nm i :: l) (o :: os) ds = putA l os (ds.set i o) := Eq.trans rfl rfl
@[simp] theorem ev_and : dAnd t u ds = (t ds).bind fun r => if r.1 then u r.2 else some (false, r.2) := Eq.trans rfl rfl
@[simp] theorem ev_or : dOr t u ds = (t ds).bind fun r => if r.1 then some (true, r.2) else u r.2 := Eq.trans rfl rfl
@[simp] theorem ev_not : dNot t ds = (t ds).bind fun r => some (!r.1, r.2) := Eq.trans rfl rfl
@[simp] theorem ev_yes : dYes ds = some (true, ds) := Eq.trans rfl rfl
@[simp] theorem ev_andV : dAndV f g ds = (dB f ds).bind fun r => if r.1 then g r.2 else some (.bl false, r.2) := Eq.trans rfl rfl
@[simp] theorem ev_orV : dOrV f g ds = (dB f ds).bind fun r => if r.1 then some (.bl true, r.2) else g r.2 := Eq.trans rfl rfl
@[simp] theorem ev_notV : dNotV f ds = (dB f ds).bind fun r => some (.bl (!r.1), r.2) := Eq.trans rfl rfl
@[simp] theorem ev_if : dIf t f g ds = (t ds).bind fun r => if r.1 then f r.2 else g r.2 := Eq.trans rfl rfl
@[simp] theorem ev_setix : dSetIx i f g ds = (f ds).bind fun r => (dNm i r.2).bind fun _ => (g r.2).bind fun q => match q.1, dNm i q.2 with
  | .int j, some (.lst true xs) => (ixN xs.length j).bind fun n => some (.nx, q.2.set i (some (.lst true (xs.set n r.1))))
  | _, _ => none := Eq.trans rfl rfl
@[simp] theorem ev_app : dApp i f ds = match dNm i ds with
  | some (.lst true _) => (f ds).bind fun r => match dNm i r.2 with
    | some (.lst true xs) => if xs.length < sizeLine then some (.non, r.2.set i (some (.lst true (xs ++ [r.1])))) else none
    | _ => none
  | _ => none := Eq.trans rfl rfl
@[simp] theorem ev_ext : dExt i f ds = match dNm i ds with
  | some (.lst true _) => (f ds).bind fun r => match r.1, dNm i r.2 with
    | .lst _ ys, some (.lst true xs) => if shL ys && decide (xs.length + ys.length ≤ sizeLine) then some (.non, r.2.set i (some (.lst true (xs ++ ys)))) else none
    | _, _ => none
  | _ => none := Eq.trans rfl rfl
@[simp] theorem ev_aug {w : Int → Int → Int} : dAug i w f ds = match dNm i ds with
  | some (.int m) => (f ds).bind fun r => match r.1 with
    | .int n => some (.nx, r.2.set i (some (.int (w m n))))
    | _ => none
  | _ => none := Eq.trans rfl rfl
@[simp] theorem ev_for {it : DS → Option (List D × DS)} {w : D → DS → Option DS} : dFor it w s ds = (it ds).bind fun r => dLoop w s r.1 r.2 := Eq.trans rfl rfl
@[simp] theorem ev_it : dIt f ds = (f ds).bind fun r => match r.1 with
  | .tup xs => if shL xs then some (xs, r.2) else none
  | .lst _ xs => if shL xs then some (xs, r.2) else none
  | _ => none := Eq.trans rfl rfl
@[simp] theorem ev_rg1 : dRg1 as ds = (as ds).bind rg1K := Eq.trans rfl rfl
@[simp] theorem ev_rg2 : dRg2 as ds = (as ds).bind rg2K := Eq.trans rfl rfl
@[simp] theorem ev_lc {it : DS → Option (List D × DS)} {w : D → DS → Option DS} : dLc W it w t f ds = (it ds).bind fun r => (lcLoop W w t f r.1 [] (wipeD r.2 W)).bind fun q => some (.lst true q.1, unwD r.2 q.2 W) := Eq.trans rfl rfl
@[simp] theorem ev_wi0 : wipeD ds [] = ds := Eq.trans rfl rfl
@[simp] theorem ev_wi1 : wipeD ds (i :: W) = (wipeD ds W).set i none := Eq.trans rfl rfl
@[simp] theorem ev_ks (d : D) : keepSh (some (some d)) = if d.sh then some d else none := Eq.trans rfl rfl
@[simp] theorem ev_ks0 : keepSh (some none) = none := Eq.trans rfl rfl
@[simp] theorem ev_un0 {ds1 : DS} : unwD ds1 ds [] = ds := Eq.trans rfl rfl
@[simp] theorem ev_un1 {ds1 : DS} : unwD ds1 ds (i :: W) = (unwD ds1 ds W).set i (keepSh ds1[i]?) := Eq.trans rfl rfl
@[simp] theorem ev_while {μ : DS → Nat} : dWhile μ t s ds = dWh t s (μ ds) ds := Eq.trans rfl rfl
@[simp] theorem ev_ro : dRo f ds = (f (fzS ds)).bind fun r => if r.1.nf then some (r.1, ds) else none := Eq.trans rfl rfl
@[simp] theorem ev_isi {T : String} : dIsi T f ds = (f ds).bind fun r => (tyD r.1).bind fun t => (kitB t T).bind fun b => some (.bl b, r.2) := Eq.trans rfl rfl
@[simp] theorem ev_dget : dDget p ds = (p ds).bind fun r => (dGetV r.1 r.2.1).bind fun d => some (d, r.2.2) := Eq.trans rfl rfl
@[simp] theorem ev_dgetb : dDgetb a b ds = (a ds).bind fun x => (b ds).bind fun y => dGetV x y := Eq.trans rfl rfl
@[simp] theorem ev_dput : dDput i f g ds = (f ds).bind fun r => (dNm i r.2).bind fun _ => (g r.2).bind fun q => match dNm i q.2 with
  | some (.dct true kk ks vs) => if keyOk kk q.1 && r.1.sh && shL vs && decide (ks.length < sizeLine) then some (.nx, q.2.set i (some (.dct true kk (dPut ks vs q.1 r.1).1 (dPut ks vs q.1 r.1).2))) else none
  | _ => none := Eq.trans rfl rfl
@[simp] theorem ev_forC : dForC i j s ds = match dNm i ds with
  | some (.lst true xs) => (dLoop (gNm j) s xs (ds.set i none)).bind fun r => match r.1 with
    | .nx => if i < r.2.length then some (.nx, r.2.set i (some (.lst true (xs.map fun _ => .any)))) else none
    | .rt d => some (.rt d, r.2)
    | _ => none
  | _ => none := Eq.trans rfl rfl
@[simp] theorem ev_mv : dMv i ds = (dNm i ds).bind fun d => some (d, ds.set i none) := by unfold dMv; cases dNm i ds <;> rfl
@[simp] theorem ev_neg : dNeg f ds = (f ds).bind fun r => match r.1 with
  | .int i => some (.int (-i), r.2)
  | _ => none := Eq.trans rfl rfl
end
/-! data -/
@[simp] theorem sh_int (i : Int) : (D.int i).sh = true := Eq.trans rfl rfl
@[simp] theorem sh_bl (i : Bool) : (D.bl i).sh = true := Eq.trans rfl rfl
@[simp] theorem sh_str (i : Str) : (D.str i).sh = true := Eq.trans rfl rfl
@[simp] theorem sh_non : D.non.sh = true := Eq.trans rfl rfl
@[simp] theorem sh_any : D.any.sh = true := Eq.trans rfl rfl
@[simp] theorem sh_tup (xs : List D) : (D.tup xs).sh = shL xs := by simp only [D.sh]
@[simp] theorem sh_lst (m : Bool) (xs : List D) : (D.lst m xs).sh = (!m && shL xs) := by simp only [D.sh]
@[simp] theorem sh_frl (xs : List D) : (D.frl xs).sh = shL xs := by simp only [D.sh]
@[simp] theorem fz_int (i : Int) : (D.int i).fz = .int i := Eq.trans rfl rfl
@[simp] theorem fz_bl (i : Bool) : (D.bl i).fz = .bl i := Eq.trans rfl rfl
@[simp] theorem fz_str (i : Str) : (D.str i).fz = .str i := Eq.trans rfl rfl
@[simp] theorem fz_non : D.non.fz = .non := Eq.trans rfl rfl
@[simp] theorem fz_tup (xs : List D) : (D.tup xs).fz = .tup (fzL xs) := by simp only [D.fz]
@[simp] theorem fz_lst (m : Bool) (xs : List D) : (D.lst m xs).fz = .lst false (fzL xs) := by simp only [D.fz]
@[simp] theorem fzL_nil : fzL [] = [] := by simp only [fzL]
@[simp] theorem fzL_cons (x : D) (xs : List D) : fzL (x :: xs) = x.fz :: fzL xs := by simp only [fzL]
@[simp] theorem shL_nil : shL [] = true := by simp only [shL]
@[simp] theorem shL_cons (x : D) (xs : List D) : shL (x :: xs) = (x.sh && shL xs) := by simp only [shL]
@[simp] theorem shL_ints' (l : List Int) : shL (l.map D.int) = true := shL_ints l
@[simp] theorem fzL_ints (l : List Int) : fzL (l.map D.int) = l.map D.int := fzL_of_sh _ (shL_ints l)
theorem atI_n {α : Type} (xs : List α) (i : Nat) : L2.atI xs (i : Int) = xs[i]? := by
  unfold L2.atI ixN
  rw [if_pos (Int.natCast_nonneg i)]
  by_cases h : (i : Int) < xs.length
  · rw [if_pos h]; simp
  · rw [if_neg h]
    have : xs.length ≤ i := by omega
    simp [this]
end DL

/-! FP0: what the draws and the tables' readers compute. -/
namespace DL
open PySem PySem.Spec L2
def F_law_cell : FD := dFn 2 2 [] ((dSeq (dIfS (dB (dOp dLt (dP (dN 1) (dCB fLen (dO1 (dN 0)))))) (dRet (dIx (dP (dN 0) (dN 1)))) dPass)
    (dRet (dK (.int 0)))))
def F_law_stream : FD := dFn 3 2 [2, 2] ((dSeq (dAsg (dK (.int 0)) (gNm 2))
    (dSeq (dIfS (dB (dOp dGe (dP (dN 0) (dOp dPow (dP (dK (.int 10)) (dK (.int 18))))))) (dAsg (dN 0) (gNm 2)) dPass)
    (dRet (dLst (dA1 (dN 2) (dA1 (dOp dMod (dP (dCB fInt (dO1 (dOp dAdd (dP (dOp dAdd (dP (dOp dMul (dP (dN 0) (dK (.int 48271)))) (dOp dMul (dP (dN 1) (dK (.int 69621)))))) (dK (.int 77)))))) (dK (.int 2147483647)))) dA0)))))))
def F_law_next : FD := dFn 3 2 [2] ((dSeq (dIfS (dB (dOp dGt (dPb (dRd (dIxb (dNm 0) (dC (.int 0)))) (dC (.int 0))))) (dSeq (dAsg (dOp dMod (dP (dCB fInt (dO1 (dRd (dIxb (dNm 0) (dC (.int 0)))))) (dN 1))) (gNm 2))
    (dSeq (dSetIx 0 (dOp dDiv (dPb (dRd (dIxb (dNm 0) (dC (.int 0)))) (dNm 1))) (dK (.int 0)))
    (dRet (dN 2)))) dPass)
    (dSeq (dSetIx 0 (dOp dMod (dP (dCB fInt (dO1 (dOp dAdd (dP (dOp dMul (dPb (dRd (dIxb (dNm 0) (dC (.int 1)))) (dC (.int 48271)))) (dK (.int 12820163)))))) (dK (.int 2147483647)))) (dK (.int 1)))
    (dRet (dOp dMod (dP (dCB fInt (dO1 (dOp dDiv (dP (dOp dMod (dP (dCB fInt (dO1 (dOp dAdd (dP (dOp dMul (dPb (dRd (dIxb (dNm 0) (dC (.int 1)))) (dC (.int 16807)))) (dK (.int 5)))))) (dK (.int 2147483399)))) (dK (.int 3)))))) (dN 1)))))))
def F_order : FD := dFn 3 3 [] ((dSeq (dIfS (dB (dOp dEq (dP (dN 1) (dN 2)))) (dRet (dK (.int 1))) dPass)
    (dRet (dIx (dP (dIx (dP (dN 0) (dCB fMax2 (dO2 (dP (dN 1) (dN 2)))))) (dCB fMin2 (dO2 (dP (dN 1) (dN 2)))))))))
@[simp] theorem le_line {n : Nat} : (n ≤ sizeLine) = (n ≤ 16777216) := rfl
@[simp] theorem lt_line {n : Nat} : (n < sizeLine) = (n < 16777216) := rfl
theorem mulOk_r {i j : Int} (h : j.natAbs < 2 ^ 64) : mulOk i j = true := by
  unfold mulOk
  rw [decide_eq_true h]
  simp
theorem mulOk_l {i j : Int} (h : i.natAbs < 2 ^ 64) : mulOk i j = true := by
  unfold mulOk
  rw [decide_eq_true h]
  simp
/-- the stream of draws -/
abbrev stD (a b : Int) : D := .lst true [.int a, .int b]
theorem next_ok (a b m : Int) (h0 : 0 < m) (h1 : m < 1073741824) : ∃ a' b' v, 0 ≤ v ∧ v < m ∧ F_law_next [stD a b, .int m] = some (.ok (.int v) [some (stD a' b'), some (.int m)]) := by
  have hd : divOk m = true := by
    unfold divOk; simp; omega
  have hm : m ≠ 0 := by omega
  by_cases e : 0 < a
  · refine ⟨a.fdiv m, b, a.fmod m, Int.fmod_nonneg_of_pos _ h0, Int.fmod_lt_of_pos _ h0, ?_⟩
    simp [F_law_next, e, outsOf, List.range, List.range.loop, dCmp, dAt, atI, ixN, fInt, dMod, dDiv, hd, hm]
  · have : ∃ a' b' u, F_law_next [stD a b, .int m] = some (.ok (.int (Int.fmod u m)) [some (stD a' b'), some (.int m)]) := by
      refine ⟨a, Int.fmod (b * 48271 + 12820163) 2147483647, ?_⟩
      simp [F_law_next, e, outsOf, List.range, List.range.loop, dCmp, dAt, atI, ixN, fInt, dMod, dDiv, hd, hm, dMul, mulOk_r, dAdd, dI2, divOk, tt2]
      exact ⟨_, rfl⟩
    obtain ⟨a', b', u, h⟩ := this
    exact ⟨a', b', _, Int.fmod_nonneg_of_pos _ h0, Int.fmod_lt_of_pos _ h0, h⟩
theorem stream_ok (c k : Int) : ∃ a b, F_law_stream [.int c, .int k] = some (.ok (stD a b) [some (.int c), some (.int k)]) := by
  by_cases e : 1000000000000000000 ≤ c
  · refine ⟨c, Int.fmod (c * 48271 + k * 69621 + 77) 2147483647, ?_⟩
    simp [F_law_stream, e, outsOf, List.range, List.range.loop, dCmp, fInt, dMod, dMul, mulOk_r, dAdd, dI2, tt2, dPow]
  · refine ⟨0, Int.fmod (c * 48271 + k * 69621 + 77) 2147483647, ?_⟩
    simp [F_law_stream, e, outsOf, List.range, List.range.loop, dCmp, fInt, dMod, dMul, mulOk_r, dAdd, dI2, tt2, dPow]
/-- the script as it may stand -/
def ScriptD (ns : List Int) (d : D) : Prop := d = .frl (ns.map .int) ∨ d = .lst false (ns.map .int)
theorem ScriptD.sh {ns : List Int} {d : D} (h : ScriptD ns d) : d.sh = true := by rcases h with rfl | rfl <;> simp
theorem ScriptD.len {ns : List Int} {d : D} (h : ScriptD ns d) : fLen [d] = some (.int ns.length) := by rcases h with rfl | rfl <;> simp [fLen]
theorem ScriptD.at {ns : List Int} {d : D} (h : ScriptD ns d) (k : Nat) : dAt d (.int k) = (ns[k]?).map .int := by rcases h with rfl | rfl <;> simp [dAt, atI_n]
theorem cell_ok {ns : List Int} {d : D} (h : ScriptD ns d) (k : Nat) : ∃ c, F_law_cell [d, .int k] = some (.ok (.int c) [some d, some (.int k)]) := by
  by_cases e : k < ns.length
  · refine ⟨ns[k], ?_⟩
    simp [F_law_cell, h.sh, h.len, h.at, e, outsOf, List.range, List.range.loop, dCmp]
  · refine ⟨0, ?_⟩
    simp [F_law_cell, h.sh, h.len, e, outsOf, List.range, List.range.loop, dCmp]
end DL

/-! DLi: loops by an invariant; tables. -/
namespace DL
open PySem PySem.Spec L2

section
variable {g : D → DS → Option DS} {b : DS → Option (Fl × DS)} {tt : DS → Option (Bool × DS)} {e : DS → Option (D × DS)} {vs : List Nat}
theorem loop_ix (I : Nat → DS → Prop) : ∀ (xs : List D) (k : Nat) (ds : DS), I k ds → (∀ n (h : n < xs.length) ds, I (k + n) ds → ∃ ds1 ds2, g xs[n] ds = some ds1 ∧ b ds1 = some (.nx, ds2) ∧ I (k + n + 1) ds2) → ∃ ds', dLoop g b xs ds = some (.nx, ds') ∧ I (k + xs.length) ds'
  | [], k, ds, h, _ => ⟨ds, rfl, h⟩
  | x :: xs, k, ds, h, st => by
    obtain ⟨ds1, ds2, e1, e2, h2⟩ := st 0 (by simp) ds h
    obtain ⟨ds', e3, h3⟩ := loop_ix I xs (k + 1) ds2 h2 fun n hn ds hd => by
      have := st (n + 1) (by simpa using hn) ds (by rw [show k + (n + 1) = k + 1 + n by omega]; exact hd)
      rw [show k + 1 + n + 1 = k + (n + 1) + 1 by omega]
      simpa using this
    refine ⟨ds', ?_, by rw [List.length_cons, show k + (xs.length + 1) = k + 1 + xs.length by omega]; exact h3⟩
    simp only [List.getElem_cons_zero] at e1
    unfold dLoop
    rw [e1]
    show (b ds1).bind _ = _
    rw [e2]
    exact e3
/-- a loop that ends by its list's end -/
theorem loop_inv (I : Nat → DS → Prop) {xs : List D} {ds : DS} (h : I 0 ds) (st : ∀ n (h : n < xs.length) ds, I n ds → ∃ ds1 ds2, g xs[n] ds = some ds1 ∧ b ds1 = some (.nx, ds2) ∧ I (n + 1) ds2) : ∃ ds', dLoop g b xs ds = some (.nx, ds') ∧ I xs.length ds' := by
  have := loop_ix (g := g) (b := b) I xs 0 ds h fun n hn ds hd => by
    rw [Nat.zero_add] at hd ⊢
    exact st n hn ds hd
  simpa using this
/-- the slots at each turn -/
theorem loop_fn (S : Nat → DS) {xs : List D} (st : ∀ n (h : n < xs.length), ∃ ds1, g xs[n] (S n) = some ds1 ∧ b ds1 = some (.nx, S (n + 1))) : dLoop g b xs (S 0) = some (.nx, S xs.length) := by
  obtain ⟨ds', e, h⟩ := loop_inv (g := g) (b := b) (fun n ds => ds = S n) (xs := xs) (ds := S 0) rfl fun n hn ds hd => by
    subst hd
    obtain ⟨ds1, e1, e2⟩ := st n hn
    exact ⟨ds1, _, e1, e2, rfl⟩
  rw [e, h]
theorem lc_ix (I : Nat → List D → DS → Prop) : ∀ (xs : List D) (k : Nat) (acc : List D) (ds : DS), I k acc ds → (∀ n (h : n < xs.length) acc ds, I (k + n) acc ds → ∃ ds1 ds2 c, g xs[n] ds = some ds1 ∧ tt ds1 = some (c, ds2) ∧
      (c = true → ∃ d ds3, e ds2 = some (d, ds3) ∧ acc.length < sizeLine ∧ I (k + n + 1) (acc ++ [d]) (wipeD ds3 vs)) ∧ (c = false → I (k + n + 1) acc (wipeD ds2 vs))) → ∃ r ds', lcLoop vs g tt e xs acc ds = some (r, ds') ∧ I (k + xs.length) r ds'
  | [], k, acc, ds, h, _ => ⟨acc, ds, rfl, h⟩
  | x :: xs, k, acc, ds, h, st => by
    obtain ⟨ds1, ds2, c, e1, e2, h2, h3⟩ := st 0 (by simp) acc ds h
    have rest : ∀ acc' ds', I (k + 1) acc' ds' → ∃ r ds2, lcLoop vs g tt e xs acc' ds' = some (r, ds2) ∧ I (k + (x :: xs).length) r ds2 := fun acc' ds' hI => by
      rw [List.length_cons, show k + (xs.length + 1) = k + 1 + xs.length by omega]
      refine lc_ix I xs (k + 1) acc' ds' hI fun n hn acc ds hd => ?_
      have := st (n + 1) (by simpa using hn) acc ds (by rw [show k + (n + 1) = k + 1 + n by omega]; exact hd)
      rw [show k + 1 + n + 1 = k + (n + 1) + 1 by omega]
      simpa using this
    simp only [List.getElem_cons_zero] at e1
    unfold lcLoop
    rw [e1]
    show ∃ r ds', ((tt ds1).bind _) = some (r, ds') ∧ _
    rw [e2]
    cases c with
    | true =>
      obtain ⟨d, ds3, e3, hl, hI⟩ := h2 rfl
      obtain ⟨r, ds', e4, h4⟩ := rest _ _ hI
      refine ⟨r, ds', ?_, h4⟩
      show (e ds2).bind _ = _
      rw [e3]
      show (if acc.length < sizeLine then _ else none) = _
      rw [if_pos hl]
      exact e4
    | false =>
      obtain ⟨r, ds', e4, h4⟩ := rest _ _ (h3 rfl)
      exact ⟨r, ds', e4, h4⟩
theorem lc_inv (I : Nat → List D → DS → Prop) {xs : List D} {ds : DS} (h : I 0 [] ds) (st : ∀ n (h : n < xs.length) acc ds, I n acc ds → ∃ ds1 ds2 c, g xs[n] ds = some ds1 ∧ tt ds1 = some (c, ds2) ∧
      (c = true → ∃ d ds3, e ds2 = some (d, ds3) ∧ acc.length < sizeLine ∧ I (n + 1) (acc ++ [d]) (wipeD ds3 vs)) ∧ (c = false → I (n + 1) acc (wipeD ds2 vs))) : ∃ r ds', lcLoop vs g tt e xs [] ds = some (r, ds') ∧ I xs.length r ds' := by
  have := lc_ix (g := g) (tt := tt) (e := e) (vs := vs) I xs 0 [] ds h fun n hn acc ds hd => by
    rw [Nat.zero_add] at hd ⊢
    exact st n hn acc ds hd
  simpa using this
theorem lc_go (p : D → Bool) (φ : D → D) {ds : DS} : ∀ (xs acc : List D), (∀ x ∈ xs, ∃ ds1, g x ds = some ds1 ∧ tt ds1 = some (p x, ds1) ∧ (p x = true → e ds1 = some (φ x, ds1)) ∧ wipeD ds1 vs = ds) → acc.length + xs.length ≤ sizeLine →
    lcLoop vs g tt e xs acc ds = some (acc ++ (xs.filter p).map φ, ds)
  | [], acc, _, _ => by unfold lcLoop; simp
  | x :: xs, acc, h, hl => by
    obtain ⟨ds1, e1, e2, e3, e4⟩ := h x (List.mem_cons_self ..)
    rw [List.length_cons] at hl
    have ih := fun acc' => lc_go p φ xs acc' fun y hy => h y (List.mem_cons_of_mem _ hy)
    unfold lcLoop
    rw [e1]
    show ((tt ds1).bind _) = _
    rw [e2]
    cases hp : p x with
    | true =>
      show (e ds1).bind _ = _
      rw [e3 hp]
      show (if acc.length < sizeLine then lcLoop vs g tt e xs (acc ++ [φ x]) (wipeD ds1 vs) else none) = _
      rw [if_pos (by omega), e4, ih _ (by rw [List.length_append, List.length_singleton]; omega)]
      simp [hp]
    | false =>
      show lcLoop vs g tt e xs acc (wipeD ds1 vs) = _
      rw [e4, ih _ (by omega)]
      simp [hp]
/-- a comprehension that changes nothing -/
theorem lc_pure (p : D → Bool) (φ : D → D) {ds : DS} {xs : List D} (h : ∀ x ∈ xs, ∃ ds1, g x ds = some ds1 ∧ tt ds1 = some (p x, ds1) ∧ (p x = true → e ds1 = some (φ x, ds1)) ∧ wipeD ds1 vs = ds) (hl : xs.length ≤ sizeLine) :
    lcLoop vs g tt e xs [] ds = some ((xs.filter p).map φ, ds) := by
  rw [lc_go p φ xs [] h (by simpa using hl)]
  rfl
end
/-! tables -/
abbrev nD (n : Nat) : D := .int (n : Int)
def tI (l : List Int) : D := .tup (l.map .int)
def tT (t : List (List Int)) : D := .tup (t.map tI)
@[simp] theorem tI_sh (l : List Int) : (tI l).sh = true := by unfold tI; simp
@[simp] theorem tT_shL (t : List (List Int)) : shL (t.map tI) = true := shL_all.mpr fun x h => by
  obtain ⟨l, _, rfl⟩ := List.mem_map.mp h
  exact tI_sh l
@[simp] theorem tT_sh (t : List (List Int)) : (tT t).sh = true := by unfold tT; rw [sh_tup]; exact tT_shL t
@[simp] theorem tI_fz (l : List Int) : (tI l).fz = tI l := fz_of_sh _ (tI_sh l)
@[simp] theorem tT_fz (l : List (List Int)) : (tT l).fz = tT l := fz_of_sh _ (tT_sh l)
@[simp] theorem tT_len (t : List (List Int)) : fLen [tT t] = some (.int t.length) := by unfold tT fLen; simp
@[simp] theorem tI_len (t : List Int) : fLen [tI t] = some (.int t.length) := by unfold tI fLen; simp
@[simp] theorem tT_at (t : List (List Int)) (k : Nat) : dAt (tT t) (.int k) = (t[k]?).map tI := by unfold tT; simp [dAt, atI_n]
@[simp] theorem tI_at (t : List Int) (k : Nat) : dAt (tI t) (.int k) = (t[k]?).map .int := by unfold tI; simp [dAt, atI_n]
/-- row k has k entries -/
def okT (t : List (List Int)) : Prop := ∀ k (h : k < t.length), t[k].length = k
def ent (t : List (List Int)) (i j : Nat) : Int := if i = j then 1 else ((t[max i j]?.getD [])[min i j]?).getD 2
theorem ent_at {t : List (List Int)} {i j : Nat} (ht : okT t) (hi : i < t.length) (hj : j < t.length) (e : i ≠ j) : ∃ r, t[max i j]? = some r ∧ r[min i j]? = some (ent t i j) := by
  have hm : max i j < t.length := by omega
  refine ⟨t[max i j], List.getElem?_eq_getElem hm, ?_⟩
  have hl := ht _ hm
  have h2 : min i j < t[max i j].length := by omega
  unfold ent
  rw [if_neg e, List.getElem?_eq_getElem hm, List.getElem?_eq_getElem h2]
  simp only [Option.getD_some]
  rw [List.getElem?_eq_getElem h2]
  rfl
theorem ent_symm (t : List (List Int)) (i j : Nat) : ent t i j = ent t j i := by
  unfold ent
  by_cases e : i = j
  · rw [if_pos e, if_pos e.symm]
  · rw [if_neg e, if_neg (Ne.symm e), Nat.max_comm, Nat.min_comm]
theorem max_nat (i j : Nat) : (if (i : Int) < (j : Int) then (j : Int) else (i : Int)) = ((max i j : Nat) : Int) := by split <;> omega
theorem min_nat (i j : Nat) : (if (j : Int) < (i : Int) then (j : Int) else (i : Int)) = ((min i j : Nat) : Int) := by split <;> omega
@[simp] theorem fMax2_nat (i j : Nat) : fMax2 [nD i, nD j] = some (nD (max i j)) := by unfold fMax2; simp only [max_nat]
@[simp] theorem fMin2_nat (i j : Nat) : fMin2 [nD i, nD j] = some (nD (min i j)) := by unfold fMin2; simp only [min_nat]
theorem order_ok {t : List (List Int)} {i j : Nat} (ht : okT t) (hi : i < t.length) (hj : j < t.length) : F_order [tT t, nD i, nD j] = some (.ok (.int (ent t i j)) [some (tT t), some (nD i), some (nD j)]) := by
  by_cases e : i = j
  · subst e
    simp [F_order, dEq, okE, eqvD, outsOf, List.range, List.range.loop, ent]
  · obtain ⟨r, h1, h2⟩ := ent_at ht hi hj e
    have e' : ¬ (i : Int) = j := by omega
    simp [F_order, e', dEq, okE, eqvD, outsOf, List.range, List.range.loop, h1, h2]
end DL

/-! DLj: lists of numbers; while. -/
namespace DL
open PySem PySem.Spec L2

theorem bind_to {α β : Type} {x : Option α} {k : α → Option β} {r : Option β} {P : α → Prop} (h : ∃ a, x = some a ∧ P a) (h2 : ∀ a, P a → k a = r) : x.bind k = r := by
  obtain ⟨a, rfl, hp⟩ := h
  exact h2 a hp
theorem bind_ex {α β : Type} {x : Option α} {k : α → Option β} {P : α → Prop} {Q : β → Prop} (h : ∃ a, x = some a ∧ P a) (h2 : ∀ a, P a → ∃ b, k a = some b ∧ Q b) : ∃ b, x.bind k = some b ∧ Q b := by
  obtain ⟨a, rfl, hp⟩ := h
  exact h2 a hp
theorem bind_res {α β γ : Type} {x : Option α} {k : α → Option β} {P : α → Prop} {R : γ → Prop} {res : γ → Option β} (h : ∃ a, x = some a ∧ P a) (h2 : ∀ a, P a → ∃ c, R c ∧ k a = res c) : ∃ c, R c ∧ x.bind k = res c := by
  obtain ⟨a, rfl, hp⟩ := h
  exact h2 a hp
theorem run_res {β γ : Type} {x : Option (Fl × DS)} {k : Fl × DS → Option β} {P : DS → Prop} {R : γ → Prop} {res : γ → Option β} (h : ∃ ds, x = some (.nx, ds) ∧ P ds) (h2 : ∀ ds, P ds → ∃ c, R c ∧ k (.nx, ds) = res c) : ∃ c, R c ∧ x.bind k = res c := by
  obtain ⟨a, rfl, hp⟩ := h
  exact h2 a hp
theorem run_one {β γ : Type} {x : Option (Fl × DS)} {k : Fl × DS → Option β} {P : DS → Prop} {res : γ → Option β} (h : ∃ ds, x = some (.nx, ds) ∧ P ds) (h2 : ∀ ds, P ds → ∃ c, k (.nx, ds) = res c) : ∃ c, x.bind k = res c := by
  obtain ⟨a, rfl, hp⟩ := h
  exact h2 a hp
theorem run_to {β : Type} {x : Option (Fl × DS)} {k : Fl × DS → Option β} {P : DS → Prop} {r : Option β} (h : ∃ ds, x = some (.nx, ds) ∧ P ds) (h2 : ∀ ds, P ds → k (.nx, ds) = r) : x.bind k = r := by
  obtain ⟨a, rfl, hp⟩ := h
  exact h2 a hp
theorem run_ex {β : Type} {x : Option (Fl × DS)} {k : Fl × DS → Option β} {P : DS → Prop} {Q : β → Prop} (h : ∃ ds, x = some (.nx, ds) ∧ P ds) (h2 : ∀ ds, P ds → ∃ b, k (.nx, ds) = some b ∧ Q b) : ∃ b, x.bind k = some b ∧ Q b := by
  obtain ⟨a, rfl, hp⟩ := h
  exact h2 a hp
section
variable {g : D → DS → Option DS} {b : DS → Option (Fl × DS)} {t tt : DS → Option (Bool × DS)} {e : DS → Option (D × DS)} {vs : List Nat}
theorem while_inv (I : Nat → DS → Prop) (P : DS → Prop) : ∀ {fuel k : Nat} {ds : DS}, I k ds → k < fuel → (∀ k ds, I k ds → ∃ c ds1, t ds = some (c, ds1) ∧ (c = false → P ds1) ∧ (c = true → ∃ ds2 k', b ds1 = some (.nx, ds2) ∧ k' < k ∧ I k' ds2)) → ∃ ds', dWh t b fuel ds = some (.nx, ds') ∧ P ds'
  | 0, k, ds, _, h, _ => absurd h (Nat.not_lt_zero _)
  | n + 1, k, ds, h, hk, st => by
    obtain ⟨c, ds1, e1, hf, ht⟩ := st k ds h
    unfold dWh
    rw [e1]
    cases c with
    | false => exact ⟨ds1, rfl, hf rfl⟩
    | true =>
      obtain ⟨ds2, k', e2, hl, h2⟩ := ht rfl
      obtain ⟨ds', e3, h3⟩ := while_inv I P (fuel := n) h2 (by omega) st
      refine ⟨ds', ?_, h3⟩
      show (b ds1).bind _ = _
      rw [e2]
      exact e3
/-- numbers as items -/
def lN (l : List Nat) : List D := l.map fun n => nD n
@[simp] theorem lN_len (l : List Nat) : (lN l).length = l.length := by simp [lN]
@[simp] theorem lN_shL (l : List Nat) : shL (lN l) = true := shL_all.mpr fun x h => by
  obtain ⟨n, _, rfl⟩ := List.mem_map.mp h
  rfl
@[simp] theorem lN_fzL (l : List Nat) : fzL (lN l) = lN l := fzL_of_sh _ (lN_shL l)
@[simp] theorem lN_get (l : List Nat) (k : Nat) : (lN l)[k]? = (l[k]?).map fun n => nD n := by simp [lN]
theorem lN_getE (l : List Nat) (k : Nat) (h : k < (lN l).length) : (lN l)[k] = nD (l[k]'(by simpa using h)) := by simp [lN]
@[simp] theorem lN_app (l m : List Nat) : lN l ++ lN m = lN (l ++ m) := by simp [lN]
@[simp] theorem dAt_lN (m : Bool) (l : List Nat) (k : Nat) : dAt (.lst m (lN l)) (.int (k : Int)) = (l[k]?).map fun n => nD n := by simp [dAt, atI_n]
@[simp] theorem dAt_tN (l : List Nat) (k : Nat) : dAt (.tup (lN l)) (.int (k : Int)) = (l[k]?).map fun n => nD n := by simp [dAt, atI_n]
theorem lN_one (n : Nat) : [nD n] = lN [n] := rfl
@[simp] theorem lN_snoc (l : List Nat) (n : Nat) : lN l ++ [D.int (n : Int)] = lN (l ++ [n]) := by simp [lN]
@[simp] theorem lN_okEL (k : Nat) : ∀ l : List Nat, okEL k (lN l) = true
  | [] => by simp [lN, okEL]
  | n :: l => by
    have := lN_okEL k l
    simp only [lN] at this
    simp [lN, okEL, okE, this]
@[simp] theorem lN_flat (l : List Nat) : (lN l).all flatD = true := by simp [lN, flatD]
theorem lN_inL (n : Nat) (l : List Nat) : inL (nD n) (lN l) = decide (n ∈ l) := by
  unfold inL lN
  rw [List.any_map]
  induction l with
  | nil => rfl
  | cons x l ih =>
    rw [List.any_cons, ih]
    by_cases h : x = n
    · subst h; simp [eqvD]
    · have h2 : ¬ (x : Int) = n := by omega
      simp [eqvD, h2, Ne.symm h, List.mem_cons]
theorem lN_eqv : ∀ l m : List Nat, eqvDL (lN l) (lN m) = decide (l = m)
  | [], [] => rfl
  | [], _ :: _ => rfl
  | _ :: _, [] => rfl
  | x :: l, y :: m => by
    have := lN_eqv l m
    simp only [lN] at this
    simp only [lN, List.map_cons, eqvDL, eqvD, this]
    by_cases h : x = y
    · subst h; simp
    · have h2 : ¬ (x : Int) = y := by omega
      simp [h, h2]
theorem lN_ints (l : List Nat) : intsD (lN l) = some (l.map Int.ofNat) := by
  induction l with
  | nil => rfl
  | cons x l ih =>
    simp only [lN, List.map_cons] at ih ⊢
    simp only [intsD, ih]
    rfl
theorem lN_of (l : List Nat) : (l.map Int.ofNat).map D.int = lN l := by simp [lN]
theorem range_lN (n : Nat) : rangeD 0 n = lN (List.range n) := by
  unfold rangeD lN
  simp
@[simp] theorem i62_nat (n : Nat) (h : n ≤ 100000) : i62 (n : Int) = true := by
  unfold i62
  rw [decide_eq_true_eq]
  omega
/-- a comprehension that changes nothing -/
theorem lc_map {α : Type} (hh : α → D) (p : α → Bool) (φ : α → D) {ds : DS} {ms : List α} (h : ∀ n ∈ ms, ∃ ds1, g (hh n) ds = some ds1 ∧ tt ds1 = some (p n, ds1) ∧ (p n = true → e ds1 = some (φ n, ds1)) ∧ wipeD ds1 vs = ds) (hl : ms.length ≤ sizeLine) :
    lcLoop vs g tt e (ms.map hh) [] ds = some ((ms.filter p).map φ, ds) := by
  have gen : ∀ (l : List α) (acc : List D), (∀ n ∈ l, n ∈ ms) → acc.length + l.length ≤ sizeLine → lcLoop vs g tt e (l.map hh) acc ds = some (acc ++ (l.filter p).map φ, ds) := by
    intro l
    induction l with
    | nil => intro acc _ _; unfold lcLoop; simp
    | cons x l ih =>
      intro acc hm hl
      obtain ⟨ds1, e1, e2, e3, e4⟩ := h x (hm x (List.mem_cons_self ..))
      rw [List.length_cons] at hl
      have ih := fun acc' => ih acc' fun y hy => hm y (List.mem_cons_of_mem _ hy)
      show lcLoop vs g tt e (hh x :: l.map hh) acc ds = _
      unfold lcLoop
      rw [e1]
      show ((tt ds1).bind _) = _
      rw [e2]
      cases hp : p x with
      | true =>
        show (e ds1).bind _ = _
        rw [e3 hp]
        show (if acc.length < sizeLine then lcLoop vs g tt e (l.map hh) (acc ++ [φ x]) (wipeD ds1 vs) else none) = _
        rw [if_pos (by omega), e4, ih _ (by rw [List.length_append, List.length_singleton]; omega)]
        simp [hp]
      | false =>
        show lcLoop vs g tt e (l.map hh) acc (wipeD ds1 vs) = _
        rw [e4, ih _ (by omega)]
        simp [hp]
  have := gen ms [] (fun _ h => h) (by simpa using hl)
  simpa using this
theorem lc_mapY {α : Type} (hh : α → D) (φ : α → D) {ds : DS} {ms : List α} (h : ∀ n ∈ ms, ∃ ds1, g (hh n) ds = some ds1 ∧ e ds1 = some (φ n, ds1) ∧ wipeD ds1 vs = ds) (hl : ms.length ≤ sizeLine) :
    lcLoop vs g dYes e (ms.map hh) [] ds = some (ms.map φ, ds) := by
  rw [lc_map hh (fun _ => true) φ (fun n hn => ?_) hl, List.filter_eq_self.mpr fun _ _ => rfl]
  obtain ⟨ds1, e1, e2, e3⟩ := h n hn
  exact ⟨ds1, e1, rfl, fun _ => e2, e3⟩
theorem lc_nat (p : Nat → Bool) (φ : Nat → D) {ds : DS} {ms : List Nat} (h : ∀ n ∈ ms, ∃ ds1, g (nD n) ds = some ds1 ∧ tt ds1 = some (p n, ds1) ∧ (p n = true → e ds1 = some (φ n, ds1)) ∧ wipeD ds1 vs = ds) (hl : ms.length ≤ sizeLine) :
    lcLoop vs g tt e (lN ms) [] ds = some ((ms.filter p).map φ, ds) := lc_map (fun n => nD n) p φ h hl
theorem lc_natN (p : Nat → Bool) {ds : DS} {ms : List Nat} (h : ∀ n ∈ ms, ∃ ds1, g (nD n) ds = some ds1 ∧ tt ds1 = some (p n, ds1) ∧ (p n = true → e ds1 = some (nD n, ds1)) ∧ wipeD ds1 vs = ds) (hl : ms.length ≤ sizeLine) :
    lcLoop vs g tt e (lN ms) [] ds = some (lN (ms.filter p), ds) := lc_nat p (fun n => nD n) h hl
theorem shL_map {α : Type} {hh : α → D} {l : List α} (h : ∀ x ∈ l, (hh x).sh = true) : shL (l.map hh) = true := shL_all.mpr fun d hd => by
  obtain ⟨x, hx, rfl⟩ := List.mem_map.mp hd
  exact h x hx
theorem fzL_map {α : Type} (hh : α → D) (l : List α) : fzL (l.map hh) = l.map fun x => (hh x).fz := by
  induction l with
  | nil => simp
  | cons x l ih => simp [ih]
theorem nfL_map {α : Type} {hh : α → D} {l : List α} (h : ∀ x ∈ l, (hh x).nf = true) : nfL (l.map hh) = true := by
  induction l with
  | nil => rfl
  | cons x l ih =>
    show ((hh x).nf && nfL (l.map hh)) = true
    rw [h x (List.mem_cons_self ..), ih fun y hy => h y (List.mem_cons_of_mem _ hy)]
    rfl
theorem okEL_map {α : Type} {hh : α → D} {l : List α} {k : Nat} (h : ∀ x ∈ l, okE k (hh x) = true) : okEL k (l.map hh) = true := by
  induction l with
  | nil => simp [okEL]
  | cons x l ih =>
    rw [List.map_cons, okEL, h x (List.mem_cons_self ..), ih fun y hy => h y (List.mem_cons_of_mem _ hy)]
    rfl
theorem eqvDL_map {α : Type} {hh kk : α → D} {l : List α} (h : ∀ x ∈ l, eqvD (hh x) (kk x) = true) : eqvDL (l.map hh) (l.map kk) = true := by
  induction l with
  | nil => rfl
  | cons x l ih =>
    rw [List.map_cons, List.map_cons, eqvDL, h x (List.mem_cons_self ..), ih fun y hy => h y (List.mem_cons_of_mem _ hy)]
    rfl
theorem bools_map {α : Type} (p : α → Bool) (l : List α) : boolsD (l.map fun x => .bl (p x)) = some (l.map p) := by
  induction l with
  | nil => rfl
  | cons x l ih => simp [boolsD, ih]
/-- a loop over numbers -/
theorem loop_nat (I : Nat → DS → Prop) {ms : List Nat} {ds : DS} (h : I 0 ds) (st : ∀ n (h : n < ms.length) ds, I n ds → ∃ ds1 ds2, g (nD ms[n]) ds = some ds1 ∧ b ds1 = some (.nx, ds2) ∧ I (n + 1) ds2) : ∃ ds', dLoop g b (lN ms) ds = some (.nx, ds') ∧ I ms.length ds' := by
  have := loop_inv (g := g) (b := b) I (xs := lN ms) h fun n hn ds hd => by
    rw [lN_getE]
    exact st n (by simpa using hn) ds hd
  simpa using this
theorem ex_and {A : Prop} {x : Option (Fl × DS)} {P : DS → Prop} (a : A) (h : ∃ ds, x = some (.nx, ds) ∧ P ds) : ∃ ds, A ∧ x = some (.nx, ds) ∧ P ds := let ⟨ds, e, p⟩ := h; ⟨ds, a, e, p⟩
theorem for_nat {it : DS → Option (List D × DS)} {ms : List Nat} {ds ds0 : DS} {I : Nat → DS → Prop} {Q : DS → Prop} (h : it ds = some (lN ms, ds0)) (hI : I 0 ds0) (st : ∀ n (h : n < ms.length) ds, I n ds → ∃ ds1 ds2, g (nD ms[n]) ds = some ds1 ∧ b ds1 = some (.nx, ds2) ∧ I (n + 1) ds2) (hQ : ∀ ds, I ms.length ds → Q ds) :
    ∃ ds', dFor it g b ds = some (.nx, ds') ∧ Q ds' := by
  obtain ⟨ds', e, h2⟩ := loop_nat (g := g) (b := b) I hI st
  refine ⟨ds', ?_, hQ _ h2⟩
  rw [ev_for, h]
  exact e
end
@[simp] theorem nat_beq (a b : Nat) : ((a : Int) == (b : Int)) = (a == b) := by
  rw [Bool.eq_iff_iff]
  simp
  omega
end DL

namespace K
open PySem L2 DL
def top (i : Nat) : Stmt := PySem.Challenge.pw_fewestmirrors_k25_pieces_of_tables.main.body.getD i (.Pass ⟨0, 0, 0, 0⟩)
structure Txt (K : PySem.W.Frag) (mg : Str → Option Value) : Prop where
  any : mg "any" = none
  int : mg "int" = none
  isinstance : mg "isinstance" = none
  len : mg "len" = none
  list : mg "list" = none
  max : mg "max" = none
  min : mg "min" = none
  range : mg "range" = none
  sorted : mg "sorted" = none
  tuple : mg "tuple" = none
section
variable {P : Program} {w : World} {K : PySem.W.Frag} {mg : Str → Option Value} {base : Heap}
abbrev s_order : Stmt := top 1
theorem sc_order : FnScope ["table", "one", "other"] ["table", "one", "other"] (defScope s_order) := ⟨rfl, rfl, rfl, by decide +kernel, rfl, by decide +kernel, by decide +kernel⟩
theorem ok_order {f : Addr} {fd : FuncData} (A : At K mg "order" "order" s_order ["table", "one", "other"] f fd) (T : Txt K mg) : Has P w K mg base "order" 1 3 F_order :=
  has_mk A sc_order fun cdv A outer s H E hr => by
    have nd := sc_order.nd
    have hu := hr.units
    have hu1 : _ + 65 < cLine := hu_65 hr
    exact (dd_cons (d_if (t_cmp (o_eq hu) (p2_dd (e_nm 1) (PEd.o (e_nm 2)))) (dd_one (d_ret e_int)) dd_nil)
    (dd_one (d_ret (e_ix (p2_dd (e_ix (p2_dd (e_nm 0) (PEd.o (e_callB c_max2 T.max (a_o2 (p2_dd (e_nm 1) (PEd.o (e_nm 2)))))))) (PEd.o (e_callB c_min2 T.min (a_o2 (p2_dd (e_nm 1) (PEd.o (e_nm 2)))))))))))
abbrev s_law_cell : Stmt := top 7
theorem sc_law_cell : FnScope ["script", "k"] ["script", "k"] (defScope s_law_cell) := ⟨rfl, rfl, rfl, by decide +kernel, rfl, by decide +kernel, by decide +kernel⟩
theorem ok_law_cell {f : Addr} {fd : FuncData} (A : At K mg "_law_cell" "_law_cell" s_law_cell ["script", "k"] f fd) (T : Txt K mg) : Has P w K mg base "_law_cell" 1 2 F_law_cell :=
  has_mk A sc_law_cell fun cdv A outer s H E hr => by
    have nd := sc_law_cell.nd
    have hu := hr.units
    have hu1 : _ + 65 < cLine := hu_65 hr
    exact (dd_cons (d_if (t_cmp (o_lt0) (p2_dd (e_nm 1) (PEd.o (e_callB c_len T.len (a_o1 (PEd.o (e_nm 0))))))) (dd_one (d_ret (e_ix (p2_dd (e_nm 0) (PEd.o (e_nm 1)))))) dd_nil)
    (dd_one (d_ret e_int)))
abbrev s_law_stream : Stmt := top 8
theorem sc_law_stream : FnScope ["cell", "k", "digits"] ["cell", "k"] (defScope s_law_stream) := ⟨rfl, rfl, rfl, by decide +kernel, rfl, by decide +kernel, by decide +kernel⟩
theorem ok_law_stream {f : Addr} {fd : FuncData} (A : At K mg "_law_stream" "_law_stream" s_law_stream ["cell", "k"] f fd) (T : Txt K mg) : Has P w K mg base "_law_stream" 1 2 F_law_stream :=
  has_mk A sc_law_stream fun cdv A outer s H E hr => by
    have nd := sc_law_stream.nd
    have hu := hr.units
    have hu1 : _ + 65 < cLine := hu_65 hr
    exact (dd_cons (d_set 2 nd e_int)
    (dd_cons (d_if (t_cmp (o_ge) (p2_dd (e_nm 0) (PEd.o (e_bin o_pow (p2_dd e_int (PEd.o e_int)))))) (dd_one (d_set 2 nd (e_nm 0))) dd_nil)
    (dd_one (d_ret (e_lst (a_cons (e_nm 2) (a_cons (e_bin o_mod (p2_dd (e_callT c_int T.int (a_o1 (PEd.o (e_bin o_add (p2_dd (e_bin o_add (p2_dd (e_bin o_mul (p2_dd (e_nm 0) (PEd.o e_int))) (PEd.o (e_bin o_mul (p2_dd (e_nm 1) (PEd.o e_int)))))) (PEd.o e_int)))))) (PEd.o e_int))) a_nil)))))))
abbrev s_law_next : Stmt := top 9
theorem sc_law_next : FnScope ["stream", "many", "drawn"] ["stream", "many"] (defScope s_law_next) := ⟨rfl, rfl, rfl, by decide +kernel, rfl, by decide +kernel, by decide +kernel⟩
theorem ok_law_next {f : Addr} {fd : FuncData} (A : At K mg "_law_next" "_law_next" s_law_next ["stream", "many"] f fd) (T : Txt K mg) : Has P w K mg base "_law_next" 1 2 F_law_next :=
  has_mk A sc_law_next fun cdv A outer s H E hr => by
    have nd := sc_law_next.nd
    have hu := hr.units
    have hu1 : _ + 65 < cLine := hu_65 hr
    exact (dd_cons (d_if (t_cmp (o_gt) (p2_ob (PEb.o (b_ix (b_nm 0) b_int)) b_int)) (dd_cons (d_set 2 nd (e_bin o_mod (p2_dd (e_callT c_int T.int (a_o1 (PEb.o (b_ix (b_nm 0) b_int)))) (PEd.o (e_nm 1)))))
    (dd_cons (d_setix 0 (e_bin o_div (p2_ob (PEb.o (b_ix (b_nm 0) b_int)) (b_nm 1))) e_int)
    (dd_one (d_ret (e_nm 2))))) dd_nil)
    (dd_cons (d_setix 0 (e_bin o_mod (p2_dd (e_callT c_int T.int (a_o1 (PEd.o (e_bin o_add (p2_dd (e_bin o_mul (p2_ob (PEb.o (b_ix (b_nm 0) b_int)) b_int)) (PEd.o e_int)))))) (PEd.o e_int))) e_int)
    (dd_one (d_ret (e_bin o_mod (p2_dd (e_callT c_int T.int (a_o1 (PEd.o (e_bin o_div (p2_dd (e_bin o_mod (p2_dd (e_callT c_int T.int (a_o1 (PEd.o (e_bin o_add (p2_dd (e_bin o_mul (p2_ob (PEb.o (b_ix (b_nm 0) b_int)) b_int)) (PEd.o e_int)))))) (PEd.o e_int))) (PEd.o e_int)))))) (PEd.o (e_nm 1))))))))
abbrev s_law_order : Stmt := top 10
theorem sc_law_order : FnScope ["table", "one", "two"] ["table", "one", "two"] (defScope s_law_order) := ⟨rfl, rfl, rfl, by decide +kernel, rfl, by decide +kernel, by decide +kernel⟩
def F_law_order : FD := dFn 3 3 [] ((dSeq (dIfS (dB (dOp dEq (dP (dN 1) (dN 2)))) (dRet (dK (.int 1))) dPass)
    (dRet (dIx (dP (dIx (dP (dN 0) (dCB fMax2 (dO2 (dP (dN 1) (dN 2)))))) (dCB fMin2 (dO2 (dP (dN 1) (dN 2)))))))))
theorem ok_law_order {f : Addr} {fd : FuncData} (A : At K mg "_law_order" "_law_order" s_law_order ["table", "one", "two"] f fd) (T : Txt K mg) : Has P w K mg base "_law_order" 1 3 F_law_order :=
  has_mk A sc_law_order fun cdv A outer s H E hr => by
    have nd := sc_law_order.nd
    have hu := hr.units
    have hu1 : _ + 65 < cLine := hu_65 hr
    exact (dd_cons (d_if (t_cmp (o_eq hu) (p2_dd (e_nm 1) (PEd.o (e_nm 2)))) (dd_one (d_ret e_int)) dd_nil)
    (dd_one (d_ret (e_ix (p2_dd (e_ix (p2_dd (e_nm 0) (PEd.o (e_callB c_max2 T.max (a_o2 (p2_dd (e_nm 1) (PEd.o (e_nm 2)))))))) (PEd.o (e_callB c_min2 T.min (a_o2 (p2_dd (e_nm 1) (PEd.o (e_nm 2)))))))))))
abbrev s_joined : Stmt := top 3
theorem sc_joined : FnScope ["table", "one", "other"] ["table", "one", "other"] (defScope s_joined) := ⟨rfl, rfl, rfl, by decide +kernel, rfl, by decide +kernel, by decide +kernel⟩
def F_joined : FD := dFn 3 3 [] ((dRet (dAndV (dOp dNe (dP (dN 1) (dN 2))) (dOp dNe (dP (dCall 3 F_order (cAt (dN 0) (cAt (dN 1) (cAt (dN 2) cA0)))) (dK (.int 2)))))))
theorem ok_joined {f : Addr} {fd : FuncData} (A : At K mg "joined" "joined" s_joined ["table", "one", "other"] f fd) (T : Txt K mg) (h_order : Has P w K mg base "order" 1 3 F_order) : Has P w K mg base "joined" 2 3 F_joined :=
  has_mk A sc_joined fun cdv A outer s H E hr => by
    have nd := sc_joined.nd
    have hu := hr.units
    have hu1 : _ + 65 < cLine := hu_65 hr
    exact (dd_one (d_ret (e_and (e_cmp (o_ne hu) (p2_dd (e_nm 1) (PEd.o (e_nm 2)))) (e_one (e_cmp (o_ne hu) (p2_dd (e_f h_order hr (c_tmp (e_nm 0) (c_tmp (e_nm 1) (c_tmp (e_nm 2) c_nil)))) (PEd.o e_int)))))))
abbrev s_law_sparse : Stmt := top 11
theorem sc_law_sparse : FnScope ["stream", "rows", "place", "k"] ["stream"] (defScope s_law_sparse) := ⟨rfl, rfl, rfl, by decide +kernel, rfl, by decide +kernel, by decide +kernel⟩
def F_law_sparse : FD := dFn 4 1 [1, 2] ((dSeq (dAsg (dLst dA0) (gNm 1))
    (dSeq (dFor (dRg1 (dO1 (dOp dAdd (dP (dK (.int 1)) (dCall 2 F_law_next (cAn 0 (cAt (dK (.int 6)) cA0))))))) (gNm 2) (dDrop (dApp 1 (dCB fTuple (dO1 (dLc [3] (dRg1 (dO1 (dN 2))) (gNm 3) dYes (dIx (dP (dTup (dA1 (dK (.int 2)) (dA1 (dK (.int 2)) (dA1 (dK (.int 2)) (dA1 (dK (.int 3)) (dA1 (dK (.int 4)) (dA1 (dK (.int 6)) (dA1 (dK (.int 0)) (dA1 (dK (.int 2)) dA0))))))))) (dCall 2 F_law_next (cAn 0 (cAt (dK (.int 8)) cA0)))))))))))
    (dRet (dCB fTuple (dO1 (dRd (dNm 1))))))))
theorem ok_law_sparse {f : Addr} {fd : FuncData} (A : At K mg "_law_sparse" "_law_sparse" s_law_sparse ["stream"] f fd) (T : Txt K mg) (h_law_next : Has P w K mg base "_law_next" 1 2 F_law_next) : Has P w K mg base "_law_sparse" 2 1 F_law_sparse :=
  has_mk A sc_law_sparse fun cdv A outer s H E hr => by
    have nd := sc_law_sparse.nd
    have hu := hr.units
    have hu1 : _ + 65 < cLine := hu_65 hr
    exact (dd_cons (d_set 1 nd (e_lst a_nil))
    (dd_cons (d_for PassesOwn.never rfl (i_range1 T.range (a_o1 (PEd.o (e_bin o_add (p2_dd e_int (PEd.o (e_f h_law_next hr (c_nm 0 (c_tmp e_int c_nil))))))))) (g_nm 2 nd) (dd_one (d_expr (e_append 1 (e_callT c_tuple T.tuple (a_o1 (PEd.o (e_lc [("k", 3)] rfl nd (i_range1 T.range (a_o1 (PEd.o (e_nm 2)))) (blkOk_by (by with_unfolding_all rfl)) (fun _ => (g_nm 3 nd)) (fun _ => q_nil) (fun _ => (e_ix (p2_dd (e_tup (a_cons e_int (a_cons e_int (a_cons e_int (a_cons e_int (a_cons e_int (a_cons e_int (a_cons e_int (a_cons e_int a_nil))))))))) (PEd.o (e_f h_law_next hr (c_nm 0 (c_tmp e_int c_nil)))))))))))))))
    (dd_one (d_ret (e_callT c_tuple T.tuple (a_o1 (PEb.o (b_nm 1))))))))
abbrev s_law_due : Stmt := top 12
theorem sc_law_due : FnScope ["table", "mirrors", "marks", "mirror", "again", "one", "two", "low", "found", "other"] ["table", "mirrors"] (defScope s_law_due) := ⟨rfl, rfl, rfl, by decide +kernel, rfl, by decide +kernel, by decide +kernel⟩
def F_law_due : FD := dFn 10 2 [2, 3, 4, 5, 6, 7, 8, 3] ((dSeq (dAsg (dK (.dct true .flat [] [])) (gNm 2))
    (dSeq (dFor (dIt (dFr 1)) (gNm 3) (dDput 2 (dN 3) (dN 3)))
    (dSeq (dFor (dRg1 (dO1 (dK (.int 6)))) (gNm 4) (dFor (dIt (dFr 1)) (gNm 5) (dFor (dIt (dFr 1)) (gNm 6) (dIfS (dAnd (dB (dOp dNe (dP (dN 5) (dN 6)))) (dB (dOp dNe (dP (dCall 3 F_law_order (cAt (dN 0) (cAt (dN 5) (cAt (dN 6) cA0)))) (dK (.int 2)))))) (dSeq (dAsg (dCB fMin2 (dO2 (dPb (dRd (dDgetb (dNm 2) (dNm 5))) (dDgetb (dNm 2) (dNm 6))))) (gNm 7))
    (dSeq (dDput 2 (dN 7) (dN 5))
    (dDput 2 (dN 7) (dN 6)))) dPass))))
    (dSeq (dAsg (dLst dA0) (gNm 8))
    (dSeq (dFor (dIt (dFr 1)) (gNm 3) (dIfS (dB (dOp dEq (dPb (dRd (dDgetb (dNm 2) (dNm 3))) (dNm 3)))) (dDrop (dApp 8 (dFz (dLc [9] (dIt (dFr 1)) (gNm 9) (dB (dOp dEq (dPb (dRd (dDgetb (dNm 2) (dNm 9))) (dNm 3)))) (dN 9))))) dPass))
    (dRet (dMv 8))))))))
theorem ok_law_due {f : Addr} {fd : FuncData} (A : At K mg "_law_due" "_law_due" s_law_due ["table", "mirrors"] f fd) (T : Txt K mg) (h_law_order : Has P w K mg base "_law_order" 1 3 F_law_order) : Has P w K mg base "_law_due" 2 2 F_law_due :=
  has_mk A sc_law_due fun cdv A outer s H E hr => by
    have nd := sc_law_due.nd
    have hu := hr.units
    have hu1 : _ + 65 < cLine := hu_65 hr
    exact (dd_cons (d_set 2 nd e_dnewK)
    (dd_cons (d_for PassesOwn.never rfl (i_seq (e_fr 1)) (g_nm 3 nd) (dd_one (d_dput 2 hu (e_nm 3) (e_nm 3))))
    (dd_cons (d_for PassesOwn.never rfl (i_range1 T.range (a_o1 (PEd.o e_int))) (g_nm 4 nd) (dd_one (d_for PassesOwn.never rfl (i_seq (e_fr 1)) (g_nm 5 nd) (dd_one (d_for PassesOwn.never rfl (i_seq (e_fr 1)) (g_nm 6 nd) (dd_one (d_if (PWd.t (w_and (t_cmp (o_ne hu) (p2_dd (e_nm 5) (PEd.o (e_nm 6)))) (w_and1 (t_cmp (o_ne hu) (p2_dd (e_f h_law_order hr (c_tmp (e_nm 0) (c_tmp (e_nm 5) (c_tmp (e_nm 6) c_nil)))) (PEd.o e_int)))))) (dd_cons (d_set 7 nd (e_callB c_min2 T.min (a_o2 (p2_ob (PEb.o (b_dget hu (b_nm 2) (b_nm 5))) (b_dget hu (b_nm 2) (b_nm 6))))))
    (dd_cons (d_dput 2 hu (e_nm 7) (e_nm 5))
    (dd_one (d_dput 2 hu (e_nm 7) (e_nm 6))))) dd_nil)))))))
    (dd_cons (d_set 8 nd (e_lst a_nil))
    (dd_cons (d_for PassesOwn.never rfl (i_seq (e_fr 1)) (g_nm 3 nd) (dd_one (d_if (t_cmp (o_eq hu) (p2_ob (PEb.o (b_dget hu (b_nm 2) (b_nm 3))) (b_nm 3))) (dd_one (d_expr (e_append 8 (PEd.fz (e_lc [("other", 9)] rfl nd (i_seq (e_fr 1)) (blkOk_by (by with_unfolding_all rfl)) (fun _ => (g_nm 9 nd)) (fun _ => (q_one (t_cmp (o_eq hu) (p2_ob (PEb.o (b_dget hu (b_nm 2) (b_nm 9))) (b_nm 3))))) (fun _ => (e_nm 9))))))) dd_nil)))
    (dd_one (d_ret (e_mv 8))))))))
abbrev s_piece_of : Stmt := top 4
theorem sc_piece_of : FnScope ["table", "mirror", "mirrors", "found", "place", "near", "other"] ["table", "mirror", "mirrors"] (defScope s_piece_of) := ⟨rfl, rfl, rfl, by decide +kernel, rfl, by decide +kernel, by decide +kernel⟩
def F_piece_of : FD := dFn 7 3 [3, 4, 5, 4] ((dSeq (dAsg (dLst (dA1 (dN 1) dA0)) (gNm 3))
    (dSeq (dAsg (dK (.int 0)) (gNm 4))
    (dSeq (dWhile (fun _ => 1000) (dB (dOp dLt (dP (dN 4) (dCB fLen (dO1 (dRd (dNm 3))))))) (dSeq (dAsg (dLc [6] (dIt (dFr 2)) (gNm 6) (dAnd (dB (dCall 3 F_joined (cAt (dN 0) (cAt (dIx (dPb (dRd (dNm 3)) (dNm 4))) (cAt (dN 6) cA0))))) (dB (dOp dNin (dP (dN 6) (dRd (dNm 3)))))) (dN 6)) (gNm 5))
    (dSeq (dDrop (dExt 3 (dRd (dNm 5))))
    (dAug 4 (fun i j => i + j) (dK (.int 1))))))
    (dRet (dCB fSorted (dO1 (dRd (dNm 3)))))))))
theorem ok_piece_of {f : Addr} {fd : FuncData} (A : At K mg "piece_of" "piece_of" s_piece_of ["table", "mirror", "mirrors"] f fd) (T : Txt K mg) (h_joined : Has P w K mg base "joined" 2 3 F_joined) : Has P w K mg base "piece_of" 3 3 F_piece_of :=
  has_mk A sc_piece_of fun cdv A outer s H E hr => by
    have nd := sc_piece_of.nd
    have hu := hr.units
    have hu1 : _ + 65 < cLine := hu_65 hr
    exact (dd_cons (d_set 3 nd (e_lst (a_cons (e_nm 1) a_nil)))
    (dd_cons (d_set 4 nd e_int)
    (dd_cons (d_while (fun _ => 1000) PassesOwn.never (t_cmp (o_lt0) (p2_dd (e_nm 4) (PEd.o (e_callB c_len T.len (a_o1 (PEb.o (b_nm 3))))))) (dd_cons (d_lc 5 [("other", 6)] rfl nd (i_seq (e_fr 2)) (blkOk_by (by with_unfolding_all rfl)) (fun _ => (g_nm 6 nd)) (fun _ => (q_one (PWd.t (w_and (t_val (e_f h_joined hr (c_tmp (e_nm 0) (c_tmp (e_ix (p2_ob (PEb.o (b_nm 3)) (b_nm 4))) (c_tmp (e_nm 6) c_nil))))) (w_and1 (t_cmp (o_nin hu1) (p2_dd (e_nm 6) (PEb.o (b_nm 3))))))))) (fun _ => (e_nm 6)) (sw_true rfl rfl rfl (by decide +kernel)))
    (dd_cons (d_expr (e_extend 3 (PEb.o (b_nm 5))))
    (dd_one (d_aug 4 nd ip_add e_int)))))
    (dd_one (d_ret (e_callB c_sorted T.sorted (a_o1 (PEb.o (b_nm 3)))))))))
abbrev s_pieces : Stmt := top 5
theorem sc_pieces : FnScope ["table", "mirrors", "found", "mirror", "piece"] ["table", "mirrors"] (defScope s_pieces) := ⟨rfl, rfl, rfl, by decide +kernel, rfl, by decide +kernel, by decide +kernel⟩
def F_pieces : FD := dFn 5 2 [2, 3] ((dSeq (dAsg (dLst dA0) (gNm 2))
    (dSeq (dFor (dIt (dFr 1)) (gNm 3) (dIfS (dNot (dB (dCB fAny (dO1 (dRo (dLc [4] (dIt (dN 2)) (gNm 4) dYes (dOp dIn (dP (dN 3) (dN 4))))))))) (dDrop (dApp 2 (dCall 3 F_piece_of (cAt (dN 0) (cAt (dN 3) (cAn 1 cA0)))))) dPass))
    (dRet (dMv 2)))))
theorem ok_pieces {f : Addr} {fd : FuncData} (A : At K mg "pieces" "pieces" s_pieces ["table", "mirrors"] f fd) (T : Txt K mg) (h_piece_of : Has P w K mg base "piece_of" 3 3 F_piece_of) : Has P w K mg base "pieces" 4 2 F_pieces :=
  has_mk A sc_pieces fun cdv A outer s H E hr => by
    have nd := sc_pieces.nd
    have hu := hr.units
    have hu1 : _ + 65 < cLine := hu_65 hr
    exact (dd_cons (d_set 2 nd (e_lst a_nil))
    (dd_cons (d_for PassesOwn.never rfl (i_seq (e_fr 1)) (g_nm 3 nd) (dd_one (d_if (t_not (t_val (e_callB c_any T.any (a_o1 (PEd.o (e_ro (e_lc [("piece", 4)] rfl nd (i_seq (e_nm 2)) (blkOk_by (by with_unfolding_all rfl)) (fun _ => (g_nm 4 nd)) (fun _ => q_nil) (fun _ => (e_cmp (o_in hu1) (p2_dd (e_nm 3) (PEd.o (e_nm 4)))))))))))) (dd_one (d_expr (e_append 2 (e_f h_piece_of hr (c_tmp (e_nm 0) (c_tmp (e_nm 3) (c_nm 1 c_nil))))))) dd_nil)))
    (dd_one (d_ret (e_mv 2)))))
abbrev s_law : Stmt := top 13
theorem sc_law : FnScope ["script", "k", "stream", "table", "mirrors", "mirror", "given", "due", "again", "told", "piece"] ["script"] (defScope s_law) := ⟨rfl, rfl, rfl, by decide +kernel, rfl, by decide +kernel, by decide +kernel⟩
def F_law : FD := dFn 11 1 [1, 2, 3, 4, 6, 7, 8, 9, 10] ((dSeq (dFor (dRg1 (dO1 (dOp dAdd (dP (dK (.int 1)) (dCB fMin2 (dO2 (dP (dCB fLen (dO1 (dN 0))) (dK (.int 19))))))))) (gNm 1) (dSeq (dAsg (dCall 2 F_law_stream (cAt (dCall 2 F_law_cell (cAt (dN 0) (cAt (dN 1) cA0))) (cAt (dN 1) cA0))) (gNm 2))
    (dSeq (dAsg (dCall 1 F_law_sparse (cAn 2 cA0)) (gNm 3))
    (dSeq (dAsg (dLc [5] (dRg1 (dO1 (dCB fLen (dO1 (dN 3))))) (gNm 5) (dB (dOp dGt (dP (dCall 2 F_law_next (cAn 2 (cAt (dK (.int 4)) cA0))) (dK (.int 0))))) (dN 5)) (gNm 4))
    (dSeq (dAsg (dCB fList (dO1 (dRd (dNm 4)))) (gNm 6))
    (dSeq (dAsg (dCall 2 F_law_due (cAt (dN 3) (cAn 4 cA0))) (gNm 7))
    (dFor (dRg1 (dO1 (dK (.int 2)))) (gNm 8) (dSeq (dAsg (dCall 2 F_pieces (cAt (dN 3) (cAn 6 cA0))) (gNm 9))
    (dSeq (dIfS (dOr (dNot (dB (dIsi "list" (dRd (dNm 9))))) (dOr (dB (dOp dNe (dPb (dRd (dNm 9)) (dNm 7)))) (dB (dOp dNe (dPb (dRd (dNm 6)) (dNm 4)))))) (dRet (dK (.bl false))) dPass)
    (dSeq (dForC 9 10 (dSeq (dIfS (dNot (dB (dIsi "list" (dRd (dNm 10))))) (dRet (dK (.bl false))) dPass)
    (dDrop (dApp 10 (dK (.int 9))))))
    (dDrop (dApp 9 (dFz (dLst dA0))))))))))))))
    (dRet (dOp dEq (dP (dCall 2 F_pieces (cAt (dN 3) (cAt (dLst dA0) cA0))) (dLst dA0))))))
theorem ok_law {f : Addr} {fd : FuncData} (A : At K mg "law" "law" s_law ["script"] f fd) (T : Txt K mg) (h_law_cell : Has P w K mg base "_law_cell" 1 2 F_law_cell) (h_law_due : Has P w K mg base "_law_due" 2 2 F_law_due) (h_law_next : Has P w K mg base "_law_next" 1 2 F_law_next) (h_law_sparse : Has P w K mg base "_law_sparse" 2 1 F_law_sparse) (h_law_stream : Has P w K mg base "_law_stream" 1 2 F_law_stream) (h_pieces : Has P w K mg base "pieces" 4 2 F_pieces) : FnOk P w K mg base CX0 5 f fd ["script"] (spD 1 K F_law) :=
  fn_ok A.fn sc_law fun cdv A outer s H E hr => by
    have nd := sc_law.nd
    have hu := hr.units
    have hu1 : _ + 65 < cLine := hu_65 hr
    exact (dd_cons (d_for PassesOwn.never rfl (i_range1 T.range (a_o1 (PEd.o (e_bin o_add (p2_dd e_int (PEd.o (e_callB c_min2 T.min (a_o2 (p2_dd (e_callB c_len T.len (a_o1 (PEd.o (e_nm 0)))) (PEd.o e_int)))))))))) (g_nm 1 nd) (dd_cons (d_set 2 nd (e_f h_law_stream hr (c_tmp (e_f h_law_cell hr (c_tmp (e_nm 0) (c_tmp (e_nm 1) c_nil))) (c_tmp (e_nm 1) c_nil))))
    (dd_cons (d_set 3 nd (e_f h_law_sparse hr (c_nm 2 c_nil)))
    (dd_cons (d_lc 4 [("mirror", 5)] rfl nd (i_range1 T.range (a_o1 (PEd.o (e_callB c_len T.len (a_o1 (PEd.o (e_nm 3))))))) (blkOk_by (by with_unfolding_all rfl)) (fun _ => (g_nm 5 nd)) (fun _ => (q_one (t_cmp (o_gt) (p2_dd (e_f h_law_next hr (c_nm 2 (c_tmp e_int c_nil))) (PEd.o e_int))))) (fun _ => (e_nm 5)) (sw_true rfl rfl rfl (by decide +kernel)))
    (dd_cons (d_set 6 nd (e_callT c_list T.list (a_o1 (PEb.o (b_nm 4)))))
    (dd_cons (d_set 7 nd (e_f h_law_due hr (c_tmp (e_nm 3) (c_nm 4 c_nil))))
    (dd_one (d_for PassesOwn.never rfl (i_range1 T.range (a_o1 (PEd.o e_int))) (g_nm 8 nd) (dd_cons (d_set 9 nd (e_f h_pieces hr (c_tmp (e_nm 3) (c_nm 6 c_nil))))
    (dd_cons (d_if (PWd.t (w_or (t_not (t_val (e_isi (T := "list") T.isinstance T.list (PEb.o (b_nm 9))))) (w_or (t_cmp (o_ne hu) (p2_ob (PEb.o (b_nm 9)) (b_nm 7))) (w_or1 (t_cmp (o_ne hu) (p2_ob (PEb.o (b_nm 6)) (b_nm 4))))))) (dd_one (d_ret e_bl)) dd_nil)
    (dd_cons (d_forC 9 10 nd PassesOwn.never rfl (dd_cons (d_if (t_not (t_val (e_isi (T := "list") T.isinstance T.list (PEb.o (b_nm 10))))) (dd_one (d_ret e_bl)) dd_nil)
    (dd_one (d_expr (e_append 10 e_int)))))
    (dd_one (d_expr (e_append 9 (PEd.fz (e_lst a_nil))))))))))))))))
    (dd_one (d_ret (e_cmp (o_eq hu) (p2_dd (e_f h_pieces hr (c_tmp (e_nm 3) (c_tmp (e_lst a_nil) c_nil))) (PEd.o (e_lst a_nil)))))))
end
end K
/-! P25: pieces by graphs, no program in sight. -/
namespace K25
/-- p is reached from o by at most r steps inside ms -/
def W (adj : Nat → Nat → Bool) (ms : List Nat) : Nat → Nat → Nat → Prop
  | 0, o, p => o = p
  | r + 1, o, p => W adj ms r o p ∨ ∃ q ∈ ms, adj o q = true ∧ W adj ms r q p
def Conn (adj : Nat → Nat → Bool) (ms : List Nat) (o p : Nat) : Prop := ∃ r, W adj ms r o p
section
variable {adj : Nat → Nat → Bool} {ms : List Nat}
theorem W.succ {r o p : Nat} (h : W adj ms r o p) : W adj ms (r + 1) o p := .inl h
theorem W.le {r s o p : Nat} (h : W adj ms r o p) (l : r ≤ s) : W adj ms s o p := by
  induction s with
  | zero => rw [Nat.le_zero.mp l] at h; exact h
  | succ s ih =>
    by_cases e : r = s + 1
    · rw [← e]; exact h
    · exact (ih (by omega)).succ
theorem W.snoc : ∀ {r o p q : Nat}, W adj ms r o p → adj p q = true → q ∈ ms → W adj ms (r + 1) o q
  | 0, o, p, q, h, a, m => .inr ⟨q, m, by rw [show o = p from h]; exact a, rfl⟩
  | r + 1, o, p, q, h, a, m => by
    rcases h with h | ⟨o', m', a', h⟩
    · exact .inl (W.snoc h a m)
    · exact .inr ⟨o', m', a', W.snoc h a m⟩
theorem Conn.refl (o : Nat) : Conn adj ms o o := ⟨0, rfl⟩
theorem Conn.snoc {o p q : Nat} (h : Conn adj ms o p) (a : adj p q = true) (m : q ∈ ms) : Conn adj ms o q := let ⟨r, h⟩ := h; ⟨r + 1, h.snoc a m⟩
theorem W.mem : ∀ {r o p : Nat}, W adj ms r o p → o ∈ ms → p ∈ ms
  | 0, o, p, h, m => by rw [← show o = p from h]; exact m
  | r + 1, o, p, h, m => by
    rcases h with h | ⟨o', m', a', h⟩
    · exact W.mem h m
    · exact W.mem h m'
theorem W.symm (sy : ∀ i j, adj i j = adj j i) : ∀ {r o p : Nat}, W adj ms r o p → o ∈ ms → Conn adj ms p o
  | 0, o, p, h, m => by rw [← show o = p from h]; exact .refl _
  | r + 1, o, p, h, m => by
    rcases h with h | ⟨o', m', a', h⟩
    · exact W.symm sy h m
    · exact (W.symm sy h m').snoc (by rw [sy]; exact a') m
theorem Conn.mem {o p : Nat} (h : Conn adj ms o p) (m : o ∈ ms) : p ∈ ms := let ⟨_, h⟩ := h; h.mem m
theorem Conn.symm (sy : ∀ i j, adj i j = adj j i) {o p : Nat} (h : Conn adj ms o p) (m : o ∈ ms) : Conn adj ms p o := let ⟨_, h⟩ := h; h.symm sy m
theorem W.trans : ∀ {r o p q : Nat}, W adj ms r o p → Conn adj ms p q → Conn adj ms o q
  | 0, o, p, q, h, g => by rw [show o = p from h]; exact g
  | r + 1, o, p, q, h, g => by
    rcases h with h | ⟨o', m', a', h⟩
    · exact W.trans h g
    · obtain ⟨s, h⟩ := W.trans h g
      exact ⟨s + 1, .inr ⟨o', m', a', h⟩⟩
theorem Conn.trans {o p q : Nat} (h : Conn adj ms o p) (g : Conn adj ms p q) : Conn adj ms o q := let ⟨_, h⟩ := h; h.trans g
/-- closed lists hold all that is reached -/
theorem W.closed {F : List Nat} (c : ∀ x ∈ F, ∀ y ∈ ms, adj x y = true → y ∈ F) : ∀ {r o p : Nat}, W adj ms r o p → o ∈ F → p ∈ F
  | 0, o, p, h, m => by rw [← show o = p from h]; exact m
  | r + 1, o, p, h, m => by
    rcases h with h | ⟨o', m', a', h⟩
    · exact W.closed c h m
    · exact W.closed c h (c _ m _ m' a')
open Classical in
noncomputable def cnt (adj : Nat → Nat → Bool) (ms : List Nat) (r o : Nat) : Nat := ms.countP fun p => decide (W adj ms r o p)
theorem W.stable {r o : Nat} (h : ∀ p ∈ ms, W adj ms (r + 1) o p → W adj ms r o p) (ho : o ∈ ms) : ∀ {s p : Nat}, W adj ms s o p → W adj ms r o p := by
  have key : ∀ {s p q : Nat}, W adj ms s q p → W adj ms r o q → q ∈ ms → W adj ms r o p := by
    intro s
    induction s with
    | zero => intro p q h1 h2 _; rw [← show q = p from h1]; exact h2
    | succ s ih =>
      intro p q h1 h2 hq
      rcases h1 with h1 | ⟨q', m', a', h1⟩
      · exact ih h1 h2 hq
      · exact ih h1 (h _ m' (h2.snoc a' m')) m'
  intro s p hs
  exact key hs ((show W adj ms 0 o o from rfl).le (Nat.zero_le _)) ho
open Classical in
theorem cnt_step {r o : Nat} (ho : o ∈ ms) : (∃ s, s < r ∧ ∀ p ∈ ms, W adj ms (s + 1) o p → W adj ms s o p) ∨ r + 1 ≤ cnt adj ms r o := by
  induction r with
  | zero =>
    right
    unfold cnt
    exact List.countP_pos_iff.mpr ⟨o, ho, decide_eq_true rfl⟩
  | succ r ih =>
    rcases ih with ⟨s, hs, h⟩ | h
    · exact .inl ⟨s, by omega, h⟩
    · by_cases e : ∀ p ∈ ms, W adj ms (r + 1) o p → W adj ms r o p
      · exact .inl ⟨r, by omega, e⟩
      · right
        obtain ⟨p, hp⟩ := Classical.not_forall.mp e
        obtain ⟨hm, hp⟩ := Classical.not_forall.mp hp
        obtain ⟨h1, h2⟩ := Classical.not_forall.mp hp
        have : cnt adj ms r o < cnt adj ms (r + 1) o := by
          unfold cnt
          have gen : ∀ l : List Nat, (p ∈ l → l.countP (fun p => decide (W adj ms r o p)) < l.countP (fun p => decide (W adj ms (r + 1) o p))) ∧ l.countP (fun p => decide (W adj ms r o p)) ≤ l.countP (fun p => decide (W adj ms (r + 1) o p)) := by
            intro l
            induction l with
            | nil => exact ⟨(fun z => nomatch z), Nat.le_refl _⟩
            | cons x l ih =>
              have hx : W adj ms r o x → W adj ms (r + 1) o x := W.succ
              by_cases w1 : W adj ms r o x
              · have w2 := hx w1
                simp only [List.countP_cons, decide_eq_true w1, decide_eq_true w2, if_true, List.mem_cons]
                refine ⟨?_, by omega⟩
                rintro (z | z)
                · subst z; exact absurd w1 h2
                · have := ih.1 z; omega
              · by_cases w2 : W adj ms (r + 1) o x
                · simp only [List.countP_cons, decide_eq_false w1, decide_eq_true w2, if_true, List.mem_cons]
                  exact ⟨fun _ => by simp; omega, by simp; omega⟩
                · simp only [List.countP_cons, decide_eq_false w1, decide_eq_false w2, List.mem_cons]
                  refine ⟨?_, by simpa using ih.2⟩
                  rintro (z | z)
                  · subst z; exact absurd h1 w2
                  · simpa using ih.1 z
          exact (gen ms).1 hm
        omega
/-- among n nodes n - 1 steps reach what is reached at all -/
theorem Conn.short {o p n : Nat} (ho : o ∈ ms) (hn : ms.length ≤ n) (h : Conn adj ms o p) : W adj ms n o p := by
  obtain ⟨s, h⟩ := h
  rcases cnt_step (adj := adj) (r := n) ho with ⟨t, ht, st⟩ | hc
  · exact (W.stable st ho h).le (by omega)
  · have : cnt adj ms n o ≤ ms.length := List.countP_le_length
    omega
/-! labels -/
/-- f after some rounds: o's label is reached from o, and lies below all that is at most r steps off -/
structure Lab (adj : Nat → Nat → Bool) (ms : List Nat) (r : Nat) (f : Nat → Nat) : Prop where
  con : ∀ o ∈ ms, Conn adj ms o (f o)
  low : ∀ o ∈ ms, ∀ p, W adj ms r o p → f o ≤ p
theorem Lab.zero : Lab adj ms 0 id := ⟨fun o _ => .refl o, fun o _ p h => Nat.le_of_eq h⟩
theorem Lab.next {r : Nat} {f g : Nat → Nat} (h : Lab adj ms r f) (c : ∀ o ∈ ms, Conn adj ms o (g o)) (le : ∀ o ∈ ms, g o ≤ f o) (pass : ∀ o ∈ ms, ∀ p ∈ ms, adj o p = true → g o ≤ f p) : Lab adj ms (r + 1) g := by
  refine ⟨c, fun o ho p hp => ?_⟩
  rcases hp with hp | ⟨q, hq, a, hp⟩
  · exact Nat.le_trans (le o ho) (h.low o ho p hp)
  · exact Nat.le_trans (pass o ho q hq a) (h.low q hq p hp)
/-- the final labels -/
structure Fin (adj : Nat → Nat → Bool) (ms : List Nat) (f : Nat → Nat) : Prop where
  con : ∀ o ∈ ms, Conn adj ms o (f o)
  low : ∀ o ∈ ms, ∀ p, Conn adj ms o p → f o ≤ p
theorem Lab.fin {r : Nat} {f : Nat → Nat} (h : Lab adj ms r f) (hr : ms.length ≤ r) : Fin adj ms f := ⟨h.con, fun o ho p hp => h.low o ho p (hp.short ho hr)⟩
theorem Fin.eq {f : Nat → Nat} (h : Fin adj ms f) (sy : ∀ i j, adj i j = adj j i) {o p : Nat} (ho : o ∈ ms) : Conn adj ms o p ↔ p ∈ ms ∧ f o = f p := by
  constructor
  · intro c
    have hp := c.mem ho
    refine ⟨hp, ?_⟩
    have h1 := h.low o ho _ (c.trans (h.con p hp))
    have h2 := h.low p hp _ ((c.symm sy ho).trans (h.con o ho))
    omega
  · rintro ⟨hp, e⟩
    have c1 := h.con o ho
    rw [e] at c1
    exact c1.trans ((h.con p hp).symm sy hp)
theorem Fin.idem {f : Nat → Nat} (h : Fin adj ms f) (sy : ∀ i j, adj i j = adj j i) {o : Nat} (ho : o ∈ ms) : f o ∈ ms ∧ f (f o) = f o := by
  obtain ⟨h1, h2⟩ := (h.eq sy ho).mp (h.con o ho)
  exact ⟨h1, h2.symm⟩
theorem Fin.le {f : Nat → Nat} (h : Fin adj ms f) {o : Nat} (ho : o ∈ ms) : f o ≤ o := h.low o ho o (.refl o)
end
end K25

namespace K
open PySem L2 DL K25
def adjT (t : List (List Int)) (i j : Nat) : Bool := decide (i ≠ j) && decide (ent t i j ≠ 2)
theorem adjT_symm (t : List (List Int)) (i j : Nat) : adjT t i j = adjT t j i := by
  unfold adjT; rw [ent_symm]; congr 1; simp [eq_comm]
theorem joined_ok {t : List (List Int)} {i j : Nat} (ht : okT t) (hi : i < t.length) (hj : j < t.length) : F_joined [tT t, nD i, nD j] = some (.ok (.bl (adjT t i j)) [some (tT t), some (nD i), some (nD j)]) := by
  by_cases e : i = j
  · subst e
    simp [F_joined, dNe, okE, eqvD, outsOf, List.range, List.range.loop, adjT]
  · have e' : ¬ (i : Int) = j := by omega
    by_cases e2 : ent t i j = 2
    · simp [F_joined, e, e', e2, dNe, okE, eqvD, outsOf, List.range, List.range.loop, order_ok ht hi hj, adjT]
    · simp [F_joined, e, e', e2, dNe, okE, eqvD, outsOf, List.range, List.range.loop, order_ok ht hi hj, adjT]
theorem law_order_eq : F_law_order = F_order := rfl
/-- what the search holds before place p -/
structure Bfs (adj : Nat → Nat → Bool) (ms : List Nat) (m p : Nat) (F : List Nat) : Prop where
  le : p ≤ F.length
  me : m ∈ F
  con : ∀ x ∈ F, x ∈ ms ∧ Conn adj ms m x
  nd : F.Nodup
  cl : ∀ k (h : k < F.length), k < p → ∀ y ∈ ms, adj F[k] y = true → y ∈ F
def left (ms F : List Nat) : Nat := (ms.filter fun o => decide (o ∉ F)).length
theorem left_near (ms F : List Nat) (q : Nat → Bool) : left ms (F ++ ms.filter fun o => q o && decide (o ∉ F)) + (ms.filter fun o => q o && decide (o ∉ F)).length = left ms F := by
  unfold left
  have gen : ∀ l : List Nat, (∀ x ∈ l, x ∈ ms) → (l.filter fun o => decide (o ∉ F ++ ms.filter fun o => q o && decide (o ∉ F))).length + (l.filter fun o => q o && decide (o ∉ F)).length = (l.filter fun o => decide (o ∉ F)).length := by
    intro l
    induction l with
    | nil => intro _; rfl
    | cons x l ih =>
      intro h
      have := ih fun y hy => h y (List.mem_cons_of_mem _ hy)
      have hx := h x (List.mem_cons_self ..)
      simp only [List.filter_cons, List.mem_append, List.mem_filter]
      by_cases h1 : x ∈ F
      · simp only [h1, not_true, decide_false, Bool.and_false, true_or, Bool.false_eq_true, if_false]
        simpa using this
      · cases h2 : q x with
        | true => simp [h1, h2, hx] at this ⊢; omega
        | false => simp [h1, h2, hx] at this ⊢; omega
  exact gen ms fun _ h => h
theorem Bfs.step {adj : Nat → Nat → Bool} {ms : List Nat} {m p : Nat} {F : List Nat} (b : Bfs adj ms m p F) (hn : ms.Nodup) (h : p < F.length) : Bfs adj ms m (p + 1) (F ++ ms.filter fun o => adj F[p] o && decide (o ∉ F)) := by
  refine ⟨?_, List.mem_append_left _ b.me, fun x hx => ?_, ?_, fun k hk hp y hy a => ?_⟩
  · rw [List.length_append]; omega
  · rcases List.mem_append.mp hx with hx | hx
    · exact b.con x hx
    · obtain ⟨h1, h2⟩ := List.mem_filter.mp hx
      simp only [Bool.and_eq_true] at h2
      exact ⟨h1, (b.con F[p] (List.getElem_mem h)).2.snoc h2.1 h1⟩
  · refine List.nodup_append.mpr ⟨b.nd, hn.filter _, fun x hx y hy e => ?_⟩
    subst e
    obtain ⟨_, h2⟩ := List.mem_filter.mp hy
    simp only [Bool.and_eq_true, decide_eq_true_eq] at h2
    exact h2.2 hx
  · by_cases hk2 : k < p
    · have hkF : k < F.length := by omega
      rw [List.getElem_append_left hkF] at a
      exact List.mem_append_left _ (b.cl k hkF hk2 y hy a)
    · have : k = p := by omega
      subst this
      rw [List.getElem_append_left h] at a
      by_cases hyF : y ∈ F
      · exact List.mem_append_left _ hyF
      · exact List.mem_append_right _ (List.mem_filter.mpr ⟨hy, by simp [a, hyF]⟩)
theorem Bfs.fin {adj : Nat → Nat → Bool} {ms : List Nat} {m p : Nat} {F : List Nat} (b : Bfs adj ms m p F) (h : ¬ p < F.length) (x : Nat) : x ∈ F ↔ Conn adj ms m x := by
  refine ⟨fun hx => (b.con x hx).2, fun ⟨r, hr⟩ => hr.closed (F := F) (fun u hu y hy a => ?_) b.me⟩
  obtain ⟨k, hk, rfl⟩ := List.getElem_of_mem hu
  exact b.cl k hk (by omega) y hy a
theorem piece_of_ok {t : List (List Int)} {m : Nat} {ms : List Nat} (ht : okT t) (hm : m ∈ ms) (hs : ∀ x ∈ ms, x < t.length) (hn : ms.Nodup) (hl : ms.length ≤ 900) :
    ∃ F : List Nat, ((∀ x, x ∈ F ↔ Conn (adjT t) ms m x) ∧ F.Nodup) ∧ F_piece_of [tT t, nD m, .lst false (lN ms)] = some (.ok (.lst true ((sortI (F.map Int.ofNat)).map .int)) [some (tT t), some (nD m), some (.lst false (lN ms))]) := by
  simp only [F_piece_of, ev_fn, ev_seq]
  simp [lN_one, Option.bind_assoc]
  refine run_res (while_inv (fun k ds => ∃ (F : List Nat) (p : Nat) (j5 : Option D), ds = [some (tT t), some (nD m), some (.lst false (lN ms)), some (.lst true (lN F)), some (nD p), j5, none] ∧ Bfs (adjT t) ms m p F ∧ k = left ms F + (F.length - p) ∧ F.length + left ms F = 1 + left ms [m])
    (fun ds => ∃ (F : List Nat) (p : Nat) (j5 : Option D), ds = [some (tT t), some (nD m), some (.lst false (lN ms)), some (.lst true (lN F)), some (nD p), j5, none] ∧ Bfs (adjT t) ms m p F ∧ ¬ p < F.length) (k := left ms [m] + 1) ?_ ?_ ?_) ?_
  · exact ⟨[m], 0, none, rfl, ⟨Nat.zero_le _, List.mem_singleton.mpr rfl, fun x hx => by rw [List.mem_singleton.mp hx]; exact ⟨hm, .refl m⟩, by simp, fun k _ h => absurd h (Nat.not_lt_zero _)⟩, rfl, rfl⟩
  · have : left ms [m] ≤ ms.length := List.length_filter_le ..
    omega
  · rintro k ds ⟨F, p, j5, rfl, b, rfl, bal⟩
    have lm : left ms [m] ≤ ms.length := List.length_filter_le ..
    refine ⟨decide (p < F.length), [some (tT t), some (nD m), some (.lst false (lN ms)), some (.lst true (lN F)), some (nD p), j5, none], by simp [fLen, dCmp], fun h => ⟨F, p, j5, rfl, b, by simpa using h⟩, fun h => ?_⟩
    have hp : p < F.length := by simpa using h
    have hFp := b.con F[p] (List.getElem_mem hp)
    have lc := left_near ms F fun o => adjT t F[p] o
    refine ⟨_, left ms (F ++ ms.filter fun o => adjT t F[p] o && decide (o ∉ F)) + ((F ++ ms.filter fun o => adjT t F[p] o && decide (o ∉ F)).length - (p + 1)), ?_, ?_, ⟨F ++ ms.filter fun o => adjT t F[p] o && decide (o ∉ F), p + 1, some (.lst true (lN (ms.filter fun o => adjT t F[p] o && decide (o ∉ F)))), rfl, b.step hn hp, rfl, by rw [List.length_append]; omega⟩⟩
    · simp
      rw [lc_natN fun o => adjT t F[p] o && decide (o ∉ F)]
      · have bd : F.length + (ms.filter fun o => adjT t F[p] o && !decide (o ∈ F)).length ≤ 16777216 := by
          have : (fun o => adjT t F[p] o && decide (o ∉ F)) = fun o => adjT t F[p] o && !decide (o ∈ F) := by funext o; simp
          rw [this] at lc
          omega
        simp [bd]
      · intro o ho
        refine ⟨[some (tT t), some (nD m), some (.lst false (lN ms)), some (.lst true (lN F)), some (nD p), j5, some (nD o)], by simp, ?_, ?_, by simp⟩
        · simp [hp, joined_ok ht (hs _ hFp.1) (hs _ ho), dNin, okE, lN_inL]
          cases h1 : adjT t F[p] o <;> simp [hp, joined_ok ht (hs _ hFp.1) (hs _ ho), dNin, okE, lN_inL]
        · intro _; simp
      · show ms.length ≤ 16777216; omega
    · rw [List.length_append]
      have := b.le
      omega
  · rintro ds ⟨F, p, j5, rfl, b, hp⟩
    refine ⟨F, ⟨b.fin hp, b.nd⟩, ?_⟩
    simp [fSorted, lN_ints, outsOf, List.range, List.range.loop]
end K

namespace K
open PySem L2 DL K25
/-- the piece of m, by labels -/
def pc (f : Nat → Nat) (ms : List Nat) (m : Nat) : List Nat := ms.filter fun x => f x == f m
theorem pc_mem {f : Nat → Nat} {ms : List Nat} {m x : Nat} : x ∈ pc f ms m ↔ x ∈ ms ∧ f x = f m := by simp [pc]
theorem piece_ok {t : List (List Int)} {m : Nat} {ms : List Nat} {f : Nat → Nat} (hf : Fin (adjT t) ms f) (ht : okT t) (hm : m ∈ ms) (hs : ∀ x ∈ ms, x < t.length) (hp : ms.Pairwise (· < ·)) (hl : ms.length ≤ 900) :
    F_piece_of [tT t, nD m, .lst false (lN ms)] = some (.ok (.lst true (lN (pc f ms m))) [some (tT t), some (nD m), some (.lst false (lN ms))]) := by
  have hn : ms.Nodup := hp.imp fun h => Nat.ne_of_lt h
  obtain ⟨F, ⟨h1, h2⟩, e⟩ := piece_of_ok ht hm hs hn hl
  rw [e]
  have : sortI (F.map Int.ofNat) = (pc f ms m).map Int.ofNat := by
    refine sorted_unique ((sortI_perm _).trans (List.Perm.map _ ?_)) (sortI_sorted _) ?_
    · refine (List.perm_ext_iff_of_nodup h2 (hn.filter _)).mpr fun x => ?_
      rw [h1, hf.eq (adjT_symm t) hm, List.mem_filter, beq_iff_eq]
      exact ⟨fun z => ⟨z.1, z.2.symm⟩, fun z => ⟨z.1, z.2.symm⟩⟩
    · refine List.pairwise_map.mpr ((hp.filter _).imp fun h => ?_)
      exact Int.ofNat_le.mpr (Nat.le_of_lt h)
  rw [this, lN_of]
def mins (f : Nat → Nat) (ms : List Nat) : List Nat := ms.filter fun m => f m == m
theorem mins_succ (f : Nat → Nat) {ms : List Nat} {n : Nat} (hn : n < ms.length) : mins f (ms.take (n + 1)) = mins f (ms.take n) ++ if (f ms[n] == ms[n]) = true then [ms[n]] else [] := by
  rw [List.take_succ_eq_append_getElem hn]
  unfold mins
  rw [List.filter_append, List.filter_cons]
  rfl
theorem pieces_ok {t : List (List Int)} {ms : List Nat} {f : Nat → Nat} {b : Bool} (hf : Fin (adjT t) ms f) (ht : okT t) (hs : ∀ x ∈ ms, x < t.length) (hp : ms.Pairwise (· < ·)) (hl : ms.length ≤ 900) :
    F_pieces [tT t, .lst b (lN ms)] = some (.ok (.lst true ((mins f ms).map fun m => .lst true (lN (pc f ms m)))) [some (tT t), some (.lst false (lN ms))]) := by
  simp only [F_pieces, ev_fn, ev_seq]
  simp [Option.bind_assoc]
  refine run_to (loop_nat (fun n ds => ∃ j3, ds = [some (tT t), some (.lst false (lN ms)), some (.lst true ((mins f (ms.take n)).map fun m => .lst true (lN (pc f ms m)))), j3, none]) (ms := ms) ⟨none, by simp [mins]⟩ ?_) ?_
  · rintro n hn ds ⟨j3, rfl⟩
    have hx : ms[n] ∈ ms := List.getElem_mem hn
    refine ⟨[some (tT t), some (.lst false (lN ms)), some (.lst true ((mins f (ms.take n)).map fun m => .lst true (lN (pc f ms m)))), some (nD ms[n]), none], [some (tT t), some (.lst false (lN ms)), some (.lst true ((mins f (ms.take (n + 1))).map fun m => .lst true (lN (pc f ms m)))), some (nD ms[n]), none], by simp, ?_, ⟨_, rfl⟩⟩
    have sh1 : shL ((mins f (ms.take n)).map fun m => D.lst false (lN (pc f ms m))) = true := shL_map (by simp)
    have len : (mins f (ms.take n)).length ≤ 900 := by
      unfold mins
      refine Nat.le_trans (List.length_filter_le ..) ?_
      rw [List.length_take]; omega
    have any : (mins f (ms.take n)).any (fun m => decide (ms[n] ∈ pc f ms m)) = !(f ms[n] == ms[n]) := by
      rw [Bool.eq_iff_iff, List.any_eq_true]
      simp only [decide_eq_true_eq, pc_mem, Bool.not_eq_true', beq_eq_false_iff_ne, ne_eq]
      constructor
      · rintro ⟨m, hm, _, h⟩ e
        obtain ⟨h1, h2⟩ := List.mem_filter.mp hm
        rw [beq_iff_eq] at h2
        obtain ⟨k, hk, hk2⟩ := List.mem_take_iff_getElem.mp h1
        have := List.pairwise_iff_getElem.mp hp k n (by omega) hn (by omega)
        omega
      · intro h
        obtain ⟨h1, h2⟩ := hf.idem (adjT_symm t) hx
        have h3 := hf.le hx
        refine ⟨f ms[n], List.mem_filter.mpr ⟨?_, by simpa using h2⟩, hx, h2.symm⟩
        obtain ⟨k, hk, hk2⟩ := List.getElem_of_mem h1
        refine List.mem_take_iff_getElem.mpr ⟨k, ?_, hk2⟩
        by_cases hkn : k < n
        · omega
        · have := List.pairwise_iff_getElem.mp hp
          by_cases e : k = n
          · subst e; exact absurd hk2.symm h
          · have := this n k hn hk (by omega)
            omega
    have nf1 : nfL ((mins f (ms.take n)).map fun m => D.bl (decide (ms[n] ∈ pc f ms m))) = true := nfL_map fun _ _ => rfl
    simp [fzS, fzL_map, sh1]
    rw [lc_mapY _ fun m => .bl (decide (ms[n] ∈ pc f ms m))]
    · have any2 : (((mins f (ms.take n)).map fun m => decide (ms[n] ∈ pc f ms m)).any id) = !(f ms[n] == ms[n]) := by
        rw [List.any_map]; exact any
      have mt := mins_succ f hn
      cases e : f ms[n] == ms[n] with
      | true =>
        rw [e] at any2 mt
        simp only [Option.bind_some, if_true, D.nf, nf1]
        simp [fAny, bools_map, any2, piece_ok hf ht hx hs hp hl, show (mins f (ms.take n)).length < 16777216 by omega, mt]
      | false =>
        rw [e] at any2 mt
        simp only [Option.bind_some, if_true, D.nf, nf1]
        simp [fAny, bools_map, any2, mt]
    · intro m hm
      refine ⟨[some (tT t), some (.lst false (lN ms)), some (.lst false ((mins f (ms.take n)).map fun m => .lst false (lN (pc f ms m)))), some (nD ms[n]), some (.lst false (lN (pc f ms m)))], by simp, ?_, by simp⟩
      simp [dIn, okE, lN_inL]
    · show _ ≤ 16777216; omega
  · rintro ds ⟨j3, rfl⟩
    simp [outsOf, List.range, List.range.loop]
end K

namespace K
open PySem L2 DL K25
def upd1 (f : Nat → Nat) (x v o : Nat) : Nat := if o = x then v else f o
def mkD (ms : List Nat) (f : Nat → Nat) : D := .dct true .flat (lN ms) (lN (ms.map f))
theorem look_mk (f : Nat → Nat) (x : Nat) : ∀ ms : List Nat, x ∈ ms → dLook (lN ms) (lN (ms.map f)) (nD x) = some (nD (f x))
  | [], h => nomatch h
  | y :: ms, h => by
    show (if eqvD (nD y) (nD x) then some (nD (f y)) else dLook (lN ms) (lN (ms.map f)) (nD x)) = _
    by_cases e : y = x
    · subst e; simp [eqvD]
    · have e2 : ¬ (y : Int) = x := by omega
      simp only [eqvD, beq_iff_eq, e2, if_false]
      exact look_mk f x ms ((List.mem_cons.mp h).resolve_left (Ne.symm e))
theorem get_mk {ms : List Nat} {f : Nat → Nat} {x : Nat} (h : x ∈ ms) : dGetV (mkD ms f) (nD x) = some (nD (f x)) := by
  unfold mkD dGetV
  simp [keyOk, isK, look_mk f x ms h]
theorem any_key (x : Nat) (ms : List Nat) : ((lN ms).any fun k => eqvD k (nD x)) = decide (x ∈ ms) := lN_inL x ms
theorem put_mk {ms : List Nat} {f : Nat → Nat} {x v : Nat} (h : x ∈ ms) : dPut (lN ms) (lN (ms.map f)) (nD x) (nD v) = (lN ms, lN (ms.map (upd1 f x v))) := by
  unfold dPut
  rw [any_key, decide_eq_true h, if_pos rfl]
  congr 1
  have gen : ∀ l : List Nat, List.zipWith (fun k u => if eqvD k (nD x) then nD v else u) (lN l) (lN (l.map f)) = lN (l.map (upd1 f x v)) := by
    intro l
    induction l with
    | nil => rfl
    | cons y l ih =>
      show (if eqvD (nD y) (nD x) then nD v else nD (f y)) :: List.zipWith (fun k u => if eqvD k (nD x) then nD v else u) (lN l) (lN (l.map f)) = nD (upd1 f x v y) :: lN (l.map (upd1 f x v))
      rw [ih]
      congr 1
      by_cases e : y = x
      · subst e; simp [eqvD, upd1]
      · have e2 : ¬ (y : Int) = x := by omega
        simp [eqvD, upd1, e, e2]
  exact gen ms
theorem put_new {l : List Nat} {x : Nat} (h : x ∉ l) : dPut (lN l) (lN l) (nD x) (nD x) = (lN (l ++ [x]), lN (l ++ [x])) := by
  unfold dPut
  rw [any_key, decide_eq_false h]
  simp
/-- f behind the pairs of S, begun at f0 -/
structure Pass (adj : Nat → Nat → Bool) (ms : List Nat) (f0 f : Nat → Nat) (S : Nat → Nat → Prop) : Prop where
  con : ∀ o ∈ ms, Conn adj ms o (f o)
  le : ∀ o ∈ ms, f o ≤ f0 o
  did : ∀ o ∈ ms, ∀ p ∈ ms, S o p → adj o p = true → f o ≤ f0 p
theorem Pass.more {adj : Nat → Nat → Bool} {ms : List Nat} {f0 f : Nat → Nat} {S S' : Nat → Nat → Prop} (h : Pass adj ms f0 f S) (x y : Nat) (na : adj x y = false) (hS : ∀ o p, S' o p → S o p ∨ (o = x ∧ p = y)) : Pass adj ms f0 f S' :=
  ⟨h.con, h.le, fun o ho p hp s a => by
    rcases hS o p s with s | ⟨rfl, rfl⟩
    · exact h.did o ho p hp s a
    · rw [na] at a; cases a⟩
theorem Pass.less {adj : Nat → Nat → Bool} {ms : List Nat} {f0 f : Nat → Nat} {S S' : Nat → Nat → Prop} (h : Pass adj ms f0 f S) (hS : ∀ o ∈ ms, ∀ p ∈ ms, S' o p → S o p) : Pass adj ms f0 f S' := ⟨h.con, h.le, fun o ho p hp s a => h.did o ho p hp (hS o ho p hp s) a⟩
theorem Pass.pair {adj : Nat → Nat → Bool} {ms : List Nat} {f0 f : Nat → Nat} {S S' : Nat → Nat → Prop} {x y : Nat} (h : Pass adj ms f0 f S) (sy : ∀ i j, adj i j = adj j i) (hx : x ∈ ms) (hy : y ∈ ms) (a : adj x y = true) (hS : ∀ o p, S' o p → S o p ∨ (o = x ∧ p = y)) :
    Pass adj ms f0 (upd1 (upd1 f x (min (f x) (f y))) y (min (f x) (f y))) S' := by
  have low : ∀ o, upd1 (upd1 f x (min (f x) (f y))) y (min (f x) (f y)) o ≤ f o := fun o => by
    unfold upd1
    split
    · rename_i e; subst e; omega
    · split
      · rename_i e; subst e; omega
      · exact Nat.le_refl _
  have cm : ∀ z, (z = x ∨ z = y) → Conn adj ms z (min (f x) (f y)) := fun z hz => by
    have cxy : Conn adj ms x y := (Conn.refl x).snoc a hy
    have cyx : Conn adj ms y x := (Conn.refl y).snoc (by rw [sy]; exact a) hx
    rcases Nat.le_total (f x) (f y) with l | l
    · rw [Nat.min_eq_left l]
      rcases hz with rfl | rfl
      · exact h.con _ hx
      · exact cyx.trans (h.con _ hx)
    · rw [Nat.min_eq_right l]
      rcases hz with rfl | rfl
      · exact cxy.trans (h.con _ hy)
      · exact h.con _ hy
  refine ⟨fun o ho => ?_, fun o ho => Nat.le_trans (low o) (h.le o ho), fun o ho p hp s ad => ?_⟩
  · unfold upd1
    split
    · rename_i e; exact cm o (.inr e)
    · split
      · rename_i e; exact cm o (.inl e)
      · exact h.con o ho
  · rcases hS o p s with s | ⟨rfl, rfl⟩
    · exact Nat.le_trans (low o) (h.did o ho p hp s ad)
    · have : upd1 (upd1 f o (min (f o) (f p))) p (min (f o) (f p)) o = min (f o) (f p) := by
        unfold upd1; split
        · rfl
        · simp
      rw [this]
      have := h.le p hp
      omega
end K

namespace K
open PySem L2 DL K25
theorem due_ok {t : List (List Int)} {ms : List Nat} {b : Bool} (ht : okT t) (hs : ∀ x ∈ ms, x < t.length) (hp : ms.Pairwise (· < ·)) (hl : ms.length ≤ 6) :
    ∃ f : Nat → Nat, Fin (adjT t) ms f ∧ F_law_due [tT t, .lst b (lN ms)] = some (.ok (.lst true ((mins f ms).map fun m => .lst false (lN (ms.filter fun o => f o == m)))) [some (tT t), some (.lst false (lN ms))]) := by
  have hn : ms.Nodup := hp.imp fun h => Nat.ne_of_lt h
  simp only [F_law_due, ev_fn, ev_seq]
  simp [Option.bind_assoc]
  -- marks[mirror] = mirror
  refine run_res (loop_nat (fun n ds => ∃ j3, ds = [some (tT t), some (.lst false (lN ms)), some (.dct true .flat (lN (ms.take n)) (lN (ms.take n))), j3, none, none, none, none, none, none]) (ms := ms) ⟨none, by simp [lN]⟩ ?_) ?_
  · rintro n hn' ds ⟨j3, rfl⟩
    have nx : ms[n] ∉ ms.take n := fun h => by
      obtain ⟨k, hk, hk2⟩ := List.mem_take_iff_getElem.mp h
      have := List.pairwise_iff_getElem.mp hp k n (by omega) hn' (by omega)
      omega
    refine ⟨[some (tT t), some (.lst false (lN ms)), some (.dct true .flat (lN (ms.take n)) (lN (ms.take n))), some (nD ms[n]), none, none, none, none, none, none], [some (tT t), some (.lst false (lN ms)), some (.dct true .flat (lN (ms.take (n + 1))) (lN (ms.take (n + 1)))), some (nD ms[n]), none, none, none, none, none, none], by simp, ?_, ⟨_, rfl⟩⟩
    simp [keyOk, isK, put_new nx, show min n ms.length < 16777216 by omega]
  rintro ds ⟨j3, rfl⟩
  simp [Option.bind_assoc, range_lN]
  -- the rounds
  refine run_res (loop_nat (fun r ds => ∃ f j3 j4 j5 j6 j7, ds = [some (tT t), some (.lst false (lN ms)), some (mkD ms f), j3, j4, j5, j6, j7, none, none] ∧ Lab (adjT t) ms r f) (ms := List.range 6) ⟨id, j3, none, none, none, none, by simp [mkD], Lab.zero⟩ ?_) ?_
  · rintro r hr ds ⟨f0, j3, j4, j5, j6, j7, rfl, lab⟩
    refine ⟨[some (tT t), some (.lst false (lN ms)), some (mkD ms f0), j3, some (nD (List.range 6)[r]), j5, j6, j7, none, none], ex_and (by simp) (for_nat (ds0 := [some (tT t), some (.lst false (lN ms)), some (mkD ms f0), j3, some (nD (List.range 6)[r]), j5, j6, j7, none, none]) (ms := ms)
      (I := fun n ds => ∃ f j5 j6 j7, ds = [some (tT t), some (.lst false (lN ms)), some (mkD ms f), j3, some (nD (List.range 6)[r]), j5, j6, j7, none, none] ∧ Pass (adjT t) ms f0 f fun o _ => o ∈ ms.take n) (by simp) ?_ ?_ ?_)⟩
    · exact ⟨f0, j5, j6, j7, rfl, lab.con, fun _ _ => Nat.le_refl _, fun o _ p _ h => nomatch h⟩
    · rintro n hn' ds ⟨f, j5, j6, j7, rfl, ps⟩
      have hx : ms[n] ∈ ms := List.getElem_mem hn'
      refine ⟨[some (tT t), some (.lst false (lN ms)), some (mkD ms f), j3, some (nD (List.range 6)[r]), some (nD ms[n]), j6, j7, none, none], ex_and (by simp) (for_nat (ds0 := [some (tT t), some (.lst false (lN ms)), some (mkD ms f), j3, some (nD (List.range 6)[r]), some (nD ms[n]), j6, j7, none, none]) (ms := ms)
        (I := fun k ds => ∃ f j6 j7, ds = [some (tT t), some (.lst false (lN ms)), some (mkD ms f), j3, some (nD (List.range 6)[r]), some (nD ms[n]), j6, j7, none, none] ∧ Pass (adjT t) ms f0 f fun o p => o ∈ ms.take n ∨ (o = ms[n] ∧ p ∈ ms.take k)) (by simp) ?_ ?_ ?_)⟩
      · exact ⟨f, j6, j7, rfl, ps.less fun o _ p _ h => h.elim id fun h => nomatch h.2⟩
      · rintro k hk ds ⟨f, j6, j7, rfl, ps⟩
        have hy : ms[k] ∈ ms := List.getElem_mem hk
        have tk : ∀ o p, (o ∈ ms.take n ∨ (o = ms[n] ∧ p ∈ ms.take (k + 1))) → (o ∈ ms.take n ∨ (o = ms[n] ∧ p ∈ ms.take k)) ∨ (o = ms[n] ∧ p = ms[k]) := fun o p h => by
          rcases h with h | ⟨h1, h2⟩
          · exact .inl (.inl h)
          · rw [List.take_succ_eq_append_getElem hk, List.mem_append, List.mem_singleton] at h2
            rcases h2 with h2 | h2
            · exact .inl (.inr ⟨h1, h2⟩)
            · exact .inr ⟨h1, h2⟩
        refine ⟨[some (tT t), some (.lst false (lN ms)), some (mkD ms f), j3, some (nD (List.range 6)[r]), some (nD ms[n]), some (nD ms[k]), j7, none, none], ?_⟩
        cases a : adjT t ms[n] ms[k] with
        | false =>
          refine ⟨[some (tT t), some (.lst false (lN ms)), some (mkD ms f), j3, some (nD (List.range 6)[r]), some (nD ms[n]), some (nD ms[k]), j7, none, none], by simp, ?_, f, _, _, rfl, ps.more _ _ a tk⟩
          by_cases e : ms[n] = ms[k]
          · simp [dNe, okE, eqvD, e]
          · have e2 : ent t ms[n] ms[k] = 2 := by
              unfold adjT at a
              simpa [e] using a
            simp [dNe, okE, eqvD, e, law_order_eq, order_ok ht (hs _ hx) (hs _ hy), e2]
        | true =>
          refine ⟨[some (tT t), some (.lst false (lN ms)), some (mkD ms (upd1 (upd1 f ms[n] (min (f ms[n]) (f ms[k]))) ms[k] (min (f ms[n]) (f ms[k])))), j3, some (nD (List.range 6)[r]), some (nD ms[n]), some (nD ms[k]), some (nD (min (f ms[n]) (f ms[k]))), none, none], by simp, ?_, _, _, _, rfl, ps.pair (adjT_symm t) hx hy a tk⟩
          have e : ¬ ms[n] = ms[k] := by
            intro e
            unfold adjT at a
            simp [e] at a
          have e2 : ¬ ent t ms[n] ms[k] = 2 := by
            unfold adjT at a
            simpa [e] using a
          have g1 := get_mk (f := f) hx
          have g2 := get_mk (f := f) hy
          unfold mkD at g1 g2
          simp [dNe, okE, eqvD, e, law_order_eq, order_ok ht (hs _ hx) (hs _ hy), e2, mkD, g1, g2, keyOk, isK, put_mk hx, put_mk hy, show ms.length < 16777216 by omega]
      · rintro ds ⟨f, j6, j7, rfl, ps⟩
        refine ⟨f, _, j6, j7, rfl, ps.less fun o _ p hp h => ?_⟩
        rw [List.take_succ_eq_append_getElem hn', List.mem_append, List.mem_singleton] at h
        refine h.imp id fun h => ⟨h, ?_⟩
        rw [List.take_length]; exact hp
    · rintro ds ⟨f, j5, j6, j7, rfl, ps⟩
      refine ⟨f, j3, _, j5, j6, j7, rfl, lab.next ps.con ps.le fun o ho p hp a => ps.did o ho p hp ?_ a⟩
      rw [List.take_length]; exact ho
  rintro ds ⟨f, j3, j4, j5, j6, j7, rfl, lab⟩
  have hf : Fin (adjT t) ms f := lab.fin (by simpa using hl)
  simp [Option.bind_assoc]
  refine run_res (loop_nat (fun n ds => ∃ j3, ds = [some (tT t), some (.lst false (lN ms)), some (mkD ms f), j3, j4, j5, j6, j7, some (.lst true ((mins f (ms.take n)).map fun m => .lst false (lN (ms.filter fun o => f o == m)))), none]) (ms := ms) ⟨j3, by simp [mins]⟩ ?_) ?_
  · rintro n hn' ds ⟨j3, rfl⟩
    have hx : ms[n] ∈ ms := List.getElem_mem hn'
    refine ⟨[some (tT t), some (.lst false (lN ms)), some (mkD ms f), some (nD ms[n]), j4, j5, j6, j7, some (.lst true ((mins f (ms.take n)).map fun m => .lst false (lN (ms.filter fun o => f o == m)))), none], [some (tT t), some (.lst false (lN ms)), some (mkD ms f), some (nD ms[n]), j4, j5, j6, j7, some (.lst true ((mins f (ms.take (n + 1))).map fun m => .lst false (lN (ms.filter fun o => f o == m)))), none], by simp, ?_, ⟨_, rfl⟩⟩
    have mt := mins_succ f hn'
    have len : (mins f (ms.take n)).length ≤ 900 := by
      unfold mins
      refine Nat.le_trans (List.length_filter_le ..) ?_
      rw [List.length_take]; omega
    by_cases e : f ms[n] = ms[n]
    · rw [if_pos (by simpa using e)] at mt
      simp [get_mk hx, dEq, okE, eqvD, e, mt]
      rw [lc_natN fun o => f o == ms[n]]
      · simp [show (mins f (ms.take n)).length < 16777216 by omega]
      · intro o ho
        refine ⟨[some (tT t), some (.lst false (lN ms)), some (mkD ms f), some (nD ms[n]), j4, j5, j6, j7, some (.lst true ((mins f (ms.take n)).map fun m => .lst false (lN (ms.filter fun o => f o == m)))), some (nD o)], by simp, ?_, fun _ => by simp, by simp⟩
        simp [get_mk ho, dEq, okE, eqvD]
      · show _ ≤ 16777216; omega
    · have e3 : ¬ ((f ms[n] : Nat) : Int) = ms[n] := by omega
      rw [if_neg (by simpa using e)] at mt
      simp [get_mk hx, dEq, okE, eqvD, e, mt]
  · rintro ds ⟨j3, rfl⟩
    refine ⟨f, hf, ?_⟩
    simp [outsOf, List.range, List.range.loop]
end K

namespace K
open PySem L2 DL K25
theorem okT_snoc {t : List (List Int)} {l : List Int} (h : okT t) (hl : l.length = t.length) : okT (t ++ [l]) := fun k hk => by
  by_cases e : k < t.length
  · rw [List.getElem_append_left e]; exact h k e
  · rw [List.length_append, List.length_singleton] at hk
    have : k = t.length := by omega
    subst this
    rw [List.getElem_append_right (Nat.le_refl _)]
    simpa using hl
theorem pick_ok (l : List Int) (v : Nat) (h : v < l.length) : ∃ c, dAt (tI l) (.int v) = some (.int c) := ⟨l[v], by rw [tI_at, List.getElem?_eq_getElem h]; rfl⟩
structure DrT where
  t : List (List Int)
  a : Int
  b : Int
theorem sparse_ok (a b : Int) : ∃ r : DrT, (okT r.t ∧ 1 ≤ r.t.length ∧ r.t.length ≤ 6) ∧ F_law_sparse [stD a b] = some (.ok (tT r.t) [some (stD r.a r.b)]) := by
  obtain ⟨a1, b1, v, h0, h1, e1⟩ := next_ok a b 6 (by omega) (by omega)
  obtain ⟨n, rfl⟩ := Int.eq_ofNat_of_zero_le h0
  have hn : n < 6 := by omega
  have f1 : i62 (1 + (n : Int)) = true := by rw [show (1 + (n : Int)) = ((n + 1 : Nat) : Int) by omega]; exact i62_nat _ (by omega)
  have f2 : (1 + (n : Int)).toNat = n + 1 := by omega
  simp only [F_law_sparse, ev_fn, ev_seq]
  simp [Option.bind_assoc, e1, f1, f2, dAdd, dI2, tt2, range_lN]
  refine run_res (loop_nat (fun k ds => ∃ a b j2, ∃ rows : List (List Int), ds = [some (stD a b), some (.lst true (rows.map tI)), j2, none] ∧ rows.length = k ∧ okT rows) (ms := List.range (n + 1)) ⟨a1, b1, none, [], rfl, rfl, fun k h => absurd h (Nat.not_lt_zero _)⟩ ?_) ?_
  · rintro k hk ds ⟨a, b, j2, rows, rfl, hr, ht⟩
    have hk2 : k < n + 1 := by simpa using hk
    refine ⟨[some (stD a b), some (.lst true (rows.map tI)), some (nD (List.range (n + 1))[k]), none], ?_⟩
    have f3 : i62 (k : Int) = true := i62_nat _ (by omega)
    obtain ⟨r, ds', el, a2, b2, l, rfl, rfl, hl⟩ := lc_inv (vs := [3]) (g := gNm 3) (tt := dYes) (e := dIx (dP (dTup (dA1 (dK (.int 2)) (dA1 (dK (.int 2)) (dA1 (dK (.int 2)) (dA1 (dK (.int 3)) (dA1 (dK (.int 4)) (dA1 (dK (.int 6)) (dA1 (dK (.int 0)) (dA1 (dK (.int 2)) dA0))))))))) (dCall 2 F_law_next (cAn 0 (cAt (dK (.int 8)) cA0)))))
      (fun i acc ds => ∃ a b, ∃ l : List Int, ds = [some (stD a b), some (.lst true (rows.map tI)), some (nD k), none] ∧ acc = l.map D.int ∧ l.length = i) (xs := lN (List.range k)) (ds := [some (stD a b), some (.lst true (rows.map tI)), some (nD k), none]) ⟨a, b, [], rfl, rfl, rfl⟩
      (by
        rintro i hi acc ds ⟨a, b, l, rfl, rfl, hl⟩
        obtain ⟨a3, b3, v, h0, h1, e3⟩ := next_ok a b 8 (by omega) (by omega)
        obtain ⟨w, rfl⟩ := Int.eq_ofNat_of_zero_le h0
        obtain ⟨c, ec⟩ := pick_ok [2, 2, 2, 3, 4, 6, 0, 2] w (by simp; omega)
        have ec : dAt (.tup [.int 2, .int 2, .int 2, .int 3, .int 4, .int 6, .int 0, .int 2]) (.int w) = some (.int c) := ec
        rw [lN_getE]
        have hik : i < k := by simpa using hi
        refine ⟨[some (stD a b), some (.lst true (rows.map tI)), some (nD k), some (nD i)], [some (stD a b), some (.lst true (rows.map tI)), some (nD k), some (nD i)], true, by simp, by simp, fun _ => ⟨.int c, [some (stD a3 b3), some (.lst true (rows.map tI)), some (nD k), some (nD i)], by simp [e3, ec], by rw [lt_line, List.length_map, hl]; omega, a3, b3, l ++ [c], by simp, by simp, by simp [hl]⟩, fun h => nomatch h⟩)
    refine ⟨[some (stD a2 b2), some (.lst true ((rows ++ [l]).map tI)), some (nD k), none], by simp, ?_, a2, b2, _, rows ++ [l], rfl, by simp [hr], okT_snoc ht (by simpa [hr] using hl)⟩
    simp [f3, range_lN, el, fTuple, show rows.length < 16777216 by omega, tI]
  · rintro ds ⟨a, b, j2, rows, rfl, hr, ht⟩
    have hr2 : rows.length = n + 1 := by simpa using hr
    refine ⟨⟨rows, a, b⟩, ⟨ht, by show 1 ≤ rows.length; omega, by show rows.length ≤ 6; omega⟩, ?_⟩
    simp [fTuple, outsOf, List.range, List.range.loop, tT]
end K

namespace K
open PySem L2 DL K25
theorem range_pw (n : Nat) : (List.range n).Pairwise (· < ·) := by
  exact List.pairwise_lt_range
/-- the mirrors that are drawn -/
theorem draw_ok (n : Nat) (hn : n ≤ 6) (d0 d1 d3 d4 : Option D) (a b : Int) (rest : DS) : ∃ (ms : List Nat) (a' b' : Int), ((∀ x ∈ ms, x < n) ∧ ms.Pairwise (· < ·) ∧ ms.length ≤ 6) ∧
    lcLoop [5] (gNm 5) (dB (dOp dGt (dP (dCall 2 F_law_next (cAn 2 (cAt (dK (.int 4)) cA0))) (dK (.int 0))))) (dN 5) (lN (List.range n)) [] (d0 :: d1 :: some (stD a b) :: d3 :: d4 :: none :: rest) = some (lN ms, d0 :: d1 :: some (stD a' b') :: d3 :: d4 :: none :: rest) := by
  obtain ⟨r, ds', el, a2, b2, ms, rfl, rfl, h1, h2, h3⟩ := lc_inv (vs := [5]) (g := gNm 5) (tt := dB (dOp dGt (dP (dCall 2 F_law_next (cAn 2 (cAt (dK (.int 4)) cA0))) (dK (.int 0))))) (e := dN 5)
    (fun i acc ds => ∃ a b, ∃ ms : List Nat, ds = d0 :: d1 :: some (stD a b) :: d3 :: d4 :: none :: rest ∧ acc = lN ms ∧ (∀ x ∈ ms, x < i) ∧ ms.Pairwise (· < ·) ∧ ms.length ≤ i) (xs := lN (List.range n)) (ds := d0 :: d1 :: some (stD a b) :: d3 :: d4 :: none :: rest) ⟨a, b, [], rfl, rfl, (fun x h => nomatch h), .nil, Nat.zero_le _⟩
    (by
      rintro i hi acc ds ⟨a, b, ms, rfl, rfl, h1, h2, h3⟩
      obtain ⟨a3, b3, v, h0, hv, e3⟩ := next_ok a b 4 (by omega) (by omega)
      have hin : i < n := by simpa using hi
      rw [lN_getE]
      refine ⟨d0 :: d1 :: some (stD a b) :: d3 :: d4 :: some (nD i) :: rest, d0 :: d1 :: some (stD a3 b3) :: d3 :: d4 :: some (nD i) :: rest, decide (0 < v), by simp, by simp [e3, dCmp], fun _ => ⟨nD i, d0 :: d1 :: some (stD a3 b3) :: d3 :: d4 :: some (nD i) :: rest, by simp, by rw [lN_len, lt_line]; omega, a3, b3, ms ++ [i], by simp, by simp, fun x hx => ?_, ?_, by simp; omega⟩, fun _ => ⟨a3, b3, ms, by simp, rfl, fun x hx => Nat.lt_succ_of_lt (h1 x hx), h2, by omega⟩⟩
      · rcases List.mem_append.mp hx with hx | hx
        · exact Nat.lt_succ_of_lt (h1 x hx)
        · rw [List.mem_singleton.mp hx]; exact Nat.lt_succ_self i
      · refine List.pairwise_append.mpr ⟨h2, by simp, fun x hx y hy => ?_⟩
        rw [List.mem_singleton.mp hy]; exact h1 x hx)
  simp only [lN_len, List.length_range] at h1 h3
  exact ⟨ms, a2, b2, ⟨h1, h2, by omega⟩, el⟩
theorem pieces_nil (t : List (List Int)) : F_pieces [tT t, .lst true []] = some (.ok (.lst true []) [some (tT t), some (.lst false [])]) := by
  simp [F_pieces, dLoop, outsOf, List.range, List.range.loop]
theorem kit_list : kitB "list" "list" = some true := by decide +kernel
theorem pc_min {f : Nat → Nat} {ms : List Nat} {m : Nat} (h : m ∈ mins f ms) : pc f ms m = ms.filter fun o => f o == m := by
  obtain ⟨_, h2⟩ := List.mem_filter.mp h
  rw [beq_iff_eq] at h2
  unfold pc
  rw [h2]
theorem law_yes : LawYes F_law := by
  intro ns d hl hd
  have hd : ScriptD ns d := hd
  obtain ⟨n19, hn19, hm⟩ : ∃ n : Nat, n ≤ 19 ∧ fMin2 [.int ns.length, .int 19] = some (.int n) := by
    refine ⟨min ns.length 19, by omega, ?_⟩
    exact fMin2_nat ns.length 19
  have f1 : i62 (1 + (n19 : Int)) = true := by rw [show (1 + (n19 : Int)) = ((n19 + 1 : Nat) : Int) by omega]; exact i62_nat _ (by omega)
  have f2 : (1 + (n19 : Int)).toNat = n19 + 1 := by omega
  suffices h : ∃ outs : DS, True ∧ F_law [d] = some (.ok (.bl true) outs) by
    obtain ⟨outs, _, h⟩ := h
    exact ⟨outs, h⟩
  simp only [F_law, ev_fn, ev_seq]
  simp [Option.bind_assoc, hd.sh, hd.len, hm, f1, f2, dAdd, range_lN]
  refine run_one (loop_nat (fun k ds => ∃ j1 j2 j3 j4 j6 j7 j8 j9 j10, ds = [some d, j1, j2, j3, j4, none, j6, j7, j8, j9, j10] ∧ (0 < k → ∃ t, j3 = some (tT t))) (ms := List.range (n19 + 1)) ⟨none, none, none, none, none, none, none, none, none, rfl, fun h => absurd h (Nat.lt_irrefl _)⟩ ?_) ?_
  · rintro k hk ds ⟨j1, j2, j3, j4, j6, j7, j8, j9, j10, rfl, _⟩
    have hk2 : (List.range (n19 + 1))[k] = k := by simp
    obtain ⟨c, e1⟩ := cell_ok hd k
    obtain ⟨a, b, e2⟩ := stream_ok c k
    obtain ⟨⟨t, a1, b1⟩, ⟨ht, ht1, ht6⟩, e3⟩ := sparse_ok a b
    simp only at ht ht1 ht6 e3
    obtain ⟨ms, a2, b2, ⟨hs, hp, hl⟩, e4⟩ := draw_ok t.length ht6 (some d) (some (nD k)) (some (tT t)) j4 a1 b1 [j6, j7, j8, j9, j10]
    obtain ⟨f, hf, e5⟩ := due_ok (b := true) ht hs hp hl
    have f3 : i62 (t.length : Int) = true := i62_nat _ (by omega)
    rw [hk2]
    refine ⟨[some d, some (nD k), j2, j3, j4, none, j6, j7, j8, j9, j10], ?_⟩
    have body : ∃ ds2, dFor (dRg1 (dO1 (dK (.int 2)))) (gNm 8) (dSeq (dAsg (dCall 2 F_pieces (cAt (dN 3) (cAn 6 cA0))) (gNm 9))
    (dSeq (dIfS (dOr (dNot (dB (dIsi "list" (dRd (dNm 9))))) (dOr (dB (dOp dNe (dPb (dRd (dNm 9)) (dNm 7)))) (dB (dOp dNe (dPb (dRd (dNm 6)) (dNm 4)))))) (dRet (dK (.bl false))) dPass)
    (dSeq (dForC 9 10 (dSeq (dIfS (dNot (dB (dIsi "list" (dRd (dNm 10))))) (dRet (dK (.bl false))) dPass)
    (dDrop (dApp 10 (dK (.int 9))))))
    (dDrop (dApp 9 (dFz (dLst dA0))))))) [some d, some (nD k), some (stD a2 b2), some (tT t), some (.lst false (lN ms)), none, some (.lst true (lN ms)), some (.lst true ((mins f ms).map fun m => .lst false (lN (ms.filter fun o => f o == m)))), j8, j9, j10] = some (.nx, ds2) ∧
      ∃ j1 j2 j3 j4 j6 j7 j8 j9 j10, ds2 = [some d, j1, j2, j3, j4, none, j6, j7, j8, j9, j10] ∧ (0 < k + 1 → ∃ t, j3 = some (tT t)) := by
      refine for_nat (ms := List.range 2) (ds0 := [some d, some (nD k), some (stD a2 b2), some (tT t), some (.lst false (lN ms)), none, some (.lst true (lN ms)), some (.lst true ((mins f ms).map fun m => .lst false (lN (ms.filter fun o => f o == m)))), j8, j9, j10])
        (I := fun _ ds => ∃ m6 j8 j9 j10, ds = [some d, some (nD k), some (stD a2 b2), some (tT t), some (.lst false (lN ms)), none, some (.lst m6 (lN ms)), some (.lst true ((mins f ms).map fun m => .lst false (lN (ms.filter fun o => f o == m)))), j8, j9, j10]) ?_ ⟨true, j8, j9, j10, rfl⟩ ?_ ?_
      · simp [show i62 2 = true from rfl]
        rfl
      · rintro r hr ds ⟨m6, j8, j9, j10, rfl⟩
        have hr2 : (List.range 2)[r] = r := by simp
        rw [hr2]
        refine ⟨[some d, some (nD k), some (stD a2 b2), some (tT t), some (.lst false (lN ms)), none, some (.lst m6 (lN ms)), some (.lst true ((mins f ms).map fun m => .lst false (lN (ms.filter fun o => f o == m)))), some (nD r), j9, j10], ?_⟩
        have ml : (mins f ms).length ≤ 6 := Nat.le_trans (List.length_filter_le ..) hl
        have o1 : okEL 59 ((mins f ms).map fun m => D.lst true (lN (pc f ms m))) = true := okEL_map (by simp [okE])
        have o2 : okEL 59 ((mins f ms).map fun m => D.lst false (lN (ms.filter fun o => f o == m))) = true := okEL_map (by simp [okE])
        have o3 : eqvDL ((mins f ms).map fun m => D.lst true (lN (pc f ms m))) ((mins f ms).map fun m => D.lst false (lN (ms.filter fun o => f o == m))) = true := eqvDL_map fun m hm => by
          rw [pc_min hm]
          simp [eqvD, lN_eqv]
        obtain ⟨ds3, e6, w, rfl⟩ := loop_inv (g := gNm 10) (b := dSeq (dIfS (dNot (dB (dIsi "list" (dRd (dNm 10))))) (dRet (dK (.bl false))) dPass) (dDrop (dApp 10 (dK (.int 9)))))
          (fun _ ds => ∃ w, ds = [some d, some (nD k), some (stD a2 b2), some (tT t), some (.lst false (lN ms)), none, some (.lst false (lN ms)), some (.lst true ((mins f ms).map fun m => .lst false (lN (ms.filter fun o => f o == m)))), some (nD r), none, w])
          (xs := (mins f ms).map fun m => D.lst true (lN (pc f ms m))) (ds := [some d, some (nD k), some (stD a2 b2), some (tT t), some (.lst false (lN ms)), none, some (.lst false (lN ms)), some (.lst true ((mins f ms).map fun m => .lst false (lN (ms.filter fun o => f o == m)))), some (nD r), none, j10]) ⟨j10, rfl⟩ (by
            rintro i hi ds ⟨w, rfl⟩
            have hi2 : i < (mins f ms).length := by simpa using hi
            have pl : (pc f ms ((mins f ms)[i])).length < 16777216 := by
              have : (pc f ms ((mins f ms)[i])).length ≤ ms.length := List.length_filter_le ..
              omega
            refine ⟨[some d, some (nD k), some (stD a2 b2), some (tT t), some (.lst false (lN ms)), none, some (.lst false (lN ms)), some (.lst true ((mins f ms).map fun m => .lst false (lN (ms.filter fun o => f o == m)))), some (nD r), none, some (.lst true (lN (pc f ms ((mins f ms)[i]))))], _, by simp, by simp [tyD, kit_list, pl]; rfl, _, rfl⟩)
        refine ex_and (by simp) ⟨_, by simp [pieces_ok hf ht hs hp (show ms.length ≤ 900 by omega), tyD, kit_list, dNe, okE, okEL, o1, o2, o3, eqvD, lN_eqv, e6, show (mins f ms).length < 16777216 by omega]; exact ⟨rfl, rfl, rfl⟩, false, _, _, _, rfl⟩
      · rintro ds ⟨m6, j8, j9, j10, rfl⟩
        exact ⟨_, _, _, _, _, _, _, _, _, rfl, fun _ => ⟨t, rfl⟩⟩
    obtain ⟨ds2, e6, h⟩ := body
    refine ⟨ds2, by simp, ?_, h⟩
    simp [-ev_for, hd.sh, e1, e2, e3, f3, range_lN, e4, fList, e5, e6]
  · rintro ds ⟨j1, j2, j3, j4, j6, j7, j8, j9, j10, rfl, ht⟩
    obtain ⟨t, rfl⟩ := ht (by simp)
    simp [pieces_nil, dEq, okE, okEL, eqvD, eqvDL]
end K

namespace K
open PySem L2 DL
theorem all_mk {l : PySem.W.OpenLaw} {w : World} {K : PySem.W.Frag} {h : Heap} {mg : Str → Option Value} {fa : Addr} (X : K.In h) (G : h.Ns mainGlobals mg) (hfa : mg "law" = some (.ref fa))
    {f0 : Addr} {od0 an0 : Option Addr} {sl0 : Array (Option Value)} {oc0 kV0 dc0 pm0 cd0 ct0 : Value}
    (a0 : PySem.W.nsIn K mainGlobals "order" = some (some (.ref f0))) (l0 : K.lookup f0 = some ⟨oc0, od0, .func (PySem.W.fnOf "order" "order" (defArgs s_order) (defBody s_order) (defScope s_order) .none kV0 dc0 pm0 an0 cd0 ct0), sl0⟩) (c0 : PySem.W.codeIn K cd0 "order" = true) (k0 : PySem.W.keepIn K (.ref f0) = true)
    {f1 : Addr} {od1 an1 : Option Addr} {sl1 : Array (Option Value)} {oc1 kV1 dc1 pm1 cd1 ct1 : Value}
    (a1 : PySem.W.nsIn K mainGlobals "_law_cell" = some (some (.ref f1))) (l1 : K.lookup f1 = some ⟨oc1, od1, .func (PySem.W.fnOf "_law_cell" "_law_cell" (defArgs s_law_cell) (defBody s_law_cell) (defScope s_law_cell) .none kV1 dc1 pm1 an1 cd1 ct1), sl1⟩) (c1 : PySem.W.codeIn K cd1 "_law_cell" = true) (k1 : PySem.W.keepIn K (.ref f1) = true)
    {f2 : Addr} {od2 an2 : Option Addr} {sl2 : Array (Option Value)} {oc2 kV2 dc2 pm2 cd2 ct2 : Value}
    (a2 : PySem.W.nsIn K mainGlobals "_law_stream" = some (some (.ref f2))) (l2 : K.lookup f2 = some ⟨oc2, od2, .func (PySem.W.fnOf "_law_stream" "_law_stream" (defArgs s_law_stream) (defBody s_law_stream) (defScope s_law_stream) .none kV2 dc2 pm2 an2 cd2 ct2), sl2⟩) (c2 : PySem.W.codeIn K cd2 "_law_stream" = true) (k2 : PySem.W.keepIn K (.ref f2) = true)
    {f3 : Addr} {od3 an3 : Option Addr} {sl3 : Array (Option Value)} {oc3 kV3 dc3 pm3 cd3 ct3 : Value}
    (a3 : PySem.W.nsIn K mainGlobals "_law_next" = some (some (.ref f3))) (l3 : K.lookup f3 = some ⟨oc3, od3, .func (PySem.W.fnOf "_law_next" "_law_next" (defArgs s_law_next) (defBody s_law_next) (defScope s_law_next) .none kV3 dc3 pm3 an3 cd3 ct3), sl3⟩) (c3 : PySem.W.codeIn K cd3 "_law_next" = true) (k3 : PySem.W.keepIn K (.ref f3) = true)
    {f4 : Addr} {od4 an4 : Option Addr} {sl4 : Array (Option Value)} {oc4 kV4 dc4 pm4 cd4 ct4 : Value}
    (a4 : PySem.W.nsIn K mainGlobals "_law_order" = some (some (.ref f4))) (l4 : K.lookup f4 = some ⟨oc4, od4, .func (PySem.W.fnOf "_law_order" "_law_order" (defArgs s_law_order) (defBody s_law_order) (defScope s_law_order) .none kV4 dc4 pm4 an4 cd4 ct4), sl4⟩) (c4 : PySem.W.codeIn K cd4 "_law_order" = true) (k4 : PySem.W.keepIn K (.ref f4) = true)
    {f5 : Addr} {od5 an5 : Option Addr} {sl5 : Array (Option Value)} {oc5 kV5 dc5 pm5 cd5 ct5 : Value}
    (a5 : PySem.W.nsIn K mainGlobals "joined" = some (some (.ref f5))) (l5 : K.lookup f5 = some ⟨oc5, od5, .func (PySem.W.fnOf "joined" "joined" (defArgs s_joined) (defBody s_joined) (defScope s_joined) .none kV5 dc5 pm5 an5 cd5 ct5), sl5⟩) (c5 : PySem.W.codeIn K cd5 "joined" = true) (k5 : PySem.W.keepIn K (.ref f5) = true)
    {f6 : Addr} {od6 an6 : Option Addr} {sl6 : Array (Option Value)} {oc6 kV6 dc6 pm6 cd6 ct6 : Value}
    (a6 : PySem.W.nsIn K mainGlobals "_law_sparse" = some (some (.ref f6))) (l6 : K.lookup f6 = some ⟨oc6, od6, .func (PySem.W.fnOf "_law_sparse" "_law_sparse" (defArgs s_law_sparse) (defBody s_law_sparse) (defScope s_law_sparse) .none kV6 dc6 pm6 an6 cd6 ct6), sl6⟩) (c6 : PySem.W.codeIn K cd6 "_law_sparse" = true) (k6 : PySem.W.keepIn K (.ref f6) = true)
    {f7 : Addr} {od7 an7 : Option Addr} {sl7 : Array (Option Value)} {oc7 kV7 dc7 pm7 cd7 ct7 : Value}
    (a7 : PySem.W.nsIn K mainGlobals "_law_due" = some (some (.ref f7))) (l7 : K.lookup f7 = some ⟨oc7, od7, .func (PySem.W.fnOf "_law_due" "_law_due" (defArgs s_law_due) (defBody s_law_due) (defScope s_law_due) .none kV7 dc7 pm7 an7 cd7 ct7), sl7⟩) (c7 : PySem.W.codeIn K cd7 "_law_due" = true) (k7 : PySem.W.keepIn K (.ref f7) = true)
    {f8 : Addr} {od8 an8 : Option Addr} {sl8 : Array (Option Value)} {oc8 kV8 dc8 pm8 cd8 ct8 : Value}
    (a8 : PySem.W.nsIn K mainGlobals "piece_of" = some (some (.ref f8))) (l8 : K.lookup f8 = some ⟨oc8, od8, .func (PySem.W.fnOf "piece_of" "piece_of" (defArgs s_piece_of) (defBody s_piece_of) (defScope s_piece_of) .none kV8 dc8 pm8 an8 cd8 ct8), sl8⟩) (c8 : PySem.W.codeIn K cd8 "piece_of" = true) (k8 : PySem.W.keepIn K (.ref f8) = true)
    {f9 : Addr} {od9 an9 : Option Addr} {sl9 : Array (Option Value)} {oc9 kV9 dc9 pm9 cd9 ct9 : Value}
    (a9 : PySem.W.nsIn K mainGlobals "pieces" = some (some (.ref f9))) (l9 : K.lookup f9 = some ⟨oc9, od9, .func (PySem.W.fnOf "pieces" "pieces" (defArgs s_pieces) (defBody s_pieces) (defScope s_pieces) .none kV9 dc9 pm9 an9 cd9 ct9), sl9⟩) (c9 : PySem.W.codeIn K cd9 "pieces" = true) (k9 : PySem.W.keepIn K (.ref f9) = true)
    {f10 : Addr} {od10 an10 : Option Addr} {sl10 : Array (Option Value)} {oc10 kV10 dc10 pm10 cd10 ct10 : Value}
    (a10 : PySem.W.nsIn K mainGlobals "law" = some (some (.ref f10))) (l10 : K.lookup f10 = some ⟨oc10, od10, .func (PySem.W.fnOf "law" "law" (defArgs s_law) (defBody s_law) (defScope s_law) .none kV10 dc10 pm10 an10 cd10 ct10), sl10⟩) (c10 : PySem.W.codeIn K cd10 "law" = true) (k10 : PySem.W.keepIn K (.ref f10) = true)
    (z_any : PySem.W.nsIn K mainGlobals "any" = some none)
    (z_int : PySem.W.nsIn K mainGlobals "int" = some none)
    (z_isinstance : PySem.W.nsIn K mainGlobals "isinstance" = some none)
    (z_len : PySem.W.nsIn K mainGlobals "len" = some none)
    (z_list : PySem.W.nsIn K mainGlobals "list" = some none)
    (z_max : PySem.W.nsIn K mainGlobals "max" = some none)
    (z_min : PySem.W.nsIn K mainGlobals "min" = some none)
    (z_range : PySem.W.nsIn K mainGlobals "range" = some none)
    (z_sorted : PySem.W.nsIn K mainGlobals "sorted" = some none)
    (z_tuple : PySem.W.nsIn K mainGlobals "tuple" = some none)
    : ∃ fd : FuncData, (∀ (s : Shared) (v : Value), BindsTo s fd ⟨[v], []⟩ [("script", v)]) ∧ ∀ base : Heap, K.In base → base.Ns mainGlobals mg → FnOk l.prog w K mg base CX0 5 fa fd ["script"] (spLaw K) := by
  have e := hfa.symm.trans (PySem.W.mg_of X G a10)
  cases e
  have T : Txt K mg := ⟨mg_no X G z_any, mg_no X G z_int, mg_no X G z_isinstance, mg_no X G z_len, mg_no X G z_list, mg_no X G z_max, mg_no X G z_min, mg_no X G z_range, mg_no X G z_sorted, mg_no X G z_tuple⟩
  have A0 := at_mk (st := s_order) (ps := ["table", "one", "other"]) X G a0 l0 c0 k0 fun _ _ _ _ _ _ us hl => match us, hl with | [_, _, _], _ => rfl
  have A1 := at_mk (st := s_law_cell) (ps := ["script", "k"]) X G a1 l1 c1 k1 fun _ _ _ _ _ _ us hl => match us, hl with | [_, _], _ => rfl
  have A2 := at_mk (st := s_law_stream) (ps := ["cell", "k"]) X G a2 l2 c2 k2 fun _ _ _ _ _ _ us hl => match us, hl with | [_, _], _ => rfl
  have A3 := at_mk (st := s_law_next) (ps := ["stream", "many"]) X G a3 l3 c3 k3 fun _ _ _ _ _ _ us hl => match us, hl with | [_, _], _ => rfl
  have A4 := at_mk (st := s_law_order) (ps := ["table", "one", "two"]) X G a4 l4 c4 k4 fun _ _ _ _ _ _ us hl => match us, hl with | [_, _, _], _ => rfl
  have A5 := at_mk (st := s_joined) (ps := ["table", "one", "other"]) X G a5 l5 c5 k5 fun _ _ _ _ _ _ us hl => match us, hl with | [_, _, _], _ => rfl
  have A6 := at_mk (st := s_law_sparse) (ps := ["stream"]) X G a6 l6 c6 k6 fun _ _ _ _ _ _ us hl => match us, hl with | [_], _ => rfl
  have A7 := at_mk (st := s_law_due) (ps := ["table", "mirrors"]) X G a7 l7 c7 k7 fun _ _ _ _ _ _ us hl => match us, hl with | [_, _], _ => rfl
  have A8 := at_mk (st := s_piece_of) (ps := ["table", "mirror", "mirrors"]) X G a8 l8 c8 k8 fun _ _ _ _ _ _ us hl => match us, hl with | [_, _, _], _ => rfl
  have A9 := at_mk (st := s_pieces) (ps := ["table", "mirrors"]) X G a9 l9 c9 k9 fun _ _ _ _ _ _ us hl => match us, hl with | [_, _], _ => rfl
  have A10 := at_mk (st := s_law) (ps := ["script"]) X G a10 l10 c10 k10 fun _ _ _ _ _ _ us hl => match us, hl with | [_], _ => rfl
  refine ⟨PySem.W.fnOf "law" "law" (defArgs s_law) (defBody s_law) (defScope s_law) .none kV10 dc10 pm10 an10 cd10 ct10, fun s v => .of_eq rfl, fun base _ _ => ?_⟩
  have h0 : Has l.prog w K mg base "order" 1 3 F_order := ok_order A0 T 
  have h1 : Has l.prog w K mg base "_law_cell" 1 2 F_law_cell := ok_law_cell A1 T 
  have h2 : Has l.prog w K mg base "_law_stream" 1 2 F_law_stream := ok_law_stream A2 T 
  have h3 : Has l.prog w K mg base "_law_next" 1 2 F_law_next := ok_law_next A3 T 
  have h4 : Has l.prog w K mg base "_law_order" 1 3 F_law_order := ok_law_order A4 T 
  have h5 : Has l.prog w K mg base "joined" 2 3 F_joined := ok_joined A5 T h0
  have h6 : Has l.prog w K mg base "_law_sparse" 2 1 F_law_sparse := ok_law_sparse A6 T h3
  have h7 : Has l.prog w K mg base "_law_due" 2 2 F_law_due := ok_law_due A7 T h4
  have h8 : Has l.prog w K mg base "piece_of" 3 3 F_piece_of := ok_piece_of A8 T h5
  have h9 : Has l.prog w K mg base "pieces" 4 2 F_pieces := ok_pieces A9 T h8
  exact law_end (ok_law A10 T h1 h7 h3 h6 h2 h9) law_yes
end K
open PySem PySem.W PyProof.Rows in
set_option maxRecDepth 100000 in
set_option maxHeartbeats 0 in
theorem PySem.Challenge.cw_fewestmirrors_k25_pieces_of_tables_holds : PySem.Challenge.rw_fewestmirrors_k25_pieces_of_tables.Holds := by
  w_on; o_law; k_head; (case hw => w_witness2)
  k_fill
  refine DL.law_walk (l := PySem.Challenge.rw_fewestmirrors_k25_pieces_of_tables) (k := 5) rfl rfl ⟨rfl, by decide, by decide⟩ (fun w h Y => PySem.W.kIn_of Y) ?F
  case F =>
    intro w mg fa h KX G hmg
    refine' K.all_mk KX G hmg ?a0 ?l0 ?c0 ?k0 ?a1 ?l1 ?c1 ?k1 ?a2 ?l2 ?c2 ?k2 ?a3 ?l3 ?c3 ?k3 ?a4 ?l4 ?c4 ?k4 ?a5 ?l5 ?c5 ?k5 ?a6 ?l6 ?c6 ?k6 ?a7 ?l7 ?c7 ?k7 ?a8 ?l8 ?c8 ?k8 ?a9 ?l9 ?c9 ?k9 ?a10 ?l10 ?c10 ?k10 ?z_any ?z_int ?z_isinstance ?z_len ?z_list ?z_max ?z_min ?z_range ?z_sorted ?z_tuple
    (case a0 => k_is)
    (case l0 => k_is)
    (case c0 => k_is)
    (case k0 => k_is)
    (case a1 => k_is)
    (case l1 => k_is)
    (case c1 => k_is)
    (case k1 => k_is)
    (case a2 => k_is)
    (case l2 => k_is)
    (case c2 => k_is)
    (case k2 => k_is)
    (case a3 => k_is)
    (case l3 => k_is)
    (case c3 => k_is)
    (case k3 => k_is)
    (case a4 => k_is)
    (case l4 => k_is)
    (case c4 => k_is)
    (case k4 => k_is)
    (case a5 => k_is)
    (case l5 => k_is)
    (case c5 => k_is)
    (case k5 => k_is)
    (case a6 => k_is)
    (case l6 => k_is)
    (case c6 => k_is)
    (case k6 => k_is)
    (case a7 => k_is)
    (case l7 => k_is)
    (case c7 => k_is)
    (case k7 => k_is)
    (case a8 => k_is)
    (case l8 => k_is)
    (case c8 => k_is)
    (case k8 => k_is)
    (case a9 => k_is)
    (case l9 => k_is)
    (case c9 => k_is)
    (case k9 => k_is)
    (case a10 => k_is)
    (case l10 => k_is)
    (case c10 => k_is)
    (case k10 => k_is)
    (case z_any => k_is)
    (case z_int => k_is)
    (case z_isinstance => k_is)
    (case z_len => k_is)
    (case z_list => k_is)
    (case z_max => k_is)
    (case z_min => k_is)
    (case z_range => k_is)
    (case z_sorted => k_is)
    (case z_tuple => k_is)

