import PyProof.Rows.All
import Wide.All
import OpenK.AllK
import Wide.FinOn
import HandS.ForMost
import HandS.Nested
import HandS.Wide
import HandS.Style
import HandS.IsInst
import HandS.ForExc
import KE.KExcSuper
import HandS.ExcInit
import HandS.ExcSuper
import HandS.ClsMeth
import HandS.FStr
import PyProof.FitsInt
import HandS.OwnEq
import HandS.More
import HandS.Conv
import KE.KExcIs
import HandS.ExcField
import HandS.Lambda
import PySem.Challenge.RW_thinwall_k00_split_tells_its_cells
import KE.KNestM
import KE.KLam
import HandS.EndTab
set_option Elab.async false
set_option linter.all false
set_option maxRecDepth 100000
set_option maxHeartbeats 4000000
namespace DL
open PySem L2

/-- a value with all that hangs on it -/
inductive D where
  | non | bl (b : Bool) | int (i : Int) | str (x : Str) | lst (xs : List D) | tup (xs : List D) | ins (C : Addr) (ns : List Str) (xs : List D) | raw (a : Addr) | rol (xs : List D) | ty (n : String) | err (a dd : Addr) (ns : List Str) (xs : List D)

/-- what stands through the whole law: the written part, the tables of code objects -/
structure Ct where
  K : PySem.W.Frag
  T : List NdefX.NTab

mutual
def Is (G : Ct) (W : Hp) : D → V → Prop
  | .non, v => v = .non
  | .bl b, v => v = .bl b
  | .int i, v => v = .int i
  | .str x, v => v = .str x
  | .lst ds, v => ∃ a vs, v = .ref a ∧ W a = some (.lst vs) ∧ IsL G W ds vs
  | .rol ds, v => ∃ a vs, v = .ref a ∧ SqL G.K W a vs ∧ IsL G W ds vs
  | .tup ds, v => ∃ a vs, v = .ref a ∧ SqT G.K W a vs ∧ IsL G W ds vs
  | .ins C ns ds, v => ∃ a dx vs, v = .ref a ∧ W a = some (.ins C dx (ns.zip vs)) ∧ ns.length = vs.length ∧ IsL G W ds vs
  | .raw a, v => v = .ref a
  | .ty n, v => v = .ty n
  | .err a dd ns ds, v => v = .ref a ∧ ∃ vs, W dd = some (.xd (ns.zip vs)) ∧ IsL G W ds vs
def IsL (G : Ct) (W : Hp) : List D → List V → Prop
  | [], vs => vs = []
  | d :: ds, vs => ∃ v ws, vs = v :: ws ∧ Is G W d v ∧ IsL G W ds ws
end

theorem _root_.L2.Same.sqt {K : PySem.W.Frag} {H H' : Hp} {a : Addr} {xs : List V} (e : Same H H') (h : SqT K H a xs) : SqT K H' a xs := by
  rcases h with (h | ⟨o, h⟩) | h
  · exact .inl (.inl (e _ _ h))
  · exact .inl (.inr ⟨o, e _ _ h⟩)
  · exact .inr h

mutual
theorem Is.mono {G : Ct} {W W' : Hp} (e : Same W W') : ∀ {d : D} {v : V}, Is G W d v → Is G W' d v
  | .non, _, h => h
  | .bl _, _, h => h
  | .int _, _, h => h
  | .str _, _, h => h
  | .raw _, _, h => h
  | .ty _, _, h => h
  | .err a dd ns ds, v, h => by
    unfold Is at h ⊢
    obtain ⟨h1, vs, h2, h3⟩ := h
    exact ⟨h1, vs, e _ _ h2, IsL.mono e h3⟩
  | .lst ds, v, h => by
    unfold Is at h ⊢
    obtain ⟨a, vs, h1, h2, h3⟩ := h
    exact ⟨a, vs, h1, e _ _ h2, IsL.mono e h3⟩
  | .rol ds, v, h => by
    unfold Is at h ⊢
    obtain ⟨a, vs, h1, h2, h3⟩ := h
    exact ⟨a, vs, h1, e.seq h2, IsL.mono e h3⟩
  | .tup ds, v, h => by
    unfold Is at h ⊢
    obtain ⟨a, vs, h1, h2, h3⟩ := h
    exact ⟨a, vs, h1, L2.Same.sqt e h2, IsL.mono e h3⟩
  | .ins C ns ds, v, h => by
    unfold Is at h ⊢
    obtain ⟨a, dx, vs, h1, h2, h3, h4⟩ := h
    exact ⟨a, dx, vs, h1, e _ _ h2, h3, IsL.mono e h4⟩
theorem IsL.mono {G : Ct} {W W' : Hp} (e : Same W W') : ∀ {ds : List D} {vs : List V}, IsL G W ds vs → IsL G W' ds vs
  | [], _, h => h
  | d :: ds, vs, h => by
    unfold IsL at h ⊢
    obtain ⟨v, ws, h1, h2, h3⟩ := h
    exact ⟨v, ws, h1, Is.mono e h2, IsL.mono e h3⟩
end
end DL

namespace DL
open PySem L2
variable {G : Ct}

/-! ### lists of data -/
theorem IsL.len {W : Hp} : ∀ {ds : List D} {vs : List V}, IsL G W ds vs → ds.length = vs.length
  | [], vs, h => by unfold IsL at h; subst h; rfl
  | d :: ds, vs, h => by
    unfold IsL at h
    obtain ⟨v, ws, rfl, _, h3⟩ := h
    simp [IsL.len h3]
theorem IsL.nil {W : Hp} : IsL G W [] [] := by unfold IsL; rfl
theorem IsL.cons {W : Hp} {d : D} {v : V} {ds : List D} {vs : List V} (h : Is G W d v) (t : IsL G W ds vs) : IsL G W (d :: ds) (v :: vs) := by
  unfold IsL
  exact ⟨v, vs, rfl, h, t⟩
theorem IsL.uncons {W : Hp} {d : D} {ds : List D} {vs : List V} (h : IsL G W (d :: ds) vs) : ∃ v ws, vs = v :: ws ∧ Is G W d v ∧ IsL G W ds ws := by
  unfold IsL at h
  exact h
theorem IsL.get {W : Hp} : ∀ {ds : List D} {vs : List V} {i : Nat} {d : D}, IsL G W ds vs → ds[i]? = some d → ∃ v, vs[i]? = some v ∧ Is G W d v
  | [], vs, i, d, h, e => by simp at e
  | d' :: ds, vs, 0, d, h, e => by
    obtain ⟨v, ws, rfl, h2, h3⟩ := h.uncons
    simp at e
    subst e
    exact ⟨v, rfl, h2⟩
  | d' :: ds, vs, i + 1, d, h, e => by
    obtain ⟨v, ws, rfl, h2, h3⟩ := h.uncons
    obtain ⟨v', e1, e2⟩ := IsL.get (i := i) h3 (by simpa using e)
    exact ⟨v', by simpa using e1, e2⟩
theorem IsL.getV {W : Hp} : ∀ {ds : List D} {vs : List V} {i : Nat} {v : V}, IsL G W ds vs → vs[i]? = some v → ∃ d, ds[i]? = some d ∧ Is G W d v
  | [], vs, i, v, h, e => by unfold IsL at h; subst h; simp at e
  | d' :: ds, vs, 0, v, h, e => by
    obtain ⟨v', ws, rfl, h2, h3⟩ := h.uncons
    simp at e
    subst e
    exact ⟨d', rfl, h2⟩
  | d' :: ds, vs, i + 1, v, h, e => by
    obtain ⟨v', ws, rfl, h2, h3⟩ := h.uncons
    obtain ⟨d, e1, e2⟩ := IsL.getV (i := i) h3 (by simpa using e)
    exact ⟨d, by simpa using e1, e2⟩
theorem IsL.append {W : Hp} : ∀ {ds es : List D} {vs ws : List V}, IsL G W ds vs → IsL G W es ws → IsL G W (ds ++ es) (vs ++ ws)
  | [], es, vs, ws, h, h' => by unfold IsL at h; subst h; exact h'
  | d :: ds, es, vs, ws, h, h' => by
    obtain ⟨v, us, rfl, h2, h3⟩ := h.uncons
    exact IsL.cons h2 (IsL.append h3 h')
theorem IsL.one {W : Hp} {d : D} {v : V} (h : Is G W d v) : IsL G W [d] [v] := IsL.cons h IsL.nil
theorem IsL.set {W : Hp} : ∀ {ds : List D} {vs : List V} {d : D} {v : V} (i : Nat), IsL G W ds vs → Is G W d v → IsL G W (ds.set i d) (vs.set i v)
  | [], vs, d, v, i, h, h' => by unfold IsL at h; subst h; exact IsL.nil
  | d' :: ds, vs, d, v, 0, h, h' => by
    obtain ⟨v', us, rfl, h2, h3⟩ := h.uncons
    exact IsL.cons h' h3
  | d' :: ds, vs, d, v, i + 1, h, h' => by
    obtain ⟨v', us, rfl, h2, h3⟩ := h.uncons
    exact IsL.cons h2 (IsL.set i h3 h')
theorem IsL.drop {W : Hp} : ∀ {ds : List D} {vs : List V} (n : Nat), IsL G W ds vs → IsL G W (ds.drop n) (vs.drop n)
  | ds, vs, 0, h => h
  | [], vs, n + 1, h => by unfold IsL at h; subst h; exact IsL.nil
  | d :: ds, vs, n + 1, h => by
    obtain ⟨v', us, rfl, h2, h3⟩ := h.uncons
    exact IsL.drop n h3
theorem IsL.take {W : Hp} : ∀ {ds : List D} {vs : List V} (n : Nat), IsL G W ds vs → IsL G W (ds.take n) (vs.take n)
  | ds, vs, 0, h => by simp; exact IsL.nil
  | [], vs, n + 1, h => by unfold IsL at h; subst h; exact IsL.nil
  | d :: ds, vs, n + 1, h => by
    obtain ⟨v', us, rfl, h2, h3⟩ := h.uncons
    exact IsL.cons h2 (IsL.take n h3)
theorem IsL.reverse {W : Hp} : ∀ {ds : List D} {vs : List V}, IsL G W ds vs → IsL G W ds.reverse vs.reverse
  | [], vs, h => by unfold IsL at h; subst h; exact IsL.nil
  | d :: ds, vs, h => by
    obtain ⟨v, us, rfl, h2, h3⟩ := h.uncons
    rw [List.reverse_cons, List.reverse_cons]
    exact (IsL.reverse h3).append (IsL.one h2)
theorem IsL.eraseIdx {W : Hp} : ∀ {ds : List D} {vs : List V} (i : Nat), IsL G W ds vs → IsL G W (ds.eraseIdx i) (vs.eraseIdx i)
  | [], vs, i, h => by unfold IsL at h; subst h; exact IsL.nil
  | d :: ds, vs, 0, h => by
    obtain ⟨v, us, rfl, h2, h3⟩ := h.uncons
    exact h3
  | d :: ds, vs, i + 1, h => by
    obtain ⟨v, us, rfl, h2, h3⟩ := h.uncons
    exact IsL.cons h2 (IsL.eraseIdx i h3)
theorem IsL.dropLast {W : Hp} {ds : List D} {vs : List V} (h : IsL G W ds vs) : IsL G W ds.dropLast vs.dropLast := by
  rw [List.dropLast_eq_take, List.dropLast_eq_take, ← h.len]
  exact h.take _
theorem isL_ints {W : Hp} : ∀ {ks : List Int}, IsL G W (ks.map D.int) (ks.map V.int)
  | [] => IsL.nil
  | k :: ks => IsL.cons (by unfold Is; rfl) isL_ints
theorem IsL.ints {W : Hp} : ∀ {ks : List Int} {vs : List V}, IsL G W (ks.map D.int) vs → vs = ks.map V.int
  | [], vs, h => by unfold IsL at h; exact h
  | k :: ks, vs, h => by
    obtain ⟨v, us, rfl, h2, h3⟩ := IsL.uncons (d := D.int k) (ds := ks.map D.int) h
    unfold Is at h2
    subst h2
    rw [IsL.ints h3] <;> rfl
theorem IsL.bls {W : Hp} : ∀ {ks : List Bool} {vs : List V}, IsL G W (ks.map D.bl) vs → vs = ks.map V.bl
  | [], vs, h => by unfold IsL at h; exact h
  | k :: ks, vs, h => by
    obtain ⟨v, us, rfl, h2, h3⟩ := IsL.uncons (d := D.bl k) (ds := ks.map D.bl) h
    unfold Is at h2
    subst h2
    rw [IsL.bls h3] <;> rfl
theorem IsL.strs {W : Hp} : ∀ {ks : List Str} {vs : List V}, IsL G W (ks.map D.str) vs → vs = ks.map V.str
  | [], vs, h => by unfold IsL at h; exact h
  | k :: ks, vs, h => by
    obtain ⟨v, us, rfl, h2, h3⟩ := IsL.uncons (d := D.str k) (ds := ks.map D.str) h
    unfold Is at h2
    subst h2
    rw [IsL.strs h3] <;> rfl
theorem IsL.replicate {W : Hp} {d : D} {v : V} (h : Is G W d v) : ∀ n : Nat, IsL G W (List.replicate n d) (List.replicate n v)
  | 0 => IsL.nil
  | n + 1 => IsL.cons h (IsL.replicate h n)

/-! ### pieces of the heap -/
def emp : Hp := fun _ => none
def one (a : Addr) (o : HO) : Hp := fun b => if b = a then some o else none
theorem one_same {a : Addr} {o : HO} : one a o a = some o := by unfold one; rw [if_pos rfl]
theorem one_ne {a b : Addr} {o : HO} (h : b ≠ a) : one a o b = none := by unfold one; rw [if_neg h]
theorem one_some {a b : Addr} {o u : HO} (h : one a o b = some u) : b = a ∧ u = o := by
  unfold one at h
  split at h
  · rename_i q
    exact ⟨q, (Option.some.inj h).symm⟩
  · cases h
def un (m n : Hp) : Hp := fun a => match m a with
  | some o => some o
  | none => n a
theorem un_l {m n : Hp} {a : Addr} {o : HO} (h : m a = some o) : un m n a = some o := by unfold un; rw [h]
theorem un_r {m n : Hp} {a : Addr} (h : m a = none) : un m n a = n a := by unfold un; rw [h]
theorem un_none {m n : Hp} {a : Addr} : un m n a = none ↔ m a = none ∧ n a = none := by
  unfold un
  cases h : m a with
  | none => simp
  | some o => simp
def Dis (m n : Hp) : Prop := ∀ a, m a = none ∨ n a = none
theorem Dis.symm {m n : Hp} (h : Dis m n) : Dis n m := fun a => (h a).symm
theorem Dis.un {m n k : Hp} (h : Dis m k) (h' : Dis n k) : Dis (un m n) k := fun a => by
  rcases h a with e | e
  · rcases h' a with e' | e'
    · exact .inl (un_none.mpr ⟨e, e'⟩)
    · exact .inr e'
  · exact .inr e
theorem Dis.of_un_l {m n k : Hp} (h : Dis (DL.un m n) k) : Dis m k := fun a => by
  rcases h a with e | e
  · exact .inl (un_none.mp e).1
  · exact .inr e
theorem Dis.of_un_r {m n k : Hp} (h : Dis (DL.un m n) k) : Dis n k := fun a => by
  rcases h a with e | e
  · exact .inl (un_none.mp e).2
  · exact .inr e
theorem dis_emp {m : Hp} : Dis emp m := fun a => .inl rfl
theorem Dis.upd {m n : Hp} {p : Addr} {o : HO} (h : Dis m n) (hp : m p = none) : Dis m (L2.upd n p o) := fun a => by
  by_cases e : a = p
  · subst e; exact .inl hp
  · rw [upd_ne e]; exact h a
theorem dis_one {m : Hp} {p : Addr} {o : HO} (hp : m p = none) : Dis (one p o) m := fun a => by
  by_cases e : a = p
  · subst e; exact .inr hp
  · exact .inl (one_ne e)
theorem same_emp {H : Hp} : Same emp H := fun a o h => by cases h
theorem _root_.L2.Same.un {m n H : Hp} (h : Same m H) (h' : Same n H) : Same (DL.un m n) H := fun a o e => by
  cases q : m a with
  | some u =>
    rw [un_l q] at e
    cases e
    exact h a _ q
  | none =>
    rw [un_r q] at e
    exact h' a _ e
theorem _root_.L2.Same.of_un_l {m n H : Hp} (h : Same (DL.un m n) H) : Same m H := fun a o e => h a o (un_l e)
theorem _root_.L2.Same.of_un_r {m n H : Hp} (h : Same (DL.un m n) H) (d : Dis m n) : Same n H := fun a o e => h a o (by
  rcases d a with q | q
  · rw [un_r q]; exact e
  · rw [q] at e; cases e)
theorem same_upd {H : Hp} {p : Addr} {o : HO} (h : H p = none) : Same H (upd H p o) := fun a u e => by rw [upd_ne (ne_of_none e h)]; exact e
theorem _root_.L2.Same.upd {W H : Hp} {p : Addr} {o : HO} (s : Same W H) (hp : W p = none) : Same W (L2.upd H p o) := fun a u e => by rw [upd_ne (ne_of_none e hp)]; exact s a u e
theorem _root_.L2.Same.none {W H : Hp} (s : Same W H) {p : Addr} (h : H p = Option.none) : W p = Option.none := s.free h
theorem same_upd2 {W H : Hp} {p : Addr} {o : HO} (s : Same W H) : Same (upd W p o) (upd H p o) := fun a u e => by
  by_cases q : a = p
  · subst q; rw [upd_same] at e ⊢; exact e
  · rw [upd_ne q] at e ⊢; exact s a u e
/-- no table of code objects among it -/
def NT (m : Hp) : Prop := ∀ a ps, m a ≠ some (.tbl ps)
theorem nt_emp : NT emp := fun a ps z => by cases z
theorem nt_one {p : Addr} {o : HO} (h : ∀ ps, o ≠ .tbl ps) : NT (one p o) := fun a ps z => h ps (one_some z).2.symm
theorem nt_un {m n : Hp} (h : NT m) (k : NT n) : NT (DL.un m n) := fun a ps z => by
  cases q : m a with
  | some u => rw [un_l q] at z; exact h a ps (q.trans z)
  | none => rw [un_r q] at z; exact k a ps z
theorem nt_upd {m : Hp} {p : Addr} {o : HO} (k : NT m) (h : ∀ ps, o ≠ .tbl ps) : NT (upd m p o) := fun a ps z => by
  by_cases q : a = p
  · rw [q, upd_same] at z; exact h ps (Option.some.inj z)
  · rw [upd_ne q] at z; exact k a ps z
theorem NT.of_l {m n : Hp} (h : NT (DL.un m n)) : NT m := fun a ps z => h a ps (un_l z)
theorem NT.of_r {m n : Hp} (h : NT (DL.un m n)) (d : Dis m n) : NT n := fun a ps z => h a ps (by
  rcases d a with q | q
  · rw [un_r q]; exact z
  · rw [q] at z; cases z)
theorem same_one {H : Hp} {p : Addr} {o : HO} (h : H p = some o) : Same (one p o) H := fun a u e => by
  obtain ⟨rfl, rfl⟩ := one_some e
  exact h

/-! ### what a slot holds -/
abbrev Ent := Hp → V → Hp → Prop
def Hold (φ : Ent) (W : Hp) (v : V) (m : Hp) : Prop := ∃ W0, Same W0 W ∧ φ W0 v m
theorem Hold.mono {φ : Ent} {W W' : Hp} {v : V} {m : Hp} (e : Same W W') (h : Hold φ W v m) : Hold φ W' v m :=
  let ⟨W0, e0, h0⟩ := h
  ⟨W0, e0.trans e, h0⟩
theorem Hold.of {φ : Ent} {W : Hp} {v : V} {m : Hp} (h : φ W v m) : Hold φ W v m := ⟨W, Same.refl W, h⟩
/-- a value that no one changes -/
def fr (G : Ct) (d : D) : Ent := fun W v _ => Is G W d v
theorem Hold.fr {d : D} {W : Hp} {v : V} {m : Hp} (h : Hold (fr G d) W v m) : Is G W d v := let ⟨_, e, h0⟩ := h; h0.mono e
/-- a list of our own, its items data -/
def lst (G : Ct) (ds : List D) : Ent := fun W v m => ∃ a vs, v = .ref a ∧ IsL G W ds vs ∧ m = one a (.lst vs)
theorem Hold.lst {ds : List D} {W : Hp} {v : V} {m : Hp} (h : Hold (lst G ds) W v m) : ∃ a vs, v = .ref a ∧ IsL G W ds vs ∧ m = one a (.lst vs) :=
  let ⟨_, e, a, vs, h1, h2, h3⟩ := h
  ⟨a, vs, h1, h2.mono e, h3⟩
abbrev Es := List (Option Ent)

/-- the state: W what is never changed again, F what the callers own, ms what the slots own -/
structure Cfg0 (G : Ct) (W F H : Hp) (σ : St) (es : Es) (ms : Nat → Hp) : Prop where
  at_ : ∀ i φ, es[i]? = some (some φ) → ∃ v, σ[i]? = some (some v) ∧ Hold φ W v (ms i)
  dm : ∀ i j, i ≠ j → Dis (ms i) (ms j)
  dF : ∀ i, Dis (ms i) F
  dW : ∀ i, Dis (ms i) W
  dFW : Dis F W
  sW : Same W H
  sF : Same F H
  sm : ∀ i, Same (ms i) H
  tab : NdefX.TabsN G.T H
  nt : NT W ∧ NT F ∧ ∀ i, NT (ms i)
  len : es.length = σ.length
def Cfg (G : Ct) (W F H : Hp) (σ : St) (es : Es) : Prop := ∃ ms, Cfg0 G W F H σ es ms

section
variable {W W' F F' H H' : Hp} {σ σ' : St} {es es' : Es} {ms : Nat → Hp} {i : Nat} {φ ψ : Ent} {d : D} {v : V} {p a : Addr} {o : HO}
theorem Cfg.sW (c : Cfg G W F H σ es) : Same W H := let ⟨_, c⟩ := c; c.sW
theorem Cfg.sF (c : Cfg G W F H σ es) : Same F H := let ⟨_, c⟩ := c; c.sF
theorem Cfg.tab (c : Cfg G W F H σ es) : NdefX.TabsN G.T H := let ⟨_, c⟩ := c; c.tab
theorem Cfg.getFr (c : Cfg G W F H σ es) (h : es[i]? = some (some (fr G d))) : ∃ v, σ[i]? = some (some v) ∧ Is G W d v := by
  obtain ⟨ms, c⟩ := c
  obtain ⟨v, h1, h2⟩ := c.at_ i _ h
  exact ⟨v, h1, h2.fr⟩
/-- entries forgotten -/
theorem Cfg.weak (c : Cfg G W F H σ es) (h : ∀ (i : Nat) (φ : Ent), es'[i]? = some (some φ) → es[i]? = some (some φ)) (hl : es'.length = es.length) : Cfg G W F H σ es' := by
  obtain ⟨ms, c⟩ := c
  exact ⟨ms, ⟨fun i φ e => c.at_ i φ (h i φ e), c.dm, c.dF, c.dW, c.dFW, c.sW, c.sF, c.sm, c.tab, c.nt, hl.trans c.len⟩⟩
theorem get_set_none {i j : Nat} {φ : Ent} (h : (es.set i none)[j]? = some (some φ)) : es[j]? = some (some φ) ∧ j ≠ i := by
  by_cases e : j = i
  · subst e
    rw [List.getElem?_set] at h
    simp only [if_true] at h
    split at h <;> cases h
  · rw [List.getElem?_set_ne (Ne.symm e)] at h
    exact ⟨h, e⟩
theorem Cfg.drop (c : Cfg G W F H σ es) (i : Nat) : Cfg G W F H σ (es.set i none) := c.weak (fun j φ h => (get_set_none h).1) (by simp)
/-- a value stored in a slot -/
theorem Cfg.store (c : Cfg G W F H σ es) (h : Is G W d v) : Cfg G W F H (σ.set i (some v)) (es.set i (some (fr G d))) := by
  obtain ⟨ms, c⟩ := c
  refine ⟨ms, ⟨fun j φ e => ?_, c.dm, c.dF, c.dW, c.dFW, c.sW, c.sF, c.sm, c.tab, c.nt, by simpa using c.len⟩⟩
  by_cases q : j = i
  · subst q
    rw [List.getElem?_set] at e
    simp only [if_true] at e
    split at e
    · rename_i hi
      rw [c.len] at hi
      cases e
      exact ⟨v, List.getElem?_set_self hi, Hold.of h⟩
    · cases e
  · rw [List.getElem?_set_ne (Ne.symm q)] at e
    rw [List.getElem?_set_ne (Ne.symm q)]
    exact c.at_ j φ e
/-- a new object that no one will change -/
theorem tabs_ext {T : List NdefX.NTab} (t : NdefX.TabsN T H) (e : Same H H') : NdefX.TabsN T H' := t.ext e
theorem Cfg0.freshW (c : Cfg0 G W F H σ es ms) (hp : H p = none) : W p = none ∧ F p = none ∧ ∀ i, ms i p = none :=
  ⟨c.sW.none hp, c.sF.none hp, fun i => (c.sm i).none hp⟩
theorem Cfg.allocW (c : Cfg G W F H σ es) (hp : H p = none) (ho : ∀ ps, o ≠ .tbl ps := by intro ps z; cases z) : Cfg G (upd W p o) F (upd H p o) σ es ∧ Same W (upd W p o) := by
  obtain ⟨ms, c⟩ := c
  obtain ⟨w0, f0, m0⟩ := c.freshW hp
  refine ⟨⟨ms, ⟨fun j φ e => ?_, c.dm, c.dF, fun j => (c.dW j).upd (m0 j), c.dFW.upd f0, same_upd2 c.sW, c.sF.upd f0, fun j => (c.sm j).upd (m0 j), c.tab.ext (same_upd hp), ⟨nt_upd c.nt.1 ho, c.nt.2⟩, c.len⟩⟩, same_upd w0⟩
  obtain ⟨v, h1, h2⟩ := c.at_ j φ e
  exact ⟨v, h1, h2.mono (same_upd w0)⟩
/-- a new object of our own: to the frame -/
theorem Cfg.allocF (c : Cfg G W F H σ es) (hp : H p = none) (ho : ∀ ps, o ≠ .tbl ps := by intro ps z; cases z) : Cfg G W (un (one p o) F) (upd H p o) σ es ∧ Dis (one p o) F := by
  obtain ⟨ms, c⟩ := c
  obtain ⟨w0, f0, m0⟩ := c.freshW hp
  refine ⟨⟨ms, ⟨c.at_, c.dm, fun j => ((dis_one (m0 j)).un (c.dF j).symm).symm, c.dW, (dis_one w0).un c.dFW, c.sW.upd w0, (same_one upd_same).un (c.sF.upd f0), fun j => (c.sm j).upd (m0 j), c.tab.ext (same_upd hp), ⟨c.nt.1, nt_un (nt_one ho) c.nt.2.1, c.nt.2.2⟩, c.len⟩⟩, dis_one f0⟩
/-- what a slot owns goes to the frame -/
theorem Cfg.take (c : Cfg G W F H σ es) (h : es[i]? = some (some φ)) : ∃ v m, σ[i]? = some (some v) ∧ Hold φ W v m ∧ Dis m F ∧ Same m H ∧ Cfg G W (un m F) H σ (es.set i none) := by
  obtain ⟨ms, c⟩ := c
  obtain ⟨v, h1, h2⟩ := c.at_ i _ h
  refine ⟨v, ms i, h1, h2, c.dF i, c.sm i, fun j => if j = i then emp else ms j, ⟨fun j φ e => ?_, fun j k n => ?_, fun j => ?_, fun j => ?_, (c.dW i).un c.dFW, c.sW, (c.sm i).un c.sF, fun j => ?_, c.tab, ⟨c.nt.1, nt_un (c.nt.2.2 i) c.nt.2.1, fun j => (by by_cases e1 : j = i; (· simp only [e1, if_true]; exact nt_emp); (· simp only [e1, if_false]; exact c.nt.2.2 j))⟩, by simpa using c.len⟩⟩
  · obtain ⟨e, n⟩ := get_set_none e
    simp only [n, if_false]
    exact c.at_ j φ e
  · by_cases e1 : j = i
    · simp only [e1, if_true]; exact dis_emp
    · by_cases e2 : k = i
      · simp only [e2, if_true]; exact dis_emp.symm
      · simp only [e1, e2, if_false]; exact c.dm j k n
  · by_cases e1 : j = i
    · simp only [e1, if_true]; exact dis_emp
    · simp only [e1, if_false]
      exact ((c.dm j i e1).symm.un (c.dF j).symm).symm
  · by_cases e1 : j = i
    · simp only [e1, if_true]; exact dis_emp
    · simp only [e1, if_false]; exact c.dW j
  · by_cases e1 : j = i
    · simp only [e1, if_true]; exact same_emp
    · simp only [e1, if_false]; exact c.sm j
/-- .. and back from it -/
theorem Cfg.give {m : Hp} (c : Cfg G W (un m F) H σ es) (hd : Dis m F) (hs : σ[i]? = some (some v)) (h : Hold φ W v m) : Cfg G W F H σ (es.set i (some φ)) := by
  obtain ⟨ms, c⟩ := c
  have dmi : ∀ j, Dis (ms j) m := fun j => (c.dF j).symm.of_un_l.symm
  have dF' : ∀ j, Dis (ms j) F := fun j => (c.dF j).symm.of_un_r.symm
  refine ⟨fun j => if j = i then m else ms j, ⟨fun j ψ e => ?_, fun j k n => ?_, fun j => ?_, fun j => ?_, c.dFW.of_un_r, c.sW, c.sF.of_un_r hd, fun j => ?_, c.tab, ⟨c.nt.1, c.nt.2.1.of_r hd, fun j => (by by_cases e1 : j = i; (· simp only [e1, if_true]; exact c.nt.2.1.of_l); (· simp only [e1, if_false]; exact c.nt.2.2 j))⟩, by simpa using c.len⟩⟩
  · by_cases q : j = i
    · subst q
      rw [List.getElem?_set] at e
      simp only [if_true] at e
      split at e
      · cases e
        exact ⟨v, hs, by simpa using h⟩
      · cases e
    · rw [List.getElem?_set_ne (Ne.symm q)] at e
      simp only [q, if_false]
      exact c.at_ j ψ e
  · by_cases e1 : j = i
    · have e2 : k ≠ i := fun e => n (e1.trans e.symm)
      simp only [e1, e2, if_true, if_false]
      exact (dmi k).symm
    · by_cases e2 : k = i
      · simp only [e1, e2, if_true, if_false]; exact dmi j
      · simp only [e1, e2, if_false]; exact c.dm j k n
  · by_cases e1 : j = i
    · simp only [e1, if_true]; exact hd
    · simp only [e1, if_false]; exact dF' j
  · by_cases e1 : j = i
    · simp only [e1, if_true]; exact c.dFW.of_un_l
    · simp only [e1, if_false]; exact c.dW j
  · by_cases e1 : j = i
    · simp only [e1, if_true]; exact c.sF.of_un_l
    · simp only [e1, if_false]; exact c.sm j
/-- a piece of the frame is thrown away -/
theorem Cfg.lose {m : Hp} (c : Cfg G W (un m F) H σ es) (hd : Dis m F) : Cfg G W F H σ es := by
  obtain ⟨ms, c⟩ := c
  exact ⟨ms, ⟨c.at_, c.dm, fun j => (c.dF j).symm.of_un_r.symm, c.dW, c.dFW.of_un_r, c.sW, c.sF.of_un_r hd, c.sm, c.tab, ⟨c.nt.1, c.nt.2.1.of_r hd, c.nt.2.2⟩, c.len⟩⟩
/-- .. or is never changed again -/
theorem Cfg.freeze (c : Cfg G W (un (one p o) F) H σ es) (hd : Dis (one p o) F) : Cfg G (upd W p o) F H σ es ∧ Same W (upd W p o) := by
  obtain ⟨ms, c⟩ := c
  have w0 : W p = none := by
    rcases c.dFW p with e | e
    · rw [un_none, one_same] at e
      cases e.1
    · exact e
  have f0 : F p = none := by
    rcases hd p with e | e
    · rw [one_same] at e; cases e
    · exact e
  have m0 : ∀ j, ms j p = none := fun j => by
    rcases c.dF j p with e | e
    · exact e
    · rw [un_none, one_same] at e
      cases e.1
  have hH : H p = some o := c.sF p o (un_l one_same)
  refine ⟨⟨ms, ⟨fun j φ e => ?_, c.dm, fun j => (c.dF j).symm.of_un_r.symm, fun j => (c.dW j).upd (m0 j), (c.dFW.of_un_r).upd f0, fun b u e => ?_, c.sF.of_un_r hd, c.sm, c.tab, ⟨nt_upd c.nt.1 (fun ps z => c.nt.2.1 p ps (by rw [un_l one_same, z])), c.nt.2.1.of_r hd, c.nt.2.2⟩, c.len⟩⟩, same_upd w0⟩
  · obtain ⟨v, h1, h2⟩ := c.at_ j φ e
    exact ⟨v, h1, h2.mono (same_upd w0)⟩
  · by_cases q : b = p
    · subst q; rw [upd_same] at e; cases e; exact hH
    · rw [upd_ne q] at e; exact c.sW b u e
/-- a piece of the frame is written: one object -/
theorem Cfg.write {o' : HO} (c : Cfg G W (un (one p o) F) H σ es) (hd : Dis (one p o) F) (ho1 : ∀ ps, o ≠ .tbl ps) (ho2 : ∀ c0 q, o ≠ LamX.CodeO c0 q) (ho3 : ∀ ps, o' ≠ .tbl ps := by intro ps z; cases z) :
    Cfg G W (un (one p o') F) (upd H p o') σ es ∧ Dis (one p o') F := by
  obtain ⟨ms, c⟩ := c
  have w0 : W p = none := by
    rcases c.dFW p with e | e
    · rw [un_none, one_same] at e
      cases e.1
    · exact e
  have f0 : F p = none := by
    rcases hd p with e | e
    · rw [one_same] at e; cases e
    · exact e
  have m0 : ∀ j, ms j p = none := fun j => by
    rcases c.dF j p with e | e
    · exact e
    · rw [un_none, one_same] at e
      cases e.1
  have hH : H p = some o := c.sF p o (un_l one_same)
  refine ⟨⟨ms, ⟨c.at_, c.dm, fun j => ((dis_one (m0 j)).un (c.dF j).symm.of_un_r).symm, c.dW, (dis_one w0).un c.dFW.of_un_r, c.sW.upd w0, (same_one upd_same).un ((c.sF.of_un_r hd).upd f0), fun j => (c.sm j).upd (m0 j), fun q hq => ?_, ⟨c.nt.1, nt_un (nt_one ho3) (c.nt.2.1.of_r hd), c.nt.2.2⟩, c.len⟩⟩, dis_one f0⟩
  obtain ⟨ps, h1, h2, h3⟩ := c.tab q hq
  refine ⟨ps, by rw [upd_ne (fun z => ho1 ps (Option.some.inj (hH.symm.trans (by rw [← z]; exact h1))))]; exact h1, h2, fun pos cv e => ?_⟩
  obtain ⟨c0, e1, e2⟩ := h3 pos cv e
  exact ⟨c0, e1, by rw [upd_ne (fun z => ho2 c0 _ (Option.some.inj (hH.symm.trans (by rw [← z]; exact e2))))]; exact e2⟩

/-! ### into a callee and back -/
/-- all that the slots and the callers own -/
noncomputable def allF (ms : Nat → Hp) (F : Hp) : Hp := fun a => open Classical in if h : ∃ j, ms j a ≠ none then ms (Classical.choose h) a else F a
theorem allF_m {ms : Nat → Hp} {F : Hp} (dm : ∀ i j, i ≠ j → Dis (ms i) (ms j)) {j : Nat} {a : Addr} {o : HO} (h : ms j a = some o) : allF ms F a = some o := by
  have hx : ∃ j, ms j a ≠ none := ⟨j, by rw [h]; simp⟩
  unfold allF
  rw [dif_pos hx]
  have hc := Classical.choose_spec hx
  by_cases e : Classical.choose hx = j
  · rw [e]; exact h
  · rcases dm _ _ e a with q | q
    · exact absurd q hc
    · rw [q] at h; cases h
theorem allF_F {ms : Nat → Hp} {F : Hp} {a : Addr} (h : ∀ j, ms j a = none) : allF ms F a = F a := by
  unfold allF
  rw [dif_neg (fun ⟨j, q⟩ => q (h j))]
theorem allF_none {ms : Nat → Hp} {F : Hp} {a : Addr} (dm : ∀ i j, i ≠ j → Dis (ms i) (ms j)) (h : allF ms F a = none) : (∀ j, ms j a = none) ∧ F a = none := by
  have q : ∀ j, ms j a = none := fun j => by
    cases e : ms j a with
    | none => rfl
    | some o =>
      rw [allF_m dm e] at h
      cases h
  exact ⟨q, by rw [allF_F q] at h; exact h⟩
theorem Cfg0.enter {ms : Nat → Hp} (c : Cfg0 G W F H σ es ms) : Cfg G W (allF ms F) H [] [] ∧ ∀ (m W' H' : Hp), Same W W' → Dis m (allF ms F) → Cfg G W' (un m (allF ms F)) H' [] [] → Dis m F ∧ Cfg G W' (un m F) H' σ es := by
  have fF : ∀ {a o}, F a = some o → allF ms F a = some o := fun {a o} h => by
    rw [allF_F fun j => ?_]
    · exact h
    · rcases c.dF j a with e | e
      · exact e
      · rw [e] at h; cases h
  have dA : Dis (allF ms F) W := fun a => by
    cases e : W a with
    | none => exact .inr rfl
    | some o =>
      refine .inl ?_
      rw [allF_F fun j => ?_]
      · rcases c.dFW a with q | q
        · exact q
        · rw [e] at q; cases q
      · rcases c.dW j a with q | q
        · exact q
        · rw [e] at q; cases q
  refine ⟨⟨fun _ => emp, ⟨fun i φ e => by simp at e, fun _ _ _ => dis_emp, fun _ => dis_emp, fun _ => dis_emp, dA, c.sW, fun a o e => ?_, fun _ => same_emp, c.tab, ⟨c.nt.1, fun a ps z => ?_, fun _ => nt_emp⟩, rfl⟩⟩, fun m W' H' sw hd c' => ?_⟩
  · by_cases hx : ∃ j, ms j a ≠ none
    · obtain ⟨j, hj⟩ := hx
      cases q : ms j a with
      | none => exact absurd q hj
      | some u =>
        rw [allF_m c.dm q] at e
        cases e
        exact c.sm j a _ q
    · have z : ∀ j, ms j a = none := fun j => Classical.byContradiction fun q => hx ⟨j, q⟩
      rw [allF_F z] at e
      exact c.sF a o e
  · by_cases hx : ∃ j, ms j a ≠ none
    · obtain ⟨j, hj⟩ := hx
      cases q : ms j a with
      | none => exact hj q
      | some u =>
        rw [allF_m c.dm q] at z
        exact c.nt.2.2 j a ps (q.trans z)
    · have zz : ∀ j, ms j a = none := fun j => Classical.byContradiction fun q => hx ⟨j, q⟩
      rw [allF_F zz] at z
      exact c.nt.2.1 a ps z
  · obtain ⟨ms', c'⟩ := c'
    have dmm : ∀ j, Dis (ms j) m := fun j a => by
      cases e : ms j a with
      | none => exact .inl rfl
      | some o =>
        rcases hd a with q | q
        · exact .inr q
        · rw [allF_m c.dm e] at q; cases q
    have dmF : Dis m F := fun a => by
      cases e : F a with
      | none => exact .inr rfl
      | some o =>
        rcases hd a with q | q
        · exact .inl q
        · rw [fF e] at q; cases q
    have dFW' : Dis (un m (allF ms F)) W' := c'.dFW
    have sF' := c'.sF
    refine ⟨dmF, ms, ⟨fun i φ e => ?_, c.dm, fun j => ((dmm j).symm.un (c.dF j).symm).symm, fun j a => ?_, fun a => ?_, c'.sW, fun a o e => ?_, fun j a o e => ?_, c'.tab, ⟨c'.nt.1, nt_un c'.nt.2.1.of_l c.nt.2.1, c.nt.2.2⟩, c.len⟩⟩
    · obtain ⟨v, h1, h2⟩ := c.at_ i φ e
      exact ⟨v, h1, h2.mono sw⟩
    · cases e : ms j a with
      | none => exact .inl rfl
      | some o =>
        rcases dFW' a with q | q
        · rw [un_none, allF_m c.dm e] at q
          cases q.2
        · exact .inr q
    · cases e : un m F a with
      | none => exact .inl rfl
      | some o =>
        rcases dFW' a with q | q
        · cases em : m a with
          | some u => rw [un_none, em] at q; cases q.1
          | none =>
            rw [un_r em] at e
            rw [un_none, fF e] at q
            cases q.2
        · exact .inr q
    · cases em : m a with
      | some u =>
        rw [un_l em] at e
        cases e
        exact sF' a _ (un_l em)
      | none =>
        rw [un_r em] at e
        exact sF' a o (by rw [un_r em]; exact fF e)
    · refine sF' a o ?_
      rcases dmm j a with q | q
      · rw [q] at e; cases e
      · rw [un_r q]; exact allF_m c.dm e
theorem Cfg.enter (c : Cfg G W F H σ es) : ∃ F1, Cfg G W F1 H [] [] ∧ ∀ (m W' H' : Hp), Same W W' → Dis m F1 → Cfg G W' (un m F1) H' [] [] → Dis m F ∧ Cfg G W' (un m F) H' σ es :=
  let ⟨ms, c⟩ := c
  ⟨allF ms F, c.enter⟩
/-- .. a piece taken along -/
theorem Cfg.enterP {m : Hp} (c : Cfg G W (un m F) H σ es) (hd : Dis m F) : ∃ F1, Dis m F1 ∧ Cfg G W (un m F1) H [] [] ∧ ∀ (m W' H' : Hp), Same W W' → Dis m F1 → Cfg G W' (un m F1) H' [] [] → Dis m F ∧ Cfg G W' (un m F) H' σ es := by
  obtain ⟨ms, c⟩ := c
  have cl : Cfg0 G W F H σ es ms := ⟨c.at_, c.dm, fun j => (c.dF j).symm.of_un_r.symm, c.dW, c.dFW.of_un_r, c.sW, c.sF.of_un_r hd, c.sm, c.tab, ⟨c.nt.1, c.nt.2.1.of_r hd, c.nt.2.2⟩, c.len⟩
  obtain ⟨b1, back⟩ := cl.enter
  have d1 : Dis m (allF ms F) := fun a => by
    cases em : m a with
    | none => exact .inl rfl
    | some o =>
      refine .inr ?_
      have z : ∀ j, ms j a = none := fun j => by
        rcases c.dF j a with e | e
        · exact e
        · rw [un_none, em] at e
          cases e.1
      rw [allF_F z]
      rcases hd a with e | e
      · rw [em] at e; cases e
      · exact e
  refine ⟨allF ms F, d1, ?_, back⟩
  obtain ⟨mb, b1⟩ := b1
  exact ⟨fun _ => emp, ⟨fun i φ e => by simp at e, fun _ _ _ => dis_emp, fun _ => dis_emp, fun _ => dis_emp, c.dFW.of_un_l.un b1.dFW, b1.sW, (c.sF.of_un_l).un b1.sF, fun _ => same_emp, b1.tab, ⟨b1.nt.1, nt_un c.nt.2.1.of_l b1.nt.2.1, fun _ => nt_emp⟩, rfl⟩⟩
/-- nothing but the base -/
theorem Cfg.bare (c : Cfg G W F H σ es) : Cfg G W F H [] [] := by
  obtain ⟨ms, c⟩ := c
  exact ⟨fun _ => emp, ⟨fun i φ e => by simp at e, fun _ _ _ => dis_emp, fun _ => dis_emp, fun _ => dis_emp, c.dFW, c.sW, c.sF, fun _ => same_emp, c.tab, ⟨c.nt.1, c.nt.2.1, fun _ => nt_emp⟩, rfl⟩⟩
/-- the parameters of a callee, none of them ours -/
theorem Cfg.params {ds : List D} {vs : List V} (c : Cfg G W F H [] []) (h : IsL G W ds vs) : Cfg G W F H (vs.map some) (ds.map fun d => some (fr G d)) := by
  obtain ⟨ms, c⟩ := c
  refine ⟨fun _ => emp, ⟨fun i φ e => ?_, fun _ _ _ => dis_emp, fun _ => dis_emp, fun _ => dis_emp, c.dFW, c.sW, c.sF, fun _ => same_emp, c.tab, ⟨c.nt.1, c.nt.2.1, fun _ => nt_emp⟩, by simp [h.len]⟩⟩
  rw [List.getElem?_map] at e
  cases q : ds[i]? with
  | none => rw [q] at e; cases e
  | some d =>
    rw [q] at e
    cases e
    obtain ⟨v, h1, h2⟩ := h.get q
    exact ⟨v, by rw [List.getElem?_map, h1]; rfl, Hold.of h2⟩
theorem un_emp {m : Hp} : un emp m = m := by funext a; rfl
/-- only tables were written -/
theorem Cfg.extN (c : Cfg G W F H σ es) (s : LamX.ExtN H H') (t : NdefX.TabsN G.T H') : Cfg G W F H' σ es := by
  obtain ⟨ms, c⟩ := c
  exact ⟨ms, ⟨c.at_, c.dm, c.dF, c.dW, c.dFW, fun a o e => s a o (c.sW a o e) (fun ps z => c.nt.1 a ps (by rw [← z]; exact e)), fun a o e => s a o (c.sF a o e) (fun ps z => c.nt.2.1 a ps (by rw [← z]; exact e)),
    fun i a o e => s a o (c.sm i a o e) (fun ps z => c.nt.2.2 i a ps (by rw [← z]; exact e)), t, c.nt, c.len⟩⟩
end
end DL

namespace DL
open PySem L2
variable {G : Ct}

/-! ### what a reading gives -/
/-- a value that no one changes -/
def EF (G : Ct) (te : TE) (es : Es) (d : D) (es' : Es) : Prop := ∀ W F H σ (Q : VK), Cfg G W F H σ es → (∀ v W' H', Same W W' → Cfg G W' F H' σ es' → Is G W' d v → Q v H') → te σ H Q
/-- a thing of our own -/
def EO (G : Ct) (te : TE) (es : Es) (φ : Ent) (es' : Es) : Prop := ∀ W F H σ (Q : VK), Cfg G W F H σ es → (∀ v m W' H', Same W W' → Dis m F → Hold φ W' v m → Cfg G W' (un m F) H' σ es' → Q v H') → te σ H Q
def ET (G : Ct) (tt : TT) (es : Es) (b : Bool) (es' : Es) : Prop := ∀ W F H σ (Q : Bool → Hp → Prop), Cfg G W F H σ es → (∀ W' H', Same W W' → Cfg G W' F H' σ es' → Q b H') → tt σ H Q
def EA (G : Ct) (ta : TA) (es : Es) (ds : List D) (es' : Es) : Prop := ∀ W F H σ (Q : List V → Hp → Prop), Cfg G W F H σ es → (∀ vs W' H', Same W W' → Cfg G W' F H' σ es' → IsL G W' ds vs → Q vs H') → ta σ H Q

section
variable {te ta tb tc : TE} {tt tu : TT} {tas : TA} {es es1 es2 es3 : Es} {d x y z : D} {ds xs ys : List D} {b b' : Bool} {i : Nat} {φ : Ent}
theorem ef_var (h : es[i]? = some (some (fr G d))) : EF G (tVar i) es d es := fun W F H σ Q c k => by
  obtain ⟨v, h1, h2⟩ := c.getFr h
  exact ⟨v, h1, k v W H (Same.refl _) c h2⟩
theorem ef_int {n : Int} : EF G (tC (.int n)) es (.int n) es := fun W F H σ Q c k => k _ W H (Same.refl _) c (by unfold Is; rfl)
theorem ef_bl {n : Bool} : EF G (tC (.bl n)) es (.bl n) es := fun W F H σ Q c k => k _ W H (Same.refl _) c (by unfold Is; rfl)
theorem ef_str {n : Str} : EF G (tC (.str n)) es (.str n) es := fun W F H σ Q c k => k _ W H (Same.refl _) c (by unfold Is; rfl)
theorem ef_non : EF G (tC .non) es .non es := fun W F H σ Q c k => k _ W H (Same.refl _) c (by unfold Is; rfl)
theorem ef_raw {a : Addr} : EF G (tC (.ref a)) es (.raw a) es := fun W F H σ Q c k => k _ W H (Same.refl _) c (by unfold Is; rfl)
theorem eo_var (h : es[i]? = some (some φ)) : EO G (tVar i) es φ (es.set i none) := fun W F H σ Q c k => by
  obtain ⟨v, m, h1, h2, h3, _, h4⟩ := c.take h
  exact ⟨v, h1, k v m W H (Same.refl _) h3 h2 h4⟩
/-- a list of our own, never changed again -/
theorem ef_lst (h : EO G te es (lst G ds) es1) : EF G te es (.lst ds) es1 := fun W F H σ Q c k => h W F H σ Q c fun v m W' H' s dm hm c' => by
  obtain ⟨a, vs, rfl, h2, rfl⟩ := hm.lst
  obtain ⟨c2, s2⟩ := c'.freeze dm
  exact k _ _ _ (s.trans s2) c2 (by unfold Is; exact ⟨a, vs, rfl, upd_same, h2.mono s2⟩)
/-- a value as a thing -/
theorem eo_fr (h : EF G te es d es1) : EO G te es (fr G d) es1 := fun W F H σ Q c k => h W F H σ Q c fun v W' H' s c' hv => k v emp W' H' s dis_emp (Hold.of hv) (by rw [un_emp]; exact c')
theorem EF.to {d' : D} (h : EF G te es d es1) (e : d = d') : EF G te es d' es1 := e ▸ h
theorem ET.to (h : ET G tt es b es1) (e : b = b') : ET G tt es b' es1 := e ▸ h

/-! ### operators -/
/-- two values, the heap as it was -/
def R2P (G : Ct) (r : R2) (x y z : D) : Prop := ∀ W H vx vy (Q : VK), Same W H → Is G W x vx → Is G W y vy → (∀ v, Is G W z v → Q v H) → r vx vy H Q
/-- .. a new list -/
def R2L (G : Ct) (r : R2) (x y : D) (ds : List D) : Prop := ∀ W H vx vy (Q : VK), Same W H → Is G W x vx → Is G W y vy → (∀ p vs, H p = none → IsL G W ds vs → Q (.ref p) (upd H p (.lst vs))) → r vx vy H Q
theorem ef_op {r : R2} (ha : EF G ta es x es1) (hb : EF G tb es1 y es2) (hr : R2P G r x y z) : EF G (tOp r ta tb) es z es2 := fun W F H σ Q c k =>
  ha W F H σ _ c fun v1 W1 H1 s1 c1 i1 => hb W1 F H1 σ _ c1 fun v2 W2 H2 s2 c2 i2 => hr W2 H2 v1 v2 Q c2.sW (i1.mono s2) i2 fun v i3 => k v W2 H2 (s1.trans s2) c2 i3
theorem hold_lst {W : Hp} {p : Addr} {vs : List V} (h : IsL G W ds vs) : Hold (lst G ds) W (.ref p) (one p (.lst vs)) := Hold.of ⟨p, vs, rfl, h, rfl⟩
theorem eo_op {r : R2} (ha : EF G ta es x es1) (hb : EF G tb es1 y es2) (hr : R2L G r x y ds) : EO G (tOp r ta tb) es (lst G ds) es2 := fun W F H σ Q c k =>
  ha W F H σ _ c fun v1 W1 H1 s1 c1 i1 => hb W1 F H1 σ _ c1 fun v2 W2 H2 s2 c2 i2 => hr W2 H2 v1 v2 Q c2.sW (i1.mono s2) i2 fun p vs hp i3 => by
    obtain ⟨c3, d3⟩ := c2.allocF (o := .lst vs) hp
    exact k _ _ W2 _ (s1.trans s2) d3 (hold_lst i3) c3
theorem is_int {W : Hp} {n : Int} {v : V} : Is G W (.int n) v ↔ v = .int n := by unfold Is; rfl
theorem is_bl {W : Hp} {n : Bool} {v : V} : Is G W (.bl n) v ↔ v = .bl n := by unfold Is; rfl
theorem is_str {W : Hp} {n : Str} {v : V} : Is G W (.str n) v ↔ v = .str n := by unfold Is; rfl
theorem is_non {W : Hp} {v : V} : Is G W .non v ↔ v = .non := by unfold Is; rfl
theorem is_raw {W : Hp} {a : Addr} {v : V} : Is G W (.raw a) v ↔ v = .ref a := by unfold Is; rfl
theorem is_ty {W : Hp} {v : V} {n : String} : Is G W (.ty n) v ↔ v = .ty n := by unfold Is; rfl
theorem is_err {W : Hp} {v : V} {a dd : Addr} {ns : List Str} : Is G W (.err a dd ns ds) v ↔ v = .ref a ∧ ∃ vs, W dd = some (.xd (ns.zip vs)) ∧ IsL G W ds vs := by unfold Is; rfl
theorem ef_ty {n : String} : EF G (tC (.ty n)) es (.ty n) es := fun W F H σ Q c k => k _ W H (Same.refl _) c (is_ty.mpr rfl)
theorem is_lst {W : Hp} {v : V} : Is G W (.lst ds) v ↔ ∃ a vs, v = .ref a ∧ W a = some (.lst vs) ∧ IsL G W ds vs := by unfold Is; rfl
theorem is_rol {W : Hp} {v : V} : Is G W (.rol ds) v ↔ ∃ a vs, v = .ref a ∧ SqL G.K W a vs ∧ IsL G W ds vs := by unfold Is; rfl
theorem is_tup {W : Hp} {v : V} : Is G W (.tup ds) v ↔ ∃ a vs, v = .ref a ∧ SqT G.K W a vs ∧ IsL G W ds vs := by unfold Is; rfl
theorem is_ins {W : Hp} {v : V} {C : Addr} {ns : List Str} : Is G W (.ins C ns ds) v ↔ ∃ a dx vs, v = .ref a ∧ W a = some (.ins C dx (ns.zip vs)) ∧ ns.length = vs.length ∧ IsL G W ds vs := by unfold Is; rfl

theorem r2_I0i {g : Int → Int → Int} {m n : Int} : R2P G (rI0 fun i j => .int (g i j)) (.int m) (.int n) (.int (g m n)) := fun W H vx vy Q s hx hy k => by
  rw [is_int] at hx hy
  subst hx hy
  exact ⟨m, n, rfl, rfl, k _ (is_int.mpr rfl)⟩
theorem r2_I0b {g : Int → Int → Bool} {m n : Int} : R2P G (rI0 fun i j => .bl (g i j)) (.int m) (.int n) (.bl (g m n)) := fun W H vx vy Q s hx hy k => by
  rw [is_int] at hx hy
  subst hx hy
  exact ⟨m, n, rfl, rfl, k _ (is_bl.mpr rfl)⟩
theorem r2_Ii {g : Int → Int → Int} {C : Int → Int → Prop} {m n : Int} (h : C m n) : R2P G (rI C fun i j => .int (g i j)) (.int m) (.int n) (.int (g m n)) := fun W H vx vy Q s hx hy k => by
  rw [is_int] at hx hy
  subst hx hy
  exact ⟨m, n, rfl, rfl, h, k _ (is_int.mpr rfl)⟩
/-- scalars compared -/
inductive Sc : D → D → V → V → Prop
  | int (m n : Int) : Sc (.int m) (.int n) (.int m) (.int n)
  | str (m n : Str) : Sc (.str m) (.str n) (.str m) (.str n)
theorem r2_eqI {m n : Int} : R2P G rEq (.int m) (.int n) (.bl (decide (m = n))) := fun W H vx vy Q s hx hy k => by
  rw [is_int] at hx hy
  subst hx hy
  exact ⟨rfl, k _ (is_bl.mpr (by rw [dec_int, Bool.beq_eq_decide_eq]))⟩
theorem r2_eqS {m n : Str} : R2P G rEq (.str m) (.str n) (.bl (decide (m = n))) := fun W H vx vy Q s hx hy k => by
  rw [is_str] at hx hy
  subst hx hy
  exact ⟨rfl, k _ (is_bl.mpr (by rw [dec_str, Bool.beq_eq_decide_eq]))⟩
theorem r2_neI {m n : Int} : R2P G rNe (.int m) (.int n) (.bl (!decide (m = n))) := fun W H vx vy Q s hx hy k => by
  rw [is_int] at hx hy
  subst hx hy
  exact ⟨rfl, k _ (is_bl.mpr (by rw [dec_int, Bool.beq_eq_decide_eq]))⟩
theorem r2_neS {m n : Str} : R2P G rNe (.str m) (.str n) (.bl (!decide (m = n))) := fun W H vx vy Q s hx hy k => by
  rw [is_str] at hx hy
  subst hx hy
  exact ⟨rfl, k _ (is_bl.mpr (by rw [dec_str, Bool.beq_eq_decide_eq]))⟩
theorem ixN_of {n j : Nat} (h : j < n) : ixN n (j : Int) = some j := by
  unfold ixN
  rw [if_pos (by omega), if_pos (by omega)]
  simp
/-- xs[i] -/
theorem r2_ixL {n : Int} (h : atI ds n = some z) : R2P G (rIxL G.K) (.lst ds) (.int n) z := fun W H vx vy Q s hx hy k => by
  rw [is_lst] at hx
  rw [is_int] at hy
  obtain ⟨a, vs, rfl, h1, h2⟩ := hx
  subst hy
  unfold atI at h
  rw [Option.bind_eq_some_iff] at h
  obtain ⟨j, e1, e2⟩ := h
  obtain ⟨v, e3, e4⟩ := h2.get e2
  exact ⟨a, vs, n, v, rfl, rfl, SqL.of (s _ _ h1), by unfold atI; rw [← h2.len, e1]; exact e3, k v e4⟩
theorem r2_ixT {n : Int} (h : atI ds n = some z) : R2P G (rIxT G.K) (.tup ds) (.int n) z := fun W H vx vy Q s hx hy k => by
  rw [is_tup] at hx
  rw [is_int] at hy
  obtain ⟨a, vs, rfl, h1, h2⟩ := hx
  subst hy
  unfold atI at h
  rw [Option.bind_eq_some_iff] at h
  obtain ⟨j, e1, e2⟩ := h
  obtain ⟨v, e3, e4⟩ := h2.get e2
  exact ⟨a, vs, n, v, rfl, rfl, s.sqt h1, by unfold atI; rw [← h2.len, e1]; exact e3, k v e4⟩
/-- is None, is True -/
def isNonD : D → Bool
  | .non => true
  | _ => false
theorem is_nonD {W : Hp} {v : V} (h : Is G W x v) : decide (v = .non) = isNonD x := by
  cases x with
  | non => rw [is_non] at h; subst h; rfl
  | bl _ => rw [is_bl] at h; subst h; rfl
  | int _ => rw [is_int] at h; subst h; rfl
  | str _ => rw [is_str] at h; subst h; rfl
  | raw _ => rw [is_raw] at h; subst h; rfl
  | lst _ => rw [is_lst] at h; obtain ⟨a, vs, rfl, _⟩ := h; rfl
  | rol _ => rw [is_rol] at h; obtain ⟨a, vs, rfl, _⟩ := h; rfl
  | tup _ => rw [is_tup] at h; obtain ⟨a, vs, rfl, _⟩ := h; rfl
  | ins _ _ _ => rw [is_ins] at h; obtain ⟨a, dx, vs, rfl, _⟩ := h; rfl
  | ty _ => rw [is_ty] at h; subst h; rfl
  | err _ _ _ _ => rw [is_err] at h; rw [h.1]; rfl
theorem r2_isN : R2P G (fun x y H Q => y = .non ∧ Q (.bl (decide (x = .non))) H) x .non (.bl (isNonD x)) := fun W H vx vy Q s hx hy k => by
  rw [is_non] at hy
  refine ⟨hy, k _ ?_⟩
  rw [is_bl, is_nonD hx]
theorem r2_notN : R2P G (fun x y H Q => y = .non ∧ Q (.bl (!decide (x = .non))) H) x .non (.bl (!isNonD x)) := fun W H vx vy Q s hx hy k => by
  rw [is_non] at hy
  refine ⟨hy, k _ ?_⟩
  rw [is_bl, is_nonD hx]

/-! ### tests -/
theorem et_test (h : EF G te es (.bl b) es1) : ET G (tTest te) es b es1 := fun W F H σ Q c k => h W F H σ _ c fun v W' H' s c' hv => by
  rw [is_bl] at hv
  exact ⟨b, hv, k W' H' s c'⟩
theorem et_B (h : EF G te es (.bl b) es1) : ET G (tB te) es b es1 := fun W F H σ Q c k => h W F H σ _ c fun v W' H' s c' hv => by
  rw [is_bl] at hv
  exact ⟨b, hv, k W' H' s c'⟩
theorem et_not (h : ET G tt es b es1) : ET G (tNot tt) es (!b) es1 := fun W F H σ Q c k => h W F H σ _ c k
theorem et_and (h : ET G tt es b es1) (h2 : b = true → ET G tu es1 b' es1) : ET G (tAnd tt tu) es (b && b') es1 := fun W F H σ Q c k => h W F H σ _ c fun W' H' s c' => by
  cases b with
  | true =>
    show tu σ H' Q
    exact h2 rfl W' F H' σ Q c' fun W2 H2 s2 c2 => k W2 H2 (s.trans s2) c2
  | false => exact k W' H' s c'
theorem et_or (h : ET G tt es b es1) (h2 : b = false → ET G tu es1 b' es1) : ET G (tOr tt tu) es (b || b') es1 := fun W F H σ Q c k => h W F H σ _ c fun W' H' s c' => by
  cases b with
  | false =>
    show tu σ H' Q
    exact h2 rfl W' F H' σ Q c' fun W2 H2 s2 c2 => k W2 H2 (s.trans s2) c2
  | true => exact k W' H' s c'
theorem ef_if (h : ET G tt es b es1) (ha : b = true → EF G ta es1 x es2) (hb : b = false → EF G tb es1 y es2) : EF G (tIf tt ta tb) es (if b = true then x else y) es2 := fun W F H σ Q c k => h W F H σ _ c fun W' H' s c' => by
  cases b with
  | true =>
    show ta σ H' Q
    exact ha rfl W' F H' σ Q c' fun v W2 H2 s2 c2 hv => k v W2 H2 (s.trans s2) c2 (by simpa using hv)
  | false =>
    show tb σ H' Q
    exact hb rfl W' F H' σ Q c' fun v W2 H2 s2 c2 hv => k v W2 H2 (s.trans s2) c2 (by simpa using hv)
theorem ef_andV (h : EF G ta es (.bl b) es1) (h2 : b = true → EF G tb es1 (.bl b') es1) : EF G (tAndV ta tb) es (.bl (b && b')) es1 := fun W F H σ Q c k => h W F H σ _ c fun v W' H' s c' hv => by
  rw [is_bl] at hv
  refine ⟨b, hv, ?_⟩
  cases b with
  | true =>
    show tb σ H' Q
    exact h2 rfl W' F H' σ Q c' fun v W2 H2 s2 c2 hv => k v W2 H2 (s.trans s2) c2 hv
  | false => exact k _ W' H' s c' (is_bl.mpr rfl)
theorem ef_orV (h : EF G ta es (.bl b) es1) (h2 : b = false → EF G tb es1 (.bl b') es1) : EF G (tOrV ta tb) es (.bl (b || b')) es1 := fun W F H σ Q c k => h W F H σ _ c fun v W' H' s c' hv => by
  rw [is_bl] at hv
  refine ⟨b, hv, ?_⟩
  cases b with
  | false =>
    show tb σ H' Q
    exact h2 rfl W' F H' σ Q c' fun v W2 H2 s2 c2 hv => k v W2 H2 (s.trans s2) c2 hv
  | true => exact k _ W' H' s c' (is_bl.mpr rfl)
theorem ef_notV (h : EF G ta es (.bl b) es1) : EF G (tNotV ta) es (.bl (!b)) es1 := fun W F H σ Q c k => h W F H σ _ c fun v W' H' s c' hv => by
  rw [is_bl] at hv
  exact ⟨b, hv, k _ W' H' s c' (is_bl.mpr rfl)⟩

/-! ### arguments, displays, built-ins -/
theorem ea_nil : EA G tNil es [] es := fun W F H σ Q c k => k [] W H (Same.refl _) c IsL.nil
theorem ea_cons (h : EF G te es d es1) (h2 : EA G tas es1 ds es2) : EA G (tCons te tas) es (d :: ds) es2 := fun W F H σ Q c k =>
  h W F H σ _ c fun v W1 H1 s1 c1 i1 => h2 W1 F H1 σ _ c1 fun vs W2 H2 s2 c2 i2 => k _ W2 H2 (s1.trans s2) c2 (IsL.cons (i1.mono s2) i2)
theorem sz_of {n : Nat} (h : n ≤ 100000) : n ≤ sizeLine := Nat.le_trans h (by decide)
theorem sz_lt {n : Nat} (h : n < 100000) : n < sizeLine := Nat.lt_of_lt_of_le h (by decide)
theorem eo_lst (h : EA G tas es ds es1) (hl : ds.length ≤ 100000 := by (first | decide | simp)) : EO G (tLst tas) es (lst G ds) es1 := fun W F H σ Q c k => h W F H σ _ c fun vs W1 H1 s1 c1 i1 =>
  ⟨sz_of (by rw [← i1.len]; exact hl), fun p hp => by
    obtain ⟨c3, d3⟩ := c1.allocF (o := .lst vs) hp
    exact k _ _ W1 _ s1 d3 (hold_lst i1) c3⟩
theorem ef_tup (h : EA G tas es ds es1) (hl : ds.length ≤ 100000 := by (first | decide | simp)) : EF G (tTup tas) es (.tup ds) es1 := fun W F H σ Q c k => h W F H σ _ c fun vs W1 H1 s1 c1 i1 =>
  ⟨sz_of (by rw [← i1.len]; exact hl), fun p hp => by
    obtain ⟨c3, s3⟩ := c1.allocW (o := .tup vs) hp
    exact k _ _ _ (s1.trans s3) c3 (is_tup.mpr ⟨p, vs, rfl, SqT.of upd_same, i1.mono s3⟩)⟩
/-- a built-in's call, the heap as it was; a new list; a new tuple -/
def RCP (G : Ct) (r : List V → Hp → VK → Prop) (ds : List D) (z : D) : Prop := ∀ W H vs (Q : VK), Same W H → IsL G W ds vs → (∀ v, Is G W z v → Q v H) → r vs H Q
def RCL (G : Ct) (r : List V → Hp → VK → Prop) (ds xs : List D) : Prop := ∀ W H vs (Q : VK), Same W H → IsL G W ds vs → (∀ p ws, H p = none → IsL G W xs ws → Q (.ref p) (upd H p (.lst ws))) → r vs H Q
def RCT (G : Ct) (r : List V → Hp → VK → Prop) (ds xs : List D) : Prop := ∀ W H vs (Q : VK), Same W H → IsL G W ds vs → (∀ p ws, H p = none → IsL G W xs ws → Q (.ref p) (upd H p (.tup ws))) → r vs H Q
theorem ef_cb {r : List V → Hp → VK → Prop} (h : EA G tas es ds es1) (hr : RCP G r ds z) : EF G (tCB r tas) es z es1 := fun W F H σ Q c k => h W F H σ _ c fun vs W1 H1 s1 c1 i1 =>
  hr W1 H1 vs Q c1.sW i1 fun v iv => k v W1 H1 s1 c1 iv
theorem eo_cb {r : List V → Hp → VK → Prop} (h : EA G tas es ds es1) (hr : RCL G r ds xs) : EO G (tCB r tas) es (lst G xs) es1 := fun W F H σ Q c k => h W F H σ _ c fun vs W1 H1 s1 c1 i1 =>
  hr W1 H1 vs Q c1.sW i1 fun p ws hp iw => by
    obtain ⟨c3, d3⟩ := c1.allocF (o := .lst ws) hp
    exact k _ _ W1 _ s1 d3 (hold_lst iw) c3
theorem ef_cbT {r : List V → Hp → VK → Prop} (h : EA G tas es ds es1) (hr : RCT G r ds xs) : EF G (tCB r tas) es (.tup xs) es1 := fun W F H σ Q c k => h W F H σ _ c fun vs W1 H1 s1 c1 i1 =>
  hr W1 H1 vs Q c1.sW i1 fun p ws hp iw => by
    obtain ⟨c3, s3⟩ := c1.allocW (o := .tup ws) hp
    exact k _ _ _ (s1.trans s3) c3 (is_tup.mpr ⟨p, ws, rfl, SqT.of upd_same, iw.mono s3⟩)
theorem isL1 {W : Hp} {vs : List V} (h : IsL G W [x] vs) : ∃ v, vs = [v] ∧ Is G W x v := by
  obtain ⟨v, ws, rfl, h1, h2⟩ := h.uncons
  unfold IsL at h2
  subst h2
  exact ⟨v, rfl, h1⟩
theorem isL2 {W : Hp} {vs : List V} (h : IsL G W [x, y] vs) : ∃ v w, vs = [v, w] ∧ Is G W x v ∧ Is G W y w := by
  obtain ⟨v, ws, rfl, h1, h2⟩ := h.uncons
  obtain ⟨w, rfl, h3⟩ := isL1 h2
  exact ⟨v, w, rfl, h1, h3⟩
def rLen (K : PySem.W.Frag) : List V → Hp → VK → Prop := fun xs H Q => ∃ p ys, xs = [.ref p] ∧ (SqL K H p ys ∨ SqT K H p ys) ∧ Q (.int ys.length) H
theorem rc_lenL : RCP G (fun xs H Q => ∃ p ys, xs = [.ref p] ∧ (SqL G.K H p ys ∨ SqT G.K H p ys) ∧ Q (.int ys.length) H) [.lst ds] (.int ds.length) := fun W H vs Q s h k => by
  obtain ⟨v, rfl, h1⟩ := isL1 h
  rw [is_lst] at h1
  obtain ⟨a, ws, rfl, h2, h3⟩ := h1
  exact ⟨a, ws, rfl, .inl (SqL.of (s _ _ h2)), k _ (is_int.mpr (by rw [h3.len]))⟩
theorem rc_lenT : RCP G (fun xs H Q => ∃ p ys, xs = [.ref p] ∧ (SqL G.K H p ys ∨ SqT G.K H p ys) ∧ Q (.int ys.length) H) [.tup ds] (.int ds.length) := fun W H vs Q s h k => by
  obtain ⟨v, rfl, h1⟩ := isL1 h
  rw [is_tup] at h1
  obtain ⟨a, ws, rfl, h2, h3⟩ := h1
  exact ⟨a, ws, rfl, .inr (s.sqt h2), k _ (is_int.mpr (by rw [h3.len]))⟩
theorem rc_listL : RCL G (fun xs H Q => ∃ p ys, xs = [.ref p] ∧ (SqL G.K H p ys ∨ SqT G.K H p ys) ∧ ∀ l, H l = none → Q (.ref l) (upd H l (.lst ys))) [.lst ds] ds := fun W H vs Q s h k => by
  obtain ⟨v, rfl, h1⟩ := isL1 h
  rw [is_lst] at h1
  obtain ⟨a, ws, rfl, h2, h3⟩ := h1
  exact ⟨a, ws, rfl, .inl (SqL.of (s _ _ h2)), fun p hp => k p ws hp h3⟩
theorem rc_listT : RCL G (fun xs H Q => ∃ p ys, xs = [.ref p] ∧ (SqL G.K H p ys ∨ SqT G.K H p ys) ∧ ∀ l, H l = none → Q (.ref l) (upd H l (.lst ys))) [.tup ds] ds := fun W H vs Q s h k => by
  obtain ⟨v, rfl, h1⟩ := isL1 h
  rw [is_tup] at h1
  obtain ⟨a, ws, rfl, h2, h3⟩ := h1
  exact ⟨a, ws, rfl, .inr (s.sqt h2), fun p hp => k p ws hp h3⟩
theorem rc_tupL : RCT G (fun xs H Q => ∃ p ys, xs = [.ref p] ∧ ((SqL G.K H p ys ∧ ∀ l, H l = none → Q (.ref l) (upd H l (.tup ys))) ∨ (SqT G.K H p ys ∧ Q (.ref p) H))) [.lst ds] ds := fun W H vs Q s h k => by
  obtain ⟨v, rfl, h1⟩ := isL1 h
  rw [is_lst] at h1
  obtain ⟨a, ws, rfl, h2, h3⟩ := h1
  exact ⟨a, ws, rfl, .inl ⟨SqL.of (s _ _ h2), fun p hp => k p ws hp h3⟩⟩
theorem rc_int {n : Int} : RCP G (fun xs H Q => (∃ i, xs = [.int i] ∧ Q (.int i) H) ∨ ∃ k, xs = [.bl k] ∧ Q (.int (if k then 1 else 0)) H) [.int n] (.int n) := fun W H vs Q s h k => by
  obtain ⟨v, rfl, h1⟩ := isL1 h
  rw [is_int] at h1
  subst h1
  exact .inl ⟨n, rfl, k _ (is_int.mpr rfl)⟩
/-! + and * of lists; slices -/
theorem tracked {W H : Hp} {a : Addr} {vs : List V} (h : W a = some (.lst vs)) (s : Same W H) : H a = some (.lst vs) := s a _ h
end
end DL

namespace DL
open PySem L2
variable {G : Ct}
section
variable {te ta tb tc : TE} {tt tu : TT} {tas : TA} {es es1 es2 es3 : Es} {d x y z : D} {ds xs ys : List D} {b b' : Bool} {i : Nat} {φ : Ent}

/-! ### lists: +, *, slices, index -/
theorem r2_cat : (hl : xs.length + ys.length ≤ 100000) → R2L G rCat (.lst xs) (.lst ys) (xs ++ ys) := fun hl W H vx vy Q s hx hy k => by
  rw [is_lst] at hx hy
  obtain ⟨a, vs, rfl, h1, h2⟩ := hx
  obtain ⟨a', vs', rfl, h1', h2'⟩ := hy
  exact ⟨a, a', vs, vs', rfl, rfl, s _ _ h1, s _ _ h1', sz_of (by rw [← h2.len, ← h2'.len]; exact hl), fun p hp => k p _ hp (h2.append h2')⟩
theorem isL_rep {W : Hp} {vs : List V} (h : IsL G W ds vs) : ∀ n : Nat, IsL G W (List.replicate n ds).flatten (List.replicate n vs).flatten
  | 0 => IsL.nil
  | n + 1 => by
    rw [List.replicate_succ, List.replicate_succ, List.flatten_cons, List.flatten_cons]
    exact h.append (isL_rep h n)
theorem r2_rep {n : Int} (h0 : -(2 ^ 63) ≤ n) (h1 : n < 2 ^ 63) (hl : xs.length * n.toNat ≤ 100000) : R2L G rRep (.lst xs) (.int n) (List.replicate n.toNat xs).flatten := fun W H vx vy Q s hx hy k => by
  rw [is_lst] at hx
  rw [is_int] at hy
  obtain ⟨a, vs, rfl, h1', h2⟩ := hx
  subst hy
  exact ⟨a, n, vs, rfl, rfl, s _ _ h1', h0, h1, sz_of (by rw [← h2.len]; exact hl), fun p hp => k p _ hp (isL_rep h2 _)⟩
def EPo (G : Ct) (to : TO) (es : Es) (o : Option Int) (es' : Es) : Prop := ∀ W F H σ (Q : Option Int → Hp → Prop), Cfg G W F H σ es → (∀ W' H', Same W W' → Cfg G W' F H' σ es' → Q o H') → to σ H Q
theorem epo_none : EPo G tNoPart es none es := fun W F H σ Q c k => k W H (Same.refl _) c
theorem epo_some {n : Int} (h : EF G te es (.int n) es1) : EPo G (tPart te) es (some n) es1 := fun W F H σ Q c k => h W F H σ _ c fun v W' H' s c' hv => by
  rw [is_int] at hv
  exact ⟨n, hv, k W' H' s c'⟩
def cutD {α : Type} (xs : List α) (lo hi : Option Int) : List α := (xs.drop (HT.sIx xs.length 0 lo)).take (HT.sIx xs.length xs.length hi - HT.sIx xs.length 0 lo)
theorem isL_cut {W : Hp} {vs : List V} (h : IsL G W ds vs) (lo hi : Option Int) : IsL G W (cutD ds lo hi) (cutV vs lo hi) := by
  unfold cutD cutV
  rw [h.len]
  exact (h.drop _).take _
theorem eo_sliceL {tl th : TO} {lo hi : Option Int} (h : EF G te es (.lst ds) es1) (hl : EPo G tl es1 lo es2) (hh : EPo G th es2 hi es3) : EO G (tSl (rSlL G.K) te tl th) es (lst G (cutD ds lo hi)) es3 := fun W F H σ Q c k =>
  h W F H σ _ c fun v W1 H1 s1 c1 i1 => hl W1 F H1 σ _ c1 fun W2 H2 s2 c2 => hh W2 F H2 σ _ c2 fun W3 H3 s3 c3 => by
    have i3 := i1.mono (s2.trans s3)
    rw [is_lst] at i3
    obtain ⟨a, vs, rfl, h1, h2⟩ := i3
    refine ⟨a, vs, rfl, SqL.of (c3.sW _ _ h1), fun p hp => ?_⟩
    obtain ⟨c4, d4⟩ := c3.allocF (o := .lst (cutV vs lo hi)) hp
    exact k _ _ W3 _ ((s1.trans s2).trans s3) d4 (hold_lst (isL_cut h2 lo hi)) c4
theorem eo_sliceR {tl th : TO} {lo hi : Option Int} (h : EF G te es (.rol ds) es1) (hl : EPo G tl es1 lo es2) (hh : EPo G th es2 hi es3) : EO G (tSl (rSlL G.K) te tl th) es (lst G (cutD ds lo hi)) es3 := fun W F H σ Q c k =>
  h W F H σ _ c fun v W1 H1 s1 c1 i1 => hl W1 F H1 σ _ c1 fun W2 H2 s2 c2 => hh W2 F H2 σ _ c2 fun W3 H3 s3 c3 => by
    have i3 := i1.mono (s2.trans s3)
    rw [is_rol] at i3
    obtain ⟨a, vs, rfl, h1, h2⟩ := i3
    refine ⟨a, vs, rfl, c3.sW.seq h1, fun p hp => ?_⟩
    obtain ⟨c4, d4⟩ := c3.allocF (o := .lst (cutV vs lo hi)) hp
    exact k _ _ W3 _ ((s1.trans s2).trans s3) d4 (hold_lst (isL_cut h2 lo hi)) c4
/-- the numbers of a list -/
def dI (l : List Int) : List D := l.map .int
/-- the first place of an int -/
theorem flat_ints : ∀ l : List Int, (l.map V.int).all flatV = true
  | [] => rfl
  | _ :: l => by rw [List.map_cons, List.all_cons, flat_ints l]; rfl
theorem idxOf_first {l : List Int} {n : Int} (h : n ∈ l) : l[l.idxOf n]? = some n ∧ ∀ m, m < l.idxOf n → l[m]? ≠ some n := by
  have hl : l.idxOf n < l.length := List.idxOf_lt_length_iff.mpr h
  refine ⟨by rw [List.getElem?_eq_getElem hl, List.getElem_idxOf], fun m hm e => ?_⟩
  obtain ⟨h1, h2⟩ := List.getElem?_eq_some_iff.mp e
  have q := List.not_of_lt_findIdx (p := (· == n)) (xs := l) (i := m) hm
  rw [h2] at q
  simp at q
/-- a method of a value that no one changes -/
def MTP (G : Ct) (T : String) (r : V → List V → Hp → VK → Prop) (x : D) (ds : List D) (z : D) : Prop := ∀ W H vx vs (Q : VK), Same W H → Is G W x vx → IsL G W ds vs → (∀ v, Is G W z v → Q v H) → r vx vs H Q
theorem ef_bmL {r : V → List V → Hp → VK → Prop} (h : EF G te es (.lst xs) es1) (ha : EA G tas es1 ds es2) (hr : MTP G "list" r (.lst xs) ds z) : EF G (tBM G.K "list" r te tas) es z es2 := fun W F H σ Q c k =>
  h W F H σ _ c fun v W1 H1 s1 c1 i1 => by
    have i1' := i1
    rw [is_lst] at i1'
    obtain ⟨a, vs, rfl, h1, h2⟩ := i1'
    exact ⟨.inl ⟨rfl, vs, SqL.of (c1.sW _ _ h1)⟩, ha W1 F H1 σ _ c1 fun ws W2 H2 s2 c2 i2 => hr W2 H2 _ ws Q c2.sW (i1.mono s2) i2 fun v iv => k v W2 H2 (s1.trans s2) c2 iv⟩
theorem mt_idx {l : List Int} {n : Int} (h : n ∈ l) : MTP G "list" (rIndex G.K) (.lst (dI l)) [.int n] (.int (l.idxOf n : Nat)) := fun W H vx vs Q s hx hy k => by
  rw [is_lst] at hx
  obtain ⟨a, ws, rfl, h1, h2⟩ := hx
  obtain ⟨v, rfl, hv⟩ := isL1 hy
  rw [is_int] at hv
  subst hv
  have e : ws = l.map V.int := h2.ints
  subst e
  obtain ⟨f1, f2⟩ := idxOf_first h
  refine ⟨a, l.map V.int, .int n, l.idxOf n, .int n, rfl, rfl, SqL.of (s _ _ h1), rfl, flat_ints l, by rw [List.getElem?_map, f1]; rfl, by simp [eqV], fun m z' hm e => ?_, k _ (is_int.mpr rfl)⟩
  rw [List.getElem?_map] at e
  cases q : l[m]? with
  | none => rw [q] at e; cases e
  | some u =>
    rw [q] at e
    cases e
    have : u ≠ n := fun z => f2 m hm (by rw [q, z])
    simp [eqV, this]

/-! ### == of data -/
mutual
def toPy : D → PyData
  | .non => .none
  | .bl b => .bool b
  | .int i => .int i
  | .str x => .str x
  | .lst ds => .list (toPyL ds)
  | .rol ds => .list (toPyL ds)
  | .tup ds => .tuple (toPyL ds)
  | .ins _ _ _ => .none
  | .raw _ => .none
  | .ty _ => .none
  | .err _ _ _ _ => .none
def toPyL : List D → List PyData
  | [] => []
  | d :: ds => toPy d :: toPyL ds
def plainD : D → Bool
  | .ins _ _ _ => false
  | .raw _ => false
  | .ty _ => false
  | .err _ _ _ _ => false
  | .lst ds => plainL ds
  | .rol ds => plainL ds
  | .tup ds => plainL ds
  | _ => true
def plainL : List D → Bool
  | [] => true
  | d :: ds => plainD d && plainL ds
end
mutual
theorem dp_of {W H : Hp} (s : Same W H) : ∀ {d : D} {v : V}, plainD d = true → Is G W d v → Dp G.K H v (toPy d)
  | .non, v, _, h => by rw [is_non] at h; subst h; unfold toPy; exact .non
  | .bl b, v, _, h => by rw [is_bl] at h; subst h; unfold toPy; exact .bl _
  | .int b, v, _, h => by rw [is_int] at h; subst h; unfold toPy; exact .int _
  | .str b, v, _, h => by rw [is_str] at h; subst h; unfold toPy; exact .str _
  | .lst ds, v, p, h => by
    rw [is_lst] at h
    obtain ⟨a, vs, rfl, h1, h2⟩ := h
    unfold toPy
    unfold plainD at p
    exact .lst (SqL.of (s _ _ h1)) (dpL_of s p h2)
  | .rol ds, v, p, h => by
    rw [is_rol] at h
    obtain ⟨a, vs, rfl, h1, h2⟩ := h
    unfold toPy
    unfold plainD at p
    exact .lst (s.seq h1) (dpL_of s p h2)
  | .tup ds, v, p, h => by
    rw [is_tup] at h
    obtain ⟨a, vs, rfl, h1, h2⟩ := h
    unfold toPy
    unfold plainD at p
    exact .tup (s.sqt h1) (dpL_of s p h2)
  | .ins _ _ _, v, p, h => by unfold plainD at p; cases p
  | .raw _, v, p, h => by unfold plainD at p; cases p
  | .ty _, v, p, h => by unfold plainD at p; cases p
  | .err _ _ _ _, v, p, h => by unfold plainD at p; cases p
theorem dpL_of {W H : Hp} (s : Same W H) : ∀ {ds : List D} {vs : List V}, plainL ds = true → IsL G W ds vs → DpAll G.K H vs (toPyL ds)
  | [], vs, _, h => by unfold IsL at h; subst h; unfold toPyL; exact .nil
  | d :: ds, vs, p, h => by
    obtain ⟨v, ws, rfl, h1, h2⟩ := h.uncons
    unfold plainL at p
    rw [Bool.and_eq_true] at p
    unfold toPyL
    exact .cons (dp_of s p.1 h1) (dpL_of s p.2 h2)
end
theorem r2_eqD (px : plainD x = true) (py : plainD y = true) (sx : SeqAt.shaped (toPy x) = true) (sy : SeqAt.shaped (toPy y) = true) : R2P G (rEqD G.K) x y (.bl (PyData.eqv (toPy x) (toPy y))) := fun W H vx vy Q s hx hy k =>
  ⟨_, _, dp_of s px hx, dp_of s py hy, sx, sy, k _ (is_bl.mpr rfl)⟩
theorem r2_neD (px : plainD x = true) (py : plainD y = true) (sx : SeqAt.shaped (toPy x) = true) (sy : SeqAt.shaped (toPy y) = true) : R2P G (rNeD G.K) x y (.bl (!PyData.eqv (toPy x) (toPy y))) := fun W H vx vy Q s hx hy k =>
  ⟨_, _, dp_of s px hx, dp_of s py hy, sx, sy, k _ (is_bl.mpr rfl)⟩
theorem toPyL_ints : ∀ l : List Int, toPyL (dI l) = l.map PyData.int
  | [] => rfl
  | n :: l => by
    show toPyL (D.int n :: dI l) = PyData.int n :: l.map PyData.int
    rw [toPyL, toPy, toPyL_ints l]
theorem plainL_ints : ∀ l : List Int, plainL (dI l) = true
  | [] => rfl
  | n :: l => by
    show plainL (D.int n :: dI l) = true
    rw [plainL, plainL_ints l]
    rfl
theorem eqv_ints : ∀ l m : List Int, PyData.eqvAll (l.map PyData.int) (m.map PyData.int) = decide (l = m)
  | [], [] => rfl
  | [], _ :: _ => rfl
  | _ :: _, [] => rfl
  | a :: l, b :: m => by
    show (PyData.eqv (.int a) (.int b) && PyData.eqvAll (l.map PyData.int) (m.map PyData.int)) = _
    rw [eqv_ints l m]
    show ((a == b) && decide (l = m)) = decide (a :: l = b :: m)
    by_cases h1 : a = b
    · subst h1; simp
    · simp [h1]
theorem canLay_ints : ∀ l : List Int, PyData.canLayAll0 (l.map PyData.int) = true
  | [] => rfl
  | n :: l => by
    show (PyData.canLay0 (.int n) && PyData.canLayAll0 (l.map PyData.int)) = true
    rw [canLay_ints l]
    rfl
theorem depth_ints : ∀ l : List Int, PyData.depthAll (l.map PyData.int) = 0
  | [] => rfl
  | n :: l => by
    show max (PyData.depth (.int n)) (PyData.depthAll (l.map PyData.int)) = 0
    rw [depth_ints l]
    rfl
theorem shaped_list {l : List Int} (hl : l.length ≤ 100000) : SeqAt.shaped (.list (l.map PyData.int)) = true := by
  unfold SeqAt.shaped
  simp only [PyData.canLay0, PyData.depth, canLay_ints, depth_ints]
  simp
  try (exact sz_of hl)
theorem shaped_tuple {l : List Int} (hl : l.length ≤ 100000) : SeqAt.shaped (.tuple (l.map PyData.int)) = true := by
  unfold SeqAt.shaped
  simp only [PyData.canLay0, PyData.depth, canLay_ints, depth_ints]
  simp
  try (exact sz_of hl)
theorem r2_eqLL {l m : List Int} (hl : l.length ≤ 100000) (hm : m.length ≤ 100000) : R2P G (rEqD G.K) (.lst (dI l)) (.lst (dI m)) (.bl (decide (l = m))) := by
  have h := r2_eqD (G := G) (x := .lst (dI l)) (y := .lst (dI m)) (by unfold plainD; exact plainL_ints l) (by unfold plainD; exact plainL_ints m) (by rw [toPy, toPyL_ints]; exact shaped_list hl) (by rw [toPy, toPyL_ints]; exact shaped_list hm)
  rw [toPy, toPy, toPyL_ints, toPyL_ints] at h
  have e : PyData.eqv (.list (l.map PyData.int)) (.list (m.map PyData.int)) = decide (l = m) := by
    rw [PyData.eqv]
    exact eqv_ints l m
  rw [e] at h
  exact h
theorem r2_neLL {l m : List Int} (hl : l.length ≤ 100000) (hm : m.length ≤ 100000) : R2P G (rNeD G.K) (.lst (dI l)) (.lst (dI m)) (.bl (!decide (l = m))) := by
  have h := r2_neD (G := G) (x := .lst (dI l)) (y := .lst (dI m)) (by unfold plainD; exact plainL_ints l) (by unfold plainD; exact plainL_ints m) (by rw [toPy, toPyL_ints]; exact shaped_list hl) (by rw [toPy, toPyL_ints]; exact shaped_list hm)
  rw [toPy, toPy, toPyL_ints, toPyL_ints] at h
  have e : PyData.eqv (.list (l.map PyData.int)) (.list (m.map PyData.int)) = decide (l = m) := by
    rw [PyData.eqv]
    exact eqv_ints l m
  rw [e] at h
  exact h
theorem r2_eqTT {l m : List Int} (hl : l.length ≤ 100000) (hm : m.length ≤ 100000) : R2P G (rEqD G.K) (.tup (dI l)) (.tup (dI m)) (.bl (decide (l = m))) := by
  have h := r2_eqD (G := G) (x := .tup (dI l)) (y := .tup (dI m)) (by unfold plainD; exact plainL_ints l) (by unfold plainD; exact plainL_ints m) (by rw [toPy, toPyL_ints]; exact shaped_tuple hl) (by rw [toPy, toPyL_ints]; exact shaped_tuple hm)
  rw [toPy, toPy, toPyL_ints, toPyL_ints] at h
  have e : PyData.eqv (.tuple (l.map PyData.int)) (.tuple (m.map PyData.int)) = decide (l = m) := by
    rw [PyData.eqv]
    exact eqv_ints l m
  rw [e] at h
  exact h

/-! ### fields -/
theorem lookup_zip : ∀ {ns : List Str} {ds : List D} {vs : List V} {W : Hp} {f : Str} {d : D}, IsL G W ds vs → (ns.zip ds).lookup f = some d → ∃ v, (ns.zip vs).lookup f = some v ∧ Is G W d v
  | [], _, _, _, _, _, _, e => by simp at e
  | n :: ns, [], vs, W, f, d, h, e => by simp at e
  | n :: ns, d' :: ds, vs, W, f, d, h, e => by
    obtain ⟨v, ws, rfl, h1, h2⟩ := h.uncons
    rw [List.zip_cons_cons, List.lookup_cons] at e ⊢
    by_cases q : (f == n) = true
    · rw [q] at e ⊢
      cases e
      exact ⟨v, rfl, h1⟩
    · rw [Bool.not_eq_true] at q
      rw [q] at e ⊢
      exact lookup_zip h2 e
/-- where a field stands -/
def fix (ns : List Str) (f : Str) (j : Nat) : Bool := decide (ns[j]? = some f) && (List.range j).all fun i => decide (ns[i]? ≠ some f)
theorem fix_lookup : ∀ {ns : List Str} {ds : List D} {f : Str} {j : Nat} {d : D}, ns[j]? = some f → (∀ i, i < j → ns[i]? ≠ some f) → ds[j]? = some d → (ns.zip ds).lookup f = some d
  | [], _, _, _, _, h, _, _ => by simp at h
  | n :: ns, [], _, j, _, _, _, e => by simp at e
  | n :: ns, d' :: ds, f, 0, d, h, _, e => by
    simp at h e
    subst h e
    simp
  | n :: ns, d' :: ds, f, j + 1, d, h, hn, e => by
    have q : (f == n) = false := by
      have := hn 0 (by omega)
      simp at this
      simp [Ne.symm this]
    rw [List.zip_cons_cons, List.lookup_cons, q]
    refine fix_lookup (j := j) (by simpa using h) (fun i hi => ?_) (by simpa using e)
    have := hn (i + 1) (by omega)
    simpa using this
theorem ef_fld {C : Addr} {ns : List Str} {f : Str} (j : Nat) (h : EF G te es (.ins C ns ds) es1) (hf : fix ns f j = true) (hd : ds[j]? = some d) (cl : Cls G.K C) (na : NoAttr G.K C f) : EF G (tFld G.K te f) es d es1 := fun W F H σ Q c k =>
  h W F H σ _ c fun v W1 H1 s1 c1 i1 => by
    rw [is_ins] at i1
    obtain ⟨a, dx, vs, rfl, h1, h2, h3⟩ := i1
    unfold fix at hf
    simp only [Bool.and_eq_true, decide_eq_true_eq, List.all_eq_true, List.mem_range] at hf
    obtain ⟨v, e1, e2⟩ := lookup_zip h3 (fix_lookup hf.1 hf.2 hd)
    exact ⟨a, C, dx, _, v, rfl, c1.sW _ _ h1, cl, na, e1, k v W1 H1 s1 c1 e2⟩
end
end DL

namespace DL
open PySem L2
variable {G : Ct}

/-! ### statements -/
structure Po where
  nx : Es → Prop := fun _ => False
  rt : Ent → Es → Prop := fun _ _ => False
  bk : Es → Prop := fun _ => False
  ct : Es → Prop := fun _ => False
  ex : Addr → List Str → List D → Es → Prop := fun _ _ _ _ => False
structure Post (G : Ct) (Ex : XK) (P : Po) (W F : Hp) (D : Ends) : Prop where
  nx : ∀ es W' H' σ, P.nx es → Same W W' → Cfg G W' F H' σ es → D.nx σ H'
  rt : ∀ φ es v m W' H' σ, P.rt φ es → Same W W' → Dis m F → Hold φ W' v m → Cfg G W' (un m F) H' σ es → D.rt v H'
  bk : ∀ es W' H' σ, P.bk es → Same W W' → Cfg G W' F H' σ es → D.bk σ H'
  ct : ∀ es W' H' σ, P.ct es → Same W W' → Cfg G W' F H' σ es → D.ct σ H'
  ex : ∀ C ns ds es d vs W' H' σ, P.ex C ns ds es → Same W W' → Cfg G W' F H' σ es → IsL G W' ds vs → W' d = some (.xd (ns.zip vs)) → Ex (.ref C) (some d) H'
theorem Post.mono {Ex : XK} {P : Po} {W W1 F : Hp} {D : Ends} (s : Same W W1) (p : Post G Ex P W F D) : Post G Ex P W1 F D :=
  ⟨fun es W' H' σ h s' => p.nx es W' H' σ h (s.trans s'), fun φ es v m W' H' σ h s' => p.rt φ es v m W' H' σ h (s.trans s'), fun es W' H' σ h s' => p.bk es W' H' σ h (s.trans s'), fun es W' H' σ h s' => p.ct es W' H' σ h (s.trans s'),
    fun C ns ds es d vs W' H' σ h s' => p.ex C ns ds es d vs W' H' σ h (s.trans s')⟩
def S (G : Ct) (Ex : XK) (ts : TS) (es : Es) (P : Po) : Prop := ∀ W F H σ D, Cfg G W F H σ es → Post G Ex P W F D → ts D σ H
/-- an expression that raises -/
def EX (G : Ct) (Ex : XK) (te : TE) (es : Es) (C : Addr) (ns : List Str) (ds : List D) (es' : Es) : Prop :=
  ∀ W F H σ (Q : VK), Cfg G W F H σ es → (∀ d vs W' H', Same W W' → Cfg G W' F H' σ es' → IsL G W' ds vs → W' d = some (.xd (ns.zip vs)) → Ex (.ref C) (some d) H') → te σ H Q
section
variable {Ex : XK} {te ta tb tc : TE} {tt tu : TT} {tas : TA} {t u w : TS} {es es' es1 es2 es3 : Es} {d x y z : D} {ds xs ys : List D} {b b' : Bool} {i j : Nat} {φ ψ : Ent} {P : Po} {C : Addr} {ns : List Str}
/-- weaker ends -/
theorem S.imp {P' : Po} (h : S G Ex t es P) (h1 : ∀ e, P.nx e → P'.nx e) (h2 : ∀ φ e, P.rt φ e → P'.rt φ e) (h3 : ∀ e, P.bk e → P'.bk e) (h4 : ∀ e, P.ct e → P'.ct e) (h5 : ∀ C ns ds e, P.ex C ns ds e → P'.ex C ns ds e) : S G Ex t es P' := fun W F H σ D c k =>
  h W F H σ D c ⟨fun e W' H' σ p => k.nx e W' H' σ (h1 e p), fun φ e v m W' H' σ p => k.rt φ e v m W' H' σ (h2 φ e p), fun e W' H' σ p => k.bk e W' H' σ (h3 e p), fun e W' H' σ p => k.ct e W' H' σ (h4 e p), fun C ns ds e d vs W' H' σ p => k.ex C ns ds e d vs W' H' σ (h5 C ns ds e p)⟩
theorem s_next (h : P.nx es) : S G Ex tNext es P := fun W F H σ D c k => k.nx es W H σ h (Same.refl _) c
theorem s_brk (h : P.bk es) : S G Ex tBreak es P := fun W F H σ D c k => k.bk es W H σ h (Same.refl _) c
theorem s_cont (h : P.ct es) : S G Ex tCont es P := fun W F H σ D c k => k.ct es W H σ h (Same.refl _) c
/-- one after the other: what follows, from each end of the first -/
abbrev Po.then (P : Po) (G : Ct) (Ex : XK) (u : TS) : Po := { P with nx := fun e => S G Ex u e P }
theorem s_seq (h : S G Ex t es (P.then G Ex u)) : S G Ex (tSeq t u) es P := fun W F H σ D c k =>
  h W F H σ { D with nx := u D } c ⟨fun e W' H' σ' hu s c' => hu W' F H' σ' D c' (k.mono s), k.rt, k.bk, k.ct, k.ex⟩
theorem s_asg (h : EF G te es d es1) (k : P.nx (es1.set i (some (fr G d)))) : S G Ex (tAsg te (gName i)) es P := fun W F H σ D c p => h W F H σ _ c fun v W' H' s c' hv =>
  p.nx _ W' H' _ k s (c'.store hv)
theorem s_asgO (h : EO G te es φ es1) (k : P.nx (es1.set i (some φ))) : S G Ex (tAsg te (gName i)) es P := fun W F H σ D c p => h W F H σ _ c fun v m W' H' s dm hm c' => by
  by_cases hi : i < σ.length
  · have c2 : Cfg G W' (un m F) H' (σ.set i (some v)) (es1.set i none) := by
      have c3 := c'.store (i := i) (d := .non) (v := .non) (is_non.mpr rfl)
      obtain ⟨ms, c3⟩ := c3
      refine ⟨ms, ⟨fun k φ e => ?_, c3.dm, c3.dF, c3.dW, c3.dFW, c3.sW, c3.sF, c3.sm, c3.tab, c3.nt, ?_⟩⟩
      · obtain ⟨e, n⟩ := get_set_none e
        obtain ⟨v', h1, h2⟩ := c3.at_ k φ (by rw [List.getElem?_set_ne (Ne.symm n)]; exact e)
        rw [List.getElem?_set_ne (Ne.symm n)] at h1
        exact ⟨v', by rw [List.getElem?_set_ne (Ne.symm n)]; exact h1, h2⟩
      · have := c3.len
        simpa using this
    have c4 := c2.give (i := i) dm (List.getElem?_set_self hi) hm
    rw [List.set_set] at c4
    exact p.nx _ W' H' _ k s c4
  · have hl := (show es1.length = σ.length from let ⟨_, q⟩ := c'; q.len)
    have e1 : es1.set i (some φ) = es1 := List.set_eq_of_length_le (by omega)
    have e2 : σ.set i (some v) = σ := List.set_eq_of_length_le (by omega)
    rw [e1] at k
    show D.nx (σ.set i (some v)) H'
    rw [e2]
    exact p.nx _ W' H' _ k s (c'.lose dm)
theorem s_drop (h : EF G te es d es1) (k : P.nx es1) : S G Ex (tDrop te) es P := fun W F H σ D c p => h W F H σ _ c fun v W' H' s c' hv => p.nx _ W' H' _ k s c'
theorem s_dropO (h : EO G te es φ es1) (k : P.nx es1) : S G Ex (tDrop te) es P := fun W F H σ D c p => h W F H σ _ c fun v m W' H' s dm hm c' => p.nx _ W' H' _ k s (c'.lose dm)
theorem s_dropX (h : EX G Ex te es C ns ds es1) (k : P.ex C ns ds es1) : S G Ex (tDrop te) es P := fun W F H σ D c p => h W F H σ _ c fun d vs W' H' s c' iv hd => p.ex C ns ds _ d vs W' H' σ k s c' iv hd
theorem s_asgX {g : TG} (h : EX G Ex te es C ns ds es1) (k : P.ex C ns ds es1) : S G Ex (tAsg te g) es P := fun W F H σ D c p => h W F H σ _ c fun d vs W' H' s c' iv hd => p.ex C ns ds _ d vs W' H' σ k s c' iv hd
theorem s_retX (h : EX G Ex te es C ns ds es1) (k : P.ex C ns ds es1) : S G Ex (tRet te) es P := fun W F H σ D c p => h W F H σ _ c fun d vs W' H' s c' iv hd => p.ex C ns ds _ d vs W' H' σ k s c' iv hd
theorem s_ret (h : EF G te es d es1) (k : P.rt (fr G d) es1) : S G Ex (tRet te) es P := fun W F H σ D c p => h W F H σ _ c fun v W' H' s c' hv => p.rt _ _ v emp W' H' σ k s dis_emp (Hold.of hv) (by rw [un_emp]; exact c')
theorem s_retO (h : EO G te es φ es1) (k : P.rt φ es1) : S G Ex (tRet te) es P := fun W F H σ D c p => h W F H σ _ c fun v m W' H' s dm hm c' => p.rt _ _ v m W' H' σ k s dm hm c'
theorem s_retN (k : P.rt (fr G .non) es) : S G Ex tRetN es P := fun W F H σ D c p => p.rt _ _ .non emp W H σ k (Same.refl _) dis_emp (Hold.of (is_non.mpr rfl)) (by rw [un_emp]; exact c)
theorem s_if (h : ET G tt es b es1) (h1 : b = true → S G Ex t es1 P) (h2 : b = false → S G Ex u es1 P) : S G Ex (tIfS tt t u) es P := fun W F H σ D c p => h W F H σ _ c fun W' H' s c' => by
  cases b with
  | true =>
    show t D σ H'
    exact h1 rfl W' F H' σ D c' (p.mono s)
  | false =>
    show u D σ H'
    exact h2 rfl W' F H' σ D c' (p.mono s)
/-- the short forms: a statement, then the rest -/
theorem q_asg (h : EF G te es d es1) (k : S G Ex u (es1.set i (some (fr G d))) P) : S G Ex (tSeq (tAsg te (gName i)) u) es P := s_seq (s_asg h k)
theorem q_asgO (h : EO G te es φ es1) (k : S G Ex u (es1.set i (some φ)) P) : S G Ex (tSeq (tAsg te (gName i)) u) es P := s_seq (s_asgO h k)
theorem q_drop (h : EF G te es d es1) (k : S G Ex u es1 P) : S G Ex (tSeq (tDrop te) u) es P := s_seq (s_drop h k)
theorem q_if (h : ET G tt es b es1) (h1 : b = true → S G Ex t es1 (P.then G Ex u)) (h2 : b = false → S G Ex w es1 (P.then G Ex u)) : S G Ex (tSeq (tIfS tt t w) u) es P := s_seq (s_if h h1 h2)
/-- an if without else -/
theorem q_when (h : ET G tt es b es1) (h1 : b = true → S G Ex t es1 (P.then G Ex u)) (h2 : b = false → S G Ex u es1 P) : S G Ex (tSeq (tIfS tt t tNext) u) es P := s_seq (s_if h h1 fun e => s_next (h2 e))

/-! ### our own lists written -/
/-- a method that changes a list of our own: of its items the new ones, and what it hands back -/
def MTL (G : Ct) (r : V → List V → Hp → VK → Prop) (xs ds ys : List D) (z : D) : Prop := ∀ W H a vs ws (Q : VK), H a = some (.lst vs) → Same W H → IsL G W xs vs → IsL G W ds ws → (∀ us v, IsL G W ys us → Is G W z v → Q v (upd H a (.lst us))) → r (.ref a) ws H Q
theorem cfg_wr {W F H : Hp} {σ : St} {es : Es} {a : Addr} {vs us : List V} (c : Cfg G W (un (one a (.lst vs)) F) H σ es) (hd : Dis (one a (.lst vs)) F) : Cfg G W (un (one a (.lst us)) F) (upd H a (.lst us)) σ es ∧ Dis (one a (.lst us)) F := c.write hd (fun ps z => by cases z) (fun c0 q z => by unfold LamX.CodeO at z; cases z)
theorem ef_bmO {r : V → List V → Hp → VK → Prop} (ha : EA G tas es ds es1) (h : es1[i]? = some (some (lst G xs))) (h0 : es[i]? = some (some (lst G xs))) (hr : MTL G r xs ds ys z) : EF G (tBM G.K "list" r (tVar i) tas) es z (es1.set i (some (lst G ys))) := fun W F H σ Q c k => by
  obtain ⟨v, m, e1, hm, dm, sm, ct⟩ := c.take h0
  obtain ⟨a, vs, rfl, h1, rfl⟩ := hm.lst
  refine ⟨.ref a, e1, .inl ⟨rfl, vs, SqL.of (sm _ _ one_same)⟩, ha W F H σ _ c fun ws W2 H2 s2 c2 i2 => ?_⟩
  obtain ⟨v', m', e1', hm', dm', sm', ct'⟩ := c2.take h
  obtain ⟨a', vs', rfl, h1', rfl⟩ := hm'.lst
  rw [e1] at e1'
  cases e1'
  refine hr W2 H2 a vs' ws Q (sm' _ _ one_same) c2.sW h1' i2 fun us v iu iv => ?_
  obtain ⟨c3, d3⟩ := cfg_wr (us := us) ct' dm'
  have c4 := c3.give (i := i) (φ := lst G ys) d3 e1 (hold_lst iu)
  rw [List.set_set] at c4
  exact k v W2 _ s2 c4 iv
theorem ml_append (hl : xs.length < 100000) : MTL G rAppend xs [x] (xs ++ [x]) .non := fun W H a vs ws Q h s i1 i2 k => by
  obtain ⟨w, rfl, hw⟩ := isL1 i2
  exact ⟨a, vs, w, rfl, rfl, h, sz_lt (by rw [← i1.len]; exact hl), k _ _ (i1.append (IsL.one hw)) (is_non.mpr rfl)⟩
theorem ml_clear : MTL G rClear xs [] [] .non := fun W H a vs ws Q h s i1 i2 k => by
  unfold IsL at i2
  subst i2
  exact ⟨a, vs, rfl, rfl, h, k [] _ IsL.nil (is_non.mpr rfl)⟩
theorem ml_reverse : MTL G rReverse xs [] xs.reverse .non := fun W H a vs ws Q h s i1 i2 k => by
  unfold IsL at i2
  subst i2
  exact ⟨a, vs, rfl, rfl, h, k _ _ i1.reverse (is_non.mpr rfl)⟩
theorem ml_pop (h : xs[xs.length - 1]? = some x) : MTL G rPop xs [] xs.dropLast x := fun W H a vs ws Q h' s i1 i2 k => by
  unfold IsL at i2
  subst i2
  obtain ⟨v, e1, e2⟩ := i1.get h
  exact ⟨a, vs, v, rfl, rfl, h', by rw [← i1.len]; exact e1, k _ _ i1.dropLast e2⟩
/-- methods without arguments: tBM0 -/
theorem ef_bmO0 {r : V → List V → Hp → VK → Prop} (h : es[i]? = some (some (lst G xs))) (hr : MTL G r xs [] ys z) : EF G (tBM0 G.K "list" r (tVar i)) es z (es.set i (some (lst G ys))) := fun W F H σ Q c k => by
  obtain ⟨v, m, e1, hm, dm, sm, ct⟩ := c.take h
  obtain ⟨a, vs, rfl, h1, rfl⟩ := hm.lst
  refine ⟨.ref a, e1, .inl ⟨rfl, vs, SqL.of (sm _ _ one_same)⟩, ?_⟩
  refine hr W H a vs [] Q (sm _ _ one_same) c.sW h1 IsL.nil fun us v iu iv => ?_
  obtain ⟨c3, d3⟩ := cfg_wr (us := us) ct dm
  have c4 := c3.give (i := i) (φ := lst G ys) d3 e1 (hold_lst iu)
  rw [List.set_set] at c4
  exact k v W _ (Same.refl _) c4 iv
/-- xs[n] = e -/
theorem s_setO {n : Nat} (h : EF G te es d es1) (ho : es1[i]? = some (some (lst G xs))) (hi : EF G tb es1 (.int (n : Int)) es1) (hn : n < xs.length) (k : P.nx (es1.set i (some (lst G (xs.set n d))))) : S G Ex (tAsg te (gSub (tVar i) tb rSetL)) es P := fun W F H σ D c p => h W F H σ _ c fun v W1 H1 s1 c1 i1 => by
  obtain ⟨v0, m, e1, hm, dm, sm, ct⟩ := c1.take ho
  obtain ⟨a, vs, rfl, h1, rfl⟩ := hm.lst
  refine ⟨.ref a, e1, hi W1 F H1 σ _ c1 fun w W2 H2 s2 c2 i2 => ?_⟩
  rw [is_int] at i2
  subst i2
  obtain ⟨v0', m', e1', hm', dm', sm', ct'⟩ := c2.take ho
  obtain ⟨a', vs', rfl, h1', rfl⟩ := hm'.lst
  rw [e1] at e1'
  cases e1'
  refine ⟨a, vs', n, n, rfl, rfl, sm' _ _ one_same, ixN_of (by rw [← h1'.len]; exact hn), ?_⟩
  obtain ⟨c3, d3⟩ := cfg_wr (us := vs'.set n v) ct' dm'
  have c4 := c3.give (i := i) (φ := lst G (xs.set n d)) d3 e1 (hold_lst (h1'.set n (i1.mono s2)))
  rw [List.set_set] at c4
  exact p.nx _ W2 _ σ k (s1.trans s2) c4
/-- what is our own is read as a value, and kept: its items -/
theorem r_own {W F H : Hp} {σ : St} {xs : List D} (c : Cfg G W F H σ es) (h : es[i]? = some (some (lst G xs))) : ∃ a vs, σ[i]? = some (some (.ref a)) ∧ H a = some (.lst vs) ∧ IsL G W xs vs := by
  obtain ⟨v, m, e1, hm, dm, sm, ct⟩ := c.take h
  obtain ⟨a, vs, rfl, h1, rfl⟩ := hm.lst
  exact ⟨a, vs, e1, sm _ _ one_same, h1⟩
/-- from now on it does not change -/
theorem s_freeze (h : es[i]? = some (some (lst G xs))) (k : S G Ex t (es.set i (some (fr G (.lst xs)))) P) : S G Ex t es P := fun W F H σ D c p => by
  obtain ⟨v, m, e1, hm, dm, sm, ct⟩ := c.take h
  obtain ⟨a, vs, rfl, h1, rfl⟩ := hm.lst
  obtain ⟨c2, s2⟩ := ct.freeze dm
  have c3 := c2.store (i := i) (d := .lst xs) (v := .ref a) (is_lst.mpr ⟨a, vs, rfl, upd_same, h1.mono s2⟩)
  have e2 : σ.set i (some (.ref a)) = σ := by
    apply List.ext_getElem?
    intro n
    by_cases q : n = i
    · subst q
      have hl := (List.getElem?_eq_some_iff.mp e1).1
      rw [List.getElem?_set_self hl, e1]
    · rw [List.getElem?_set_ne (Ne.symm q)]
  rw [e2, List.set_set] at c3
  exact k _ F H σ D c3 (p.mono s2)

/-! ### comprehensions -/
theorem wipe1 (σ : St) (j : Nat) (v : V) : wipe ((wipe σ [j]).set j (some v)) [j] = wipe σ [j] := by
  show ((σ.set j none).set j (some v)).set j none = σ.set j none
  rw [List.set_set, List.set_set]
theorem Cfg.wipe {W F H : Hp} {σ : St} (c : Cfg G W F H σ es) (h : es[j]? = some none) : Cfg G W F H (L2.wipe σ [j]) es := by
  obtain ⟨ms, c⟩ := c
  refine ⟨ms, ⟨fun k φ e => ?_, c.dm, c.dF, c.dW, c.dFW, c.sW, c.sF, c.sm, c.tab, c.nt, by rw [wipe_length]; exact c.len⟩⟩
  have n : k ≠ j := fun z => by rw [z, h] at e; cases e
  obtain ⟨v, h1, h2⟩ := c.at_ k φ e
  exact ⟨v, by show (σ.set j none)[k]? = _; rw [List.getElem?_set_ne (Ne.symm n)]; exact h1, h2⟩
theorem Cfg.unwipe {W F H : Hp} {σ : St} (c : Cfg G W F H (L2.wipe σ [j]) es) : Cfg G W F H σ es := by
  obtain ⟨ms, c⟩ := c
  refine ⟨ms, ⟨fun k φ e => ?_, c.dm, c.dF, c.dW, c.dFW, c.sW, c.sF, c.sm, c.tab, c.nt, by rw [c.len, wipe_length]⟩⟩
  obtain ⟨v, h1, h2⟩ := c.at_ k φ e
  exact ⟨v, (wipe_some h1).1, h2⟩
theorem set_none_back (h : es[j]? = some none) : (es.set j (some φ)).set j none = es := by
  rw [List.set_set]
  apply List.ext_getElem?
  intro n
  by_cases q : n = j
  · subst q
    have hl := (List.getElem?_eq_some_iff.mp h).1
    rw [List.getElem?_set_self hl, h]
  · rw [List.getElem?_set_ne (Ne.symm q)]
/-- what is made so far: p: is the i-th taken, f: its value -/
def got (p : Nat → Bool) (f : Nat → D) (n : Nat) : List D := ((List.range n).filter p).map f
theorem got_zero (p : Nat → Bool) (f : Nat → D) : got p f 0 = [] := rfl
theorem got_yes {p : Nat → Bool} {f : Nat → D} {n : Nat} (h : p n = true) : got p f (n + 1) = got p f n ++ [f n] := by
  unfold got
  rw [List.range_succ, List.filter_append, List.map_append, List.filter_cons, if_pos h]
  rfl
theorem got_no {p : Nat → Bool} {f : Nat → D} {n : Nat} (h : p n = false) : got p f (n + 1) = got p f n := by
  unfold got
  rw [List.range_succ, List.filter_append, List.map_append, List.filter_cons, if_neg (by rw [h]; decide)]
  simp
theorem got_len (p : Nat → Bool) (f : Nat → D) (n : Nat) : (got p f n).length ≤ n := by
  unfold got
  rw [List.length_map]
  have h := List.length_filter_le p (List.range n)
  rwa [List.length_range] at h
/-- between two turns -/
def Pv (G : Ct) (W0 F : Hp) (σ : St) (j : Nat) (B : Nat → Es) (p : Nat → Bool) (f : Nat → D) (Dl : Addr) (i : Nat) (H : Hp) : Prop :=
  ∃ W acc, Same W0 W ∧ Dis (one Dl (.lst acc)) F ∧ Cfg G W (un (one Dl (.lst acc)) F) H (L2.wipe σ [j]) (B i) ∧ IsL G W (got p f i) acc
/-- one turn's reading -/
def Turn (G : Ct) (tt : TT) (te : TE) (j : Nat) (B : Nat → Es) (p : Nat → Bool) (f : Nat → D) (i : Nat) (x : D) : Prop :=
  (B i)[j]? = some none ∧ ET G tt ((B i).set j (some (fr G x))) (p i) ((B i).set j (some (fr G x))) ∧ (p i = true → EF G te ((B i).set j (some (fr G x))) (f i) ((B (i + 1)).set j (some (fr G x))) ∧ (B (i + 1))[j]? = some none) ∧ (p i = false → B (i + 1) = B i)
theorem pv_turn {W0 F H : Hp} {σ : St} {B : Nat → Es} {p : Nat → Bool} {f : Nat → D} {Dl : Addr} {n : Nat} {x : D} {v : V} (hx : ∀ W, Same W0 W → Is G W x v) (hn : n < 100000) (h : Turn G tt te j B p f n x) (q : Pv G W0 F σ j B p f Dl n H) :
    gName j v (L2.wipe σ [j]) H fun σ2 H2 => L2.wipe σ2 [j] = L2.wipe σ [j] ∧ tt σ2 H2 fun b H3 => if b = true then te σ2 H3 fun y H4 => ∃ acc, H4 Dl = some (.lst acc) ∧ acc.length < sizeLine ∧ Pv G W0 F σ j B p f Dl (n + 1) (upd H4 Dl (.lst (acc ++ [y]))) else Pv G W0 F σ j B p f Dl (n + 1) H3 := by
  obtain ⟨W, acc, s, dF, c, il⟩ := q
  obtain ⟨hj, ht, he, hno⟩ := h
  refine ⟨wipe1 σ j v, ?_⟩
  have c1 := c.store (i := j) (hx W s)
  refine ht W _ H _ _ c1 fun W1 H1 s1 c2 => ?_
  cases hp : p n with
  | true =>
    obtain ⟨he, hj2⟩ := he hp
    refine (show (te ((L2.wipe σ [j]).set j (some v)) H1 _) from he W1 _ H1 _ _ c2 fun y W2 H2 s2 c3 iy => ?_)
    have hH : H2 Dl = some (.lst acc) := c3.sF Dl _ (un_l one_same)
    refine ⟨acc, hH, sz_lt (by rw [← il.len]; have := got_len p f n; omega), ?_⟩
    obtain ⟨c4, d4⟩ := cfg_wr (us := acc ++ [y]) c3 dF
    refine ⟨W2, acc ++ [y], (s.trans s1).trans s2, d4, ?_, ?_⟩
    · have c5 := c4.drop j
      rw [set_none_back hj2] at c5
      obtain ⟨ms, c5⟩ := c5
      refine ⟨ms, ⟨fun k φ e => ?_, c5.dm, c5.dF, c5.dW, c5.dFW, c5.sW, c5.sF, c5.sm, c5.tab, c5.nt, by have := c5.len; simpa using this⟩⟩
      have nk : k ≠ j := fun z => by rw [z, hj2] at e; cases e
      obtain ⟨v', h1, h2⟩ := c5.at_ k φ e
      rw [List.getElem?_set_ne (Ne.symm nk)] at h1
      exact ⟨v', h1, h2⟩
    · rw [got_yes hp]
      exact (il.mono (s1.trans s2)).append (IsL.one iy)
  | false =>
    show Pv G W0 F σ j B p f Dl (n + 1) H1
    refine ⟨W1, acc, s.trans s1, dF, ?_, ?_⟩
    · have c5 := c2.drop j
      rw [set_none_back hj] at c5
      rw [hno hp]
      obtain ⟨ms, c5⟩ := c5
      refine ⟨ms, ⟨fun k φ e => ?_, c5.dm, c5.dF, c5.dW, c5.dFW, c5.sW, c5.sF, c5.sm, c5.tab, c5.nt, by have := c5.len; simpa using this⟩⟩
      have nk : k ≠ j := fun z => by rw [z, hj] at e; cases e
      obtain ⟨v', h1, h2⟩ := c5.at_ k φ e
      rw [List.getElem?_set_ne (Ne.symm nk)] at h1
      exact ⟨v', h1, h2⟩
    · rw [got_no hp]
      exact il.mono s1
theorem pv_start {W F H : Hp} {σ : St} {B : Nat → Es} {p : Nat → Bool} {f : Nat → D} {Dl : Addr} (c : Cfg G W F H σ (B 0)) (hj : (B 0)[j]? = some none) (hD : H Dl = none) : Pv G W F σ j B p f Dl 0 (upd H Dl (.lst [])) := by
  obtain ⟨c1, d1⟩ := c.allocF (o := .lst []) hD
  exact ⟨W, [], Same.refl _, d1, c1.wipe hj, IsL.nil⟩
/-- over a list of data -/
theorem eo_lcL {tl : TE} (B : Nat → Es) (p : Nat → Bool) (f : Nat → D) (hl : EF G tl es (.lst xs) (B 0)) (hz : xs.length ≤ 100000) (hj : (B 0)[j]? = some none) (h : ∀ i x, xs[i]? = some x → Turn G tt te j B p f i x) :
    EO G (tLc (iList G.K tl) (gName j) tt te [j]) es (lst G (got p f xs.length)) (B xs.length) := fun W F H σ Q c k => hl W F H σ _ c fun v W1 H1 s1 c1 i1 => by
  rw [is_lst] at i1
  obtain ⟨a, vs, rfl, h1, h2⟩ := i1
  refine ⟨a, rfl, ⟨vs, SqL.of (c1.sW _ _ h1)⟩, fun Dl hD => ?_⟩
  refine lc_list (xs := vs) (Pv G W1 F σ j B p f Dl) (pv_start c1 hj hD) (fun i H' _ q => ?_) (fun i v H' hv q => ?_) fun H' q => ?_
  · obtain ⟨W2, acc, s2, _, c2, _⟩ := q
    exact SqL.of (c2.sW _ _ (s2 _ _ h1))
  · obtain ⟨x, hx, ix⟩ := h2.getV hv
    exact pv_turn (fun W s => ix.mono s) (by have := (List.getElem?_eq_some_iff.mp hx).1; omega) (h i x hx) q
  · obtain ⟨W2, acc, s2, d2, c2, i2⟩ := q
    rw [← h2.len] at c2 i2
    exact k _ _ W2 H' (s1.trans s2) d2 (hold_lst i2) c2.unwipe
theorem eo_lcT {tl : TE} (B : Nat → Es) (p : Nat → Bool) (f : Nat → D) (hl : EF G tl es (.tup xs) (B 0)) (hz : xs.length ≤ 100000) (hj : (B 0)[j]? = some none) (h : ∀ i x, xs[i]? = some x → Turn G tt te j B p f i x) :
    EO G (tLc (iTup G.K tl) (gName j) tt te [j]) es (lst G (got p f xs.length)) (B xs.length) := fun W F H σ Q c k => hl W F H σ _ c fun v W1 H1 s1 c1 i1 => by
  rw [is_tup] at i1
  obtain ⟨a, vs, rfl, h1, h2⟩ := i1
  refine ⟨a, rfl, ⟨vs, c1.sW.sqt h1⟩, fun Dl hD => ?_⟩
  refine lc_tup (xs := vs) (Pv G W1 F σ j B p f Dl) (pv_start c1 hj hD) (fun i H' _ q => ?_) (fun i v H' hv q => ?_) fun H' q => ?_
  · obtain ⟨W2, acc, s2, _, c2, _⟩ := q
    exact (s2.trans c2.sW).sqt h1
  · obtain ⟨x, hx, ix⟩ := h2.getV hv
    exact pv_turn (fun W s => ix.mono s) (by have := (List.getElem?_eq_some_iff.mp hx).1; omega) (h i x hx) q
  · obtain ⟨W2, acc, s2, d2, c2, i2⟩ := q
    rw [← h2.len] at c2 i2
    exact k _ _ W2 H' (s1.trans s2) d2 (hold_lst i2) c2.unwipe
/-- over range(n) -/
theorem eo_lcR {n : Int} (B : Nat → Es) (p : Nat → Bool) (f : Nat → D) (hl : EA G tas es [.int n] (B 0)) (hz : n ≤ 100000) (h0 : 0 ≤ n) (hj : (B 0)[j]? = some none) (h : ∀ i : Nat, (i : Int) < n → Turn G tt te j B p f i (.int (i : Int))) :
    EO G (tLc (iRng1 tas) (gName j) tt te [j]) es (lst G (got p f n.toNat)) (B n.toNat) := fun W F H σ Q c k => hl W F H σ _ c fun vs W1 H1 s1 c1 i1 => by
  obtain ⟨v, rfl, hv⟩ := isL1 i1
  rw [is_int] at hv
  subst hv
  refine ⟨n, rfl, by omega, by omega, fun Dl hD => ?_⟩
  refine lc_range (lo := 0) (n := n.toNat) (Pv G W1 F σ j B p f Dl) (pv_start c1 hj hD) (fun i H' hi q => ?_) fun H' q => ?_
  · exact pv_turn (x := .int (i : Int)) (fun W s => is_int.mpr (by rw [Int.zero_add])) (by omega) (h i (by omega)) q
  · obtain ⟨W2, acc, s2, d2, c2, i2⟩ := q
    exact k _ _ W2 H' (s1.trans s2) d2 (hold_lst i2) c2.unwipe
/-- the common forms: the state stays -/
theorem got_map (f : Nat → D) (n : Nat) : got (fun _ => true) f n = (List.range n).map f := by
  unfold got
  rw [List.filter_eq_self.mpr (fun _ _ => rfl)]
theorem et_yes : ET G tYes es true es := fun W F H σ Q c k => k W H (Same.refl _) c
end
end DL

namespace DL
open PySem L2
variable {G : Ct}
section
variable {Ex : XK} {te ta tb tc : TE} {tt tu : TT} {tas : TA} {t u w : TS} {es es' es1 es2 es3 : Es} {d x y z : D} {ds xs ys : List D} {b b' : Bool} {i j : Nat} {φ ψ : Ent} {P : Po} {C : Addr} {ns : List Str}

/-! ### targets, loops -/
def AG (G : Ct) (g : TG) (d : D) (es es' : Es) : Prop := ∀ W F H σ v (Q : St → Hp → Prop), Cfg G W F H σ es → Is G W d v → (∀ W' H' σ', Same W W' → Cfg G W' F H' σ' es' → Q σ' H') → g v σ H Q
theorem ag_name : AG G (gName j) d es (es.set j (some (fr G d))) := fun W F H σ v Q c h k => k W H _ (Same.refl _) (c.store h)
theorem ag_tup2 {g1 g2 : TG} (h1 : AG G g1 x es es1) (h2 : AG G g2 y es1 es2) : AG G (gTup G.K 2 (gCons g1 (gCons g2 gNil))) (.tup [x, y]) es es2 := fun W F H σ v Q c h k => by
  rw [is_tup] at h
  obtain ⟨a, vs, rfl, e1, e2⟩ := h
  obtain ⟨v1, v2, rfl, i1, i2⟩ := isL2 e2
  refine ⟨a, _, rfl, c.sW.sqt e1, rfl, v1, [v2], rfl, h1 W F H σ v1 _ c i1 fun W1 H1 σ1 s1 c1 => ⟨v2, [], rfl, h2 W1 F H1 σ1 v2 _ c1 (i2.mono s1) fun W2 H2 σ2 s2 c2 => ⟨rfl, k W2 H2 σ2 (s1.trans s2) c2⟩⟩⟩
/-- the loop's body, between two turns I -/
abbrev Po.turn (P : Po) (N I : Es → Prop) : Po := { P with nx := I, ct := I, bk := N }
theorem post_turn {W F : Hp} {D : Ends} {N I : Es → Prop} (p : Post G Ex { P with nx := N } W F D) {Pn : St → Hp → Prop} (h : ∀ e W' H' σ, I e → Same W W' → Cfg G W' F H' σ e → Pn σ H') : Post G Ex (P.turn N I) W F { D with nx := Pn, ct := Pn, bk := D.nx } :=
  ⟨fun e W' H' σ q s c => h e W' H' σ q s c, p.rt, fun e W' H' σ q s c => p.nx e W' H' σ q s c, fun e W' H' σ q s c => h e W' H' σ q s c, p.ex⟩
theorem s_forL {tl : TE} {g : TG} (hl : EF G tl es (.lst xs) es1) (I : Nat → Es → Prop) (h0 : I 0 es1) (hs : ∀ i x e, xs[i]? = some x → I i e → ∃ e', AG G g x e e' ∧ S G Ex t e' (P.turn P.nx (I (i + 1)))) (hd : ∀ e, I xs.length e → P.nx e) :
    S G Ex (tFor (iList G.K tl) g t) es P := fun W F H σ D c p => hl W F H σ _ c fun v W1 H1 s1 c1 i1 => by
  rw [is_lst] at i1
  obtain ⟨a, vs, rfl, h1, h2⟩ := i1
  refine ⟨a, rfl, ⟨vs, SqL.of (c1.sW _ _ h1)⟩, ?_⟩
  refine for_list (xs := vs) (fun i σ' H' => ∃ e W', I i e ∧ Same W1 W' ∧ Cfg G W' F H' σ' e) ⟨es1, W1, h0, Same.refl _, c1⟩ (fun i σ' H' _ q => ?_) (fun i v σ' H' hv q => ?_) fun σ' H' q => ?_
  · obtain ⟨e, W', _, s2, c2⟩ := q
    exact SqL.of (c2.sW _ _ (s2 _ _ h1))
  · obtain ⟨e, W', hi, s2, c2⟩ := q
    obtain ⟨x, hx, ix⟩ := h2.getV hv
    obtain ⟨e', hg, hb⟩ := hs i x e hx hi
    refine hg W' F H' σ' v _ c2 (ix.mono s2) fun W2 H2 σ2 s3 c3 => hb W2 F H2 σ2 _ c3 (post_turn (p.mono ((s1.trans s2).trans s3)) fun e W' H' σ q s c => ⟨e, W', q, (s2.trans s3).trans s, c⟩)
  · obtain ⟨e, W', hi, s2, c2⟩ := q
    rw [← h2.len] at hi
    exact p.nx e W' H' σ' (hd e hi) (s1.trans s2) c2
theorem s_forT {tl : TE} {g : TG} (hl : EF G tl es (.tup xs) es1) (I : Nat → Es → Prop) (h0 : I 0 es1) (hs : ∀ i x e, xs[i]? = some x → I i e → ∃ e', AG G g x e e' ∧ S G Ex t e' (P.turn P.nx (I (i + 1)))) (hd : ∀ e, I xs.length e → P.nx e) :
    S G Ex (tFor (iTup G.K tl) g t) es P := fun W F H σ D c p => hl W F H σ _ c fun v W1 H1 s1 c1 i1 => by
  rw [is_tup] at i1
  obtain ⟨a, vs, rfl, h1, h2⟩ := i1
  refine ⟨a, rfl, ⟨vs, c1.sW.sqt h1⟩, ?_⟩
  refine for_tup (xs := vs) (fun i σ' H' => ∃ e W', I i e ∧ Same W1 W' ∧ Cfg G W' F H' σ' e) ⟨es1, W1, h0, Same.refl _, c1⟩ (fun i σ' H' _ q => ?_) (fun i v σ' H' hv q => ?_) fun σ' H' q => ?_
  · obtain ⟨e, W', _, s2, c2⟩ := q
    exact (s2.trans c2.sW).sqt h1
  · obtain ⟨e, W', hi, s2, c2⟩ := q
    obtain ⟨x, hx, ix⟩ := h2.getV hv
    obtain ⟨e', hg, hb⟩ := hs i x e hx hi
    refine hg W' F H' σ' v _ c2 (ix.mono s2) fun W2 H2 σ2 s3 c3 => hb W2 F H2 σ2 _ c3 (post_turn (p.mono ((s1.trans s2).trans s3)) fun e W' H' σ q s c => ⟨e, W', q, (s2.trans s3).trans s, c⟩)
  · obtain ⟨e, W', hi, s2, c2⟩ := q
    rw [← h2.len] at hi
    exact p.nx e W' H' σ' (hd e hi) (s1.trans s2) c2
theorem s_forR {n : Int} {g : TG} (hl : EA G tas es [.int n] es1) (hz : n ≤ 100000) (h00 : -100000 ≤ n) (I : Nat → Es → Prop) (h0 : I 0 es1) (hs : ∀ (i : Nat) e, (i : Int) < n → I i e → ∃ e', AG G g (.int (i : Int)) e e' ∧ S G Ex t e' (P.turn P.nx (I (i + 1)))) (hd : ∀ e, I n.toNat e → P.nx e) :
    S G Ex (tFor (iRng1 tas) g t) es P := fun W F H σ D c p => hl W F H σ _ c fun vs W1 H1 s1 c1 i1 => by
  obtain ⟨v, rfl, hv⟩ := isL1 i1
  rw [is_int] at hv
  subst hv
  refine ⟨n, rfl, by omega, by omega, ?_⟩
  refine for_range (lo := 0) (n := n.toNat) (fun i σ' H' => ∃ e W', I i e ∧ Same W1 W' ∧ Cfg G W' F H' σ' e) ⟨es1, W1, h0, Same.refl _, c1⟩ (fun i σ' H' hlt q => ?_) fun σ' H' q => ?_
  · obtain ⟨e, W', hi, s2, c2⟩ := q
    obtain ⟨e', hg, hb⟩ := hs i e (by omega) hi
    refine hg W' F H' σ' _ _ c2 (is_int.mpr (by rw [Int.zero_add])) fun W2 H2 σ2 s3 c3 => hb W2 F H2 σ2 _ c3 (post_turn (p.mono ((s1.trans s2).trans s3)) fun e W' H' σ q s c => ⟨e, W', q, (s2.trans s3).trans s, c⟩)
  · obtain ⟨e, W', hi, s2, c2⟩ := q
    exact p.nx e W' H' σ' (hd e hi) (s1.trans s2) c2
/-- for a, b in enumerate(xs) -/
theorem s_forE {g : TG} (hl : EA G tas es [.lst xs] es1) (I : Nat → Es → Prop) (h0 : I 0 es1) (hs : ∀ (i : Nat) x e, xs[i]? = some x → I i e → ∃ e', AG G g (.tup [.int (i : Int), x]) e e' ∧ S G Ex t e' (P.turn P.nx (I (i + 1)))) (hd : ∀ e, I xs.length e → P.nx e) :
    S G Ex (tFor (iEnum G.K tas) g t) es P := fun W F H σ D c p => hl W F H σ _ c fun vs0 W1 H1 s1 c1 i1 => by
  obtain ⟨v0, rfl, hv⟩ := isL1 i1
  rw [is_lst] at hv
  obtain ⟨a, vs, rfl, h1, h2⟩ := hv
  refine ⟨a, vs, rfl, SqL.of (c1.sW _ _ h1), fun i m σ' H' => m = vs.length - i ∧ i ≤ vs.length ∧ ∃ e W', I i e ∧ Same W1 W' ∧ Cfg G W' F H' σ' e, ⟨vs.length, by simp, Nat.zero_le _, es1, W1, h0, Same.refl _, c1⟩, ?_⟩
  rintro i m σ' H' ⟨rfl, hi, e, W', hI, s2, c2⟩
  have hq : SqL G.K H' a vs := SqL.of (c2.sW _ _ (s2 _ _ h1))
  by_cases hlt : i < vs.length
  · refine .inr ⟨⟨vs, vs[i], hq, by simp [hlt]⟩, fun σ' H' => ∃ e W', I (i + 1) e ∧ Same W1 W' ∧ Cfg G W' F H' σ' e, fun σ' H' p' => ⟨vs.length - (i + 1), by omega, rfl, hlt, p'⟩, fun v2 H2 y => ?_⟩
    obtain ⟨T, x, ev, hT, eH, hx⟩ := y
    subst ev eH
    have hx := hx vs hq
    obtain ⟨xd, hxd, ix⟩ := h2.getV hx
    obtain ⟨e', hg, hb⟩ := hs i xd e hxd hI
    obtain ⟨c3, s3⟩ := c2.allocW (o := .tup [.int (i : Nat), x]) hT
    refine hg _ F _ σ' _ _ c3 (is_tup.mpr ⟨T, _, rfl, SqT.of upd_same, IsL.cons (is_int.mpr rfl) (IsL.one (ix.mono (s2.trans s3)))⟩) fun W4 H4 σ4 s4 c4 => hb W4 F H4 σ4 _ c4 (post_turn (p.mono (((s1.trans s2).trans s3).trans s4)) fun e W' H' σ q s c => ⟨e, W', q, ((s2.trans s3).trans s4).trans s, c⟩)
  · have e2 : i = vs.length := by omega
    subst e2
    rw [← h2.len] at hI
    exact .inl ⟨⟨vs, hq, Nat.le_refl _⟩, p.nx e W' H' σ' (hd e hI) (s1.trans s2) c2⟩

/-! ### defs -/
inductive Out where
  | ret (r : Ent) (es : Es)
  | exc (C : Addr) (ns : List Str) (ds : List D) (es : Es)
def OutOk (G : Ct) (W F : Hp) (vs : List V) (Q : VK) (E : XK) : Out → Prop
  | .ret r es' => ∀ v m W' H', Same W W' → Dis m F → Hold r W' v m → Cfg G W' (un m F) H' (vs.map some) es' → Q v H'
  | .exc C ns ds es' => ∀ d ws W' H', Same W W' → Cfg G W' F H' (vs.map some) es' → IsL G W' ds ws → W' d = some (.xd (ns.zip ws)) → E (.ref C) (some d) H'
/-- what a def promises: from its parameters Fn gives the outcome -/
def spOf (G : Ct) (Fn : Es → Out → Prop) (n : Nat) : Sp := fun vs H Q E => ∃ W F es o, vs.length = n ∧ Cfg G W F H (vs.map some) es ∧ Fn es o ∧ OutOk G W F vs Q E o
/-- parameters that no one changes -/
def frs (G : Ct) (ds : List D) : Es := ds.map fun d => some (fr G d)
theorem call_in {W F H : Hp} {σ : St} {vs : List V} {Fn : Es → Out → Prop} {n : Nat} {Q : VK} {E : XK} {r : Ent} {eo : Es} (c : Cfg G W F H σ es) (h : IsL G W ds vs) (hn : ds.length = n) (hf : Fn (frs G ds) (.ret r eo))
    (k : ∀ v m W' H', Same W W' → Dis m F → Hold r W' v m → Cfg G W' (un m F) H' σ es → Q v H') : spOf G Fn n vs H Q E := by
  obtain ⟨F1, b1, back⟩ := c.enter
  refine ⟨W, F1, frs G ds, _, by rw [← h.len]; exact hn, b1.params h, hf, fun v m W' H' s dm hm c' => ?_⟩
  obtain ⟨d2, c2⟩ := back m W' H' s dm c'.bare
  exact k v m W' H' s d2 hm c2
theorem call_inX {W F H : Hp} {σ : St} {vs : List V} {Fn : Es → Out → Prop} {n : Nat} {Q : VK} {E : XK} {eo : Es} {xs : List D} (c : Cfg G W F H σ es) (h : IsL G W ds vs) (hn : ds.length = n) (hf : Fn (frs G ds) (.exc C ns xs eo))
    (k : ∀ d ws W' H', Same W W' → Cfg G W' F H' σ es → IsL G W' xs ws → W' d = some (.xd (ns.zip ws)) → E (.ref C) (some d) H') : spOf G Fn n vs H Q E := by
  obtain ⟨F1, b1, back⟩ := c.enter
  refine ⟨W, F1, frs G ds, _, by rw [← h.len]; exact hn, b1.params h, hf, fun d ws W' H' s c' i hd => ?_⟩
  obtain ⟨d2, c2⟩ := back emp W' H' s dis_emp (by rw [un_emp]; exact c'.bare)
  rw [un_emp] at c2
  exact k d ws W' H' s c2 i hd
variable {Fn : Es → Out → Prop} {n : Nat} {eo : Es} {E : XK} {m : Str}
theorem ef_call (h : EA G tas es ds es1) (hf : Fn (frs G ds) (.ret (fr G z) eo)) (hn : ds.length = n := by rfl) : EF G (tCall (spOf G Fn n) [] E tas) es z es1 := fun W F H σ Q c k => h W F H σ _ c fun vs W1 H1 s1 c1 i1 => by
  show spOf G Fn n (vs ++ []) H1 Q E
  rw [List.append_nil]
  exact call_in c1 i1 hn hf fun v m W' H' s dm hm c' => k v W' H' (s1.trans s) (c'.lose dm) hm.fr
theorem eo_call {r : Ent} (h : EA G tas es ds es1) (hf : Fn (frs G ds) (.ret r eo)) (hn : ds.length = n := by rfl) : EO G (tCall (spOf G Fn n) [] E tas) es r es1 := fun W F H σ Q c k => h W F H σ _ c fun vs W1 H1 s1 c1 i1 => by
  show spOf G Fn n (vs ++ []) H1 Q E
  rw [List.append_nil]
  exact call_in c1 i1 hn hf fun v m W' H' s dm hm c' => k v m W' H' (s1.trans s) dm hm c'
theorem ex_call {xs : List D} (h : EA G tas es ds es1) (hf : Fn (frs G ds) (.exc C ns xs eo)) (hn : ds.length = n := by rfl) : EX G E (tCall (spOf G Fn n) [] E tas) es C ns xs es1 := fun W F H σ Q c k => h W F H σ _ c fun vs W1 H1 s1 c1 i1 => by
  show spOf G Fn n (vs ++ []) H1 Q E
  rw [List.append_nil]
  exact call_inX c1 i1 hn hf fun d ws W' H' s c' i hd => k d ws W' H' (s1.trans s) c' i hd
theorem zip_noattr : ∀ {ns : List Str} {vs : List V} {m : Str}, m ∉ ns → (ns.zip vs).lookup m = none
  | [], _, _, _ => rfl
  | _ :: _, [], _, _ => rfl
  | n :: ns, v :: vs, m, h => by
    rw [List.zip_cons_cons, List.lookup_cons]
    have h1 : (m == n) = false := by simpa using fun e => h (by rw [e]; exact List.mem_cons_self)
    rw [h1]
    exact zip_noattr (fun e => h (List.mem_cons_of_mem _ e))
/-- o.m(..), o an instance that no one changes -/
theorem meth_in {C0 : Addr} {ns0 : List Str} {ds0 : List D} {Qf : V → List V → Hp → Prop} (ho : EF G te es (.ins C0 ns0 ds0) es1) (hm : m ∉ ns0) (h : EA G tas es1 ds es2) {W F H : Hp} {σ : St} (c : Cfg G W F H σ es)
    (k : ∀ v vs W2 H2, Same W W2 → Cfg G W2 F H2 σ es2 → IsL G W2 (.ins C0 ns0 ds0 :: ds) (v :: vs) → Qf v vs H2) :
    te σ H fun x H1 => ∃ a dx fs, x = .ref a ∧ H1 a = some (.ins C0 dx fs) ∧ fs.lookup m = none ∧ tas σ H1 fun vs H2 => Qf x vs H2 := ho W F H σ _ c fun v W1 H1 s1 c1 i1 => by
  have i1' := i1
  rw [is_ins] at i1'
  obtain ⟨a, dx, ws, rfl, h1, h2, h3⟩ := i1'
  exact ⟨a, dx, _, rfl, c1.sW _ _ h1, zip_noattr hm, h W1 F H1 σ _ c1 fun vs W2 H2 s2 c2 i2 => k _ vs W2 H2 (s1.trans s2) c2 (IsL.cons (i1.mono s2) i2)⟩
theorem ef_meth {C0 : Addr} {ns0 : List Str} {ds0 : List D} (ho : EF G te es (.ins C0 ns0 ds0) es1) (hm : m ∉ ns0) (h : EA G tas es1 ds es2) (hf : Fn (frs G (.ins C0 ns0 ds0 :: ds)) (.ret (fr G z) eo)) (hn : ds.length + 1 = n := by rfl) :
    EF G (tMeth C0 m (spOf G Fn n) [] E te tas) es z es2 := fun W F H σ Q c k => meth_in (Qf := fun x vs H2 => spOf G Fn n (x :: (vs ++ [])) H2 Q E) ho hm h c fun v vs W2 H2 s2 c2 i2 => by
  rw [List.append_nil]
  exact call_in c2 i2 (by simpa using hn) hf fun v m W' H' s dm hm c' => k v W' H' (s2.trans s) (c'.lose dm) hm.fr
theorem eo_meth {r : Ent} {C0 : Addr} {ns0 : List Str} {ds0 : List D} (ho : EF G te es (.ins C0 ns0 ds0) es1) (hm : m ∉ ns0) (h : EA G tas es1 ds es2) (hf : Fn (frs G (.ins C0 ns0 ds0 :: ds)) (.ret r eo)) (hn : ds.length + 1 = n := by rfl) :
    EO G (tMeth C0 m (spOf G Fn n) [] E te tas) es r es2 := fun W F H σ Q c k => meth_in (Qf := fun x vs H2 => spOf G Fn n (x :: (vs ++ [])) H2 Q E) ho hm h c fun v vs W2 H2 s2 c2 i2 => by
  rw [List.append_nil]
  exact call_in c2 i2 (by simpa using hn) hf fun v m W' H' s dm hm c' => k v m W' H' (s2.trans s) dm hm c'
theorem ex_meth {xs : List D} {C0 : Addr} {ns0 : List Str} {ds0 : List D} (ho : EF G te es (.ins C0 ns0 ds0) es1) (hm : m ∉ ns0) (h : EA G tas es1 ds es2) (hf : Fn (frs G (.ins C0 ns0 ds0 :: ds)) (.exc C ns xs eo)) (hn : ds.length + 1 = n := by rfl) :
    EX G E (tMeth C0 m (spOf G Fn n) [] E te tas) es C ns xs es2 := fun W F H σ Q c k => meth_in (Qf := fun x vs H2 => spOf G Fn n (x :: (vs ++ [])) H2 Q E) ho hm h c fun v vs W2 H2 s2 c2 i2 => by
  rw [List.append_nil]
  exact call_inX c2 i2 (by simpa using hn) hf fun d ws W' H' s c' i hd => k d ws W' H' (s2.trans s) c' i hd

/-! ### a new instance -/
/-- an instance of our own at a -/
def insO (G : Ct) (C a : Addr) (ns : List Str) (ds : List D) : Ent := fun W v m => ∃ dx vs, v = .ref a ∧ m = one a (.ins C dx (ns.zip vs)) ∧ ns.length = vs.length ∧ IsL G W ds vs
theorem Hold.insO {W : Hp} {v : V} {m : Hp} {a : Addr} (h : Hold (insO G C a ns ds) W v m) : ∃ dx vs, v = .ref a ∧ m = one a (.ins C dx (ns.zip vs)) ∧ ns.length = vs.length ∧ IsL G W ds vs :=
  let ⟨_, e, dx, vs, h1, h2, h3, h4⟩ := h
  ⟨dx, vs, h1, h2, h3, h4.mono e⟩
/-- the first parameter our own, the rest not -/
theorem params1 {W F H mo : Hp} {vs : List V} {v : V} (c : Cfg G W (un mo F) H [] []) (hd : Dis mo F) (h : IsL G W ds vs) (h0 : Hold φ W v mo) : Cfg G W F H (some v :: vs.map some) (some φ :: frs G ds) := by
  have c1 := c.params h
  obtain ⟨ms, c1⟩ := c1
  refine ⟨fun j => if j = 0 then mo else emp, ⟨fun j ψ e => ?_, fun j k n => ?_, fun j => ?_, fun j => ?_, c1.dFW.of_un_r, c1.sW, c1.sF.of_un_r hd, fun j => ?_, c1.tab, ⟨c1.nt.1, c1.nt.2.1.of_r hd, fun j => (by by_cases e1 : j = 0; (· simp only [e1, if_true]; exact c1.nt.2.1.of_l); (· simp only [e1, if_false]; exact nt_emp))⟩, by simpa [frs] using c1.len⟩⟩
  · cases j with
    | zero =>
      simp at e
      subst e
      exact ⟨v, rfl, by simpa using h0⟩
    | succ j =>
      have e' : (frs G ds)[j]? = some (some ψ) := by simpa using e
      unfold frs at e'
      rw [List.getElem?_map] at e'
      cases q : ds[j]? with
      | none => rw [q] at e'; cases e'
      | some d =>
        rw [q] at e'
        cases e'
        obtain ⟨v', h1, h2⟩ := h.get q
        exact ⟨v', by simp [h1], Hold.of h2⟩
  · by_cases e1 : j = 0
    · have e2 : k ≠ 0 := fun e => n (e1.trans e.symm)
      simp only [e2, if_false]; exact dis_emp.symm
    · simp only [e1, if_false]; exact dis_emp
  · by_cases e1 : j = 0
    · simp only [e1, if_true]; exact hd
    · simp only [e1, if_false]; exact dis_emp
  · by_cases e1 : j = 0
    · simp only [e1, if_true]; exact c1.dFW.of_un_l
    · simp only [e1, if_false]; exact dis_emp
  · by_cases e1 : j = 0
    · simp only [e1, if_true]; exact c1.sF.of_un_l
    · simp only [e1, if_false]; exact same_emp
/-- what a slot owns, given to the frame; the rest bare -/
theorem Cfg.take0 {W F H : Hp} {σ : St} {es : Es} (c : Cfg G W F H σ es) (h : es[i]? = some (some φ)) : ∃ v mo, σ[i]? = some (some v) ∧ Hold φ W v mo ∧ Dis mo F ∧ Cfg G W (un mo F) H [] [] := by
  obtain ⟨v, mo, h1, h2, h3, _, h4⟩ := c.take h
  exact ⟨v, mo, h1, h2, h3, h4.bare⟩
/-- C(..): __init__ makes the fields ns of the values xs -/
theorem ef_make {Ci : Addr} {nsi : List Str} {xs : List D} (h : EA G tas es ds es1) (hf : ∀ a, Fn (some (insO G Ci a [] []) :: frs G ds) (.ret (fr G .non) (some (insO G Ci a nsi xs) :: eo))) (hn : ds.length + 1 = n := by rfl) :
    EF G (tMake Ci (spOf G Fn n) [] E tas) es (.ins Ci nsi xs) es1 := fun W F H σ Q c k => h W F H σ _ c fun vs W1 H1 s1 c1 i1 => by
  intro a dx ha hdx hne
  show spOf G Fn n (.ref a :: (vs ++ [])) _ _ E
  rw [List.append_nil]
  obtain ⟨c2, s2⟩ := c1.allocW (o := .own a) hdx
  have ha2 : upd H1 dx (.own a) a = none := by rw [upd_ne (Ne.symm hne)]; exact ha
  obtain ⟨F1, b1, back⟩ := c2.enter
  obtain ⟨b2, d2⟩ := b1.allocF (o := .ins Ci dx []) ha2
  have h0 : Hold (insO G Ci a [] []) (upd W1 dx (.own a)) (.ref a) (one a (.ins Ci dx [])) := Hold.of ⟨dx, [], rfl, rfl, rfl, IsL.nil⟩
  refine ⟨_, F1, _, _, by simp [← i1.len, hn], params1 b2 d2 (i1.mono s2) h0, hf a, fun v m W' H' s dm hm c' => ?_⟩
  have hv := hm.fr
  rw [is_non] at hv
  refine ⟨hv, ?_⟩
  have c3 := c'.lose dm
  obtain ⟨v3, m3, e3, h3, d3, c4⟩ := c3.take0 (i := 0) (φ := insO G Ci a nsi xs) rfl
  obtain ⟨dx', vs', rfl, rfl, hl, il⟩ := h3.insO
  obtain ⟨c5, s5⟩ := c4.freeze d3
  obtain ⟨d6, c6⟩ := back emp _ H' (s.trans s5) dis_emp (by rw [un_emp]; exact c5)
  rw [un_emp] at c6
  exact k (.ref a) _ H' ((s1.trans s2).trans (s.trans s5)) c6 (is_ins.mpr ⟨a, dx', vs', rfl, upd_same, hl, il.mono s5⟩)
theorem ex_make {Ci : Addr} {xs : List D} (h : EA G tas es ds es1) (hf : ∀ a, Fn (some (insO G Ci a [] []) :: frs G ds) (.exc C ns xs eo)) (hn : ds.length + 1 = n := by rfl) :
    EX G E (tMake Ci (spOf G Fn n) [] E tas) es C ns xs es1 := fun W F H σ Q c k => h W F H σ _ c fun vs W1 H1 s1 c1 i1 => by
  intro a dx ha hdx hne
  show spOf G Fn n (.ref a :: (vs ++ [])) _ _ E
  rw [List.append_nil]
  obtain ⟨c2, s2⟩ := c1.allocW (o := .own a) hdx
  have ha2 : upd H1 dx (.own a) a = none := by rw [upd_ne (Ne.symm hne)]; exact ha
  obtain ⟨F1, b1, back⟩ := c2.enter
  obtain ⟨b2, d2⟩ := b1.allocF (o := .ins Ci dx []) ha2
  have h0 : Hold (insO G Ci a [] []) (upd W1 dx (.own a)) (.ref a) (one a (.ins Ci dx [])) := Hold.of ⟨dx, [], rfl, rfl, rfl, IsL.nil⟩
  refine ⟨_, F1, _, _, by simp [← i1.len, hn], params1 b2 d2 (i1.mono s2) h0, hf a, fun d ws W' H' s c' il hd => ?_⟩
  obtain ⟨d6, c6⟩ := back emp _ H' s dis_emp (by rw [un_emp]; exact c'.bare)
  rw [un_emp] at c6
  exact k d ws _ H' ((s1.trans s2).trans s) c6 il hd
theorem ins_wr {W F H : Hp} {σ : St} {es : Es} {a dx : Addr} {fs gs : List (Str × V)} (c : Cfg G W (un (one a (.ins C dx fs)) F) H σ es) (hd : Dis (one a (.ins C dx fs)) F) : Cfg G W (un (one a (.ins C dx gs)) F) (upd H a (.ins C dx gs)) σ es ∧ Dis (one a (.ins C dx gs)) F := c.write hd (fun ps z => by cases z) (fun c0 q z => by unfold LamX.CodeO at z; cases z)
theorem putF_zip : ∀ {ns : List Str} {vs : List V} {f : Str} {v : V}, f ∉ ns → ns.length = vs.length → putF f v (ns.zip vs) = (ns ++ [f]).zip (vs ++ [v])
  | [], [], f, v, _, _ => rfl
  | [], _ :: _, _, _, _, h => by simp at h
  | _ :: _, [], _, _, _, h => by simp at h
  | n :: ns, u :: vs, f, v, hf, h => by
    have h1 : ¬ n = f := fun e => hf (by rw [e]; exact List.mem_cons_self)
    have e := putF_zip (v := v) (f := f) (ns := ns) (vs := vs) (fun e => hf (List.mem_cons_of_mem _ e)) (by simpa using h)
    show (if n = f then _ else (n, u) :: putF f v (ns.zip vs)) = _
    rw [if_neg h1, e]
    rfl
/-- self.f = e, a new field -/
theorem s_newfld {a : Addr} {f : Str} (h : EF G te es d es1) (ho : es1[i]? = some (some (insO G C a ns ds))) (hf : f ∉ ns) (hz : ns.length < 900) (cl : Cls G.K C) (na : NoAttr G.K C f) (k : P.nx (es1.set i (some (insO G C a (ns ++ [f]) (ds ++ [d]))))) :
    S G Ex (sFld G.K (tVar i) te f) es P := fun W F H σ D c p => h W F H σ _ c fun v W1 H1 s1 c1 i1 => by
  obtain ⟨v0, m, e1, hm, dm, sm, ct⟩ := c1.take ho
  obtain ⟨dx, vs, rfl, rfl, hl, il⟩ := hm.insO
  refine ⟨.ref a, e1, a, C, dx, _, rfl, sm _ _ one_same, cl, na, by rw [List.length_zip]; omega, ?_⟩
  rw [putF_zip hf hl]
  obtain ⟨c3, d3⟩ := ins_wr (gs := (ns ++ [f]).zip (vs ++ [v])) ct dm
  have c4 := c3.give (i := i) (φ := insO G C a (ns ++ [f]) (ds ++ [d])) d3 e1 (Hold.of ⟨dx, _, rfl, rfl, by simp [hl], il.append (IsL.one i1)⟩)
  rw [List.set_set] at c4
  exact p.nx _ W1 _ σ k s1 c4
end
end DL

namespace DL
open PySem L2 PySem.Spec PyProof.Rows
variable {G : Ct}

/-! ### a def by its body -/
def Fixed (φ : Ent) (a : Addr) : Prop := ∀ W v m, φ W v m → v = .ref a
theorem Fixed.hold {φ : Ent} {a : Addr} (f : Fixed φ a) {W : Hp} {v : V} {m : Hp} (h : Hold φ W v m) : v = .ref a := let ⟨W0, _, h0⟩ := h; f W0 v m h0
/-- the parameters as they are at the end -/
def Back (G : Ct) (es e es' : Es) : Prop := es'.length = es.length ∧ ∀ (i : Nat) (φ : Ent), es'[i]? = some (some φ) → (∃ d, φ = fr G d ∧ es[i]? = some (some (fr G d))) ∨ ∃ a φ0, es[i]? = some (some φ0) ∧ Fixed φ0 a ∧ Fixed φ a ∧ e[i]? = some (some φ)
theorem back_cfg {W W' F F' H H' : Hp} {vs : List V} {σ : L2.St} {es e es' : Es} (c : Cfg G W F H (vs.map some) es) (s : Same W W') (c' : Cfg G W' F' H' σ e) (b : Back G es e es') : Cfg G W' F' H' (vs.map some) es' := by
  obtain ⟨ms, c⟩ := c
  obtain ⟨ms', c'⟩ := c'
  refine ⟨ms', ⟨fun i φ h => ?_, c'.dm, c'.dF, c'.dW, c'.dFW, c'.sW, c'.sF, c'.sm, c'.tab, c'.nt, b.1.trans c.len⟩⟩
  rcases b.2 i φ h with ⟨d, rfl, h0⟩ | ⟨a, φ0, h0, f0, f1, h1⟩
  · obtain ⟨v, e1, e2⟩ := c.at_ i _ h0
    exact ⟨v, e1, Hold.of (e2.fr.mono s)⟩
  · obtain ⟨v, e1, e2⟩ := c.at_ i _ h0
    obtain ⟨v', e1', e2'⟩ := c'.at_ i _ h1
    have ev := f0.hold e2
    subst ev
    have ev' := f1.hold e2'
    subst ev'
    exact ⟨.ref a, e1, e2'⟩
theorem back_frs {ds : List D} {e : Es} : Back G (frs G ds) e (frs G ds) := ⟨rfl, fun i φ h => by
  refine .inl ?_
  have h0 := h
  unfold frs at h
  rw [List.getElem?_map] at h
  cases q : ds[i]? with
  | none => rw [q] at h; cases h
  | some d =>
    rw [q] at h
    cases h
    exact ⟨d, rfl, h0⟩⟩
/-- the body, from the parameters to the outcome -/
def Bd (G : Ct) (Ex : XK) (t : TS) (k : Nat) (es : Es) : Out → Prop
  | .ret r es' => S G Ex t (es ++ List.replicate k none) { nx := fun e => r = fr G .non ∧ Back G es e es', rt := fun φ e => φ = r ∧ Back G es e es' }
  | .exc C ns ds es' => S G Ex t (es ++ List.replicate k none) { ex := fun C' ns' ds' e => C' = C ∧ ns' = ns ∧ ds' = ds ∧ Back G es e es' }
theorem cfg_start {W F H : Hp} {vs : List V} {es : Es} (c : Cfg G W F H (vs.map some) es) (k : Nat) : Cfg G W F H (vs.map some ++ List.replicate k none) (es ++ List.replicate k none) := by
  obtain ⟨ms, c⟩ := c
  refine ⟨ms, ⟨fun i φ h => ?_, c.dm, c.dF, c.dW, c.dFW, c.sW, c.sF, c.sm, c.tab, c.nt, by have := c.len; simp at this; simp [this]⟩⟩
  by_cases q : i < es.length
  · rw [List.getElem?_append_left q] at h
    obtain ⟨v, h1, h2⟩ := c.at_ i φ h
    rw [List.getElem?_append_left (by have := c.len; omega)]
    exact ⟨v, h1, h2⟩
  · rw [List.getElem?_append_right (by omega), List.getElem?_replicate] at h
    split at h <;> cases h
theorem bd_run {Ex : XK} {t : TS} {N ps : List Str} {es : Es} {o : Out} {W F H : Hp} {vs : List V} {Q : VK} {n : Nat} (hn : vs.length = n) (c : Cfg G W F H (vs.map some) es) (hb : Bd G Ex t (N.length - n) es o) (k : OutOk G W F vs Q Ex o) :
    t { nx := fun _ H' => Q .non H', rt := Q } (L2.start N vs) H := by
  have c0 := cfg_start c (N.length - n)
  have e0 : L2.start N vs = vs.map some ++ List.replicate (N.length - n) none := by unfold L2.start; rw [hn]
  rw [e0]
  cases o with
  | ret r es' =>
    refine hb W F H _ _ c0 ⟨fun e W' H' σ q s c' => ?_, fun φ e v m W' H' σ q s dm hm c' => ?_, fun _ _ _ _ q => q.elim, fun _ _ _ _ q => q.elim, fun _ _ _ _ _ _ _ _ _ q => q.elim⟩
    · obtain ⟨rfl, b⟩ := q
      exact k .non emp W' H' s dis_emp (Hold.of (is_non.mpr rfl)) (by rw [un_emp]; exact back_cfg c s c' b)
    · obtain ⟨rfl, b⟩ := q
      exact k v m W' H' s dm hm (back_cfg c s c' b)
  | exc C ns ds es' =>
    refine hb W F H _ _ c0 ⟨fun _ _ _ _ q => q.elim, fun _ _ _ _ _ _ _ q => q.elim, fun _ _ _ _ q => q.elim, fun _ _ _ _ q => q.elim, fun C' ns' ds' e d ws W' H' σ q s c' il hd => ?_⟩
    obtain ⟨rfl, rfl, rfl, b⟩ := q
    exact k d ws W' H' s (back_cfg c s c' b) il hd
section
variable {P : Program} {w : World} {mg : Str → Option Value} {base : Heap}
theorem sp_len {Fn : Es → Out → Prop} {n : Nat} {vs : List V} {H : Hp} {Q : VK} {E : XK} (h : spOf G Fn n vs H Q E) : vs.length = n := let ⟨_, _, _, _, h, _⟩ := h; h
/-- a def that raises nothing -/
theorem ok_of {x qual : Str} {st : Stmt} {f : Addr} {fd : FuncData} {N ps : List Str} {k : Nat} {Fn : Es → Out → Prop} (F : Fun G.K x qual st f fd) (Sc : FnScope N ps (defScope st))
    (hb : ∀ (cdv : Value) (A : Around) (outer : List Env) (s : Shared) (H : Hp) (E : XK), Room k (A.deeper (envOfC qual (defScope st) s.heap.objs.size f cdv)) →
      ∃ t, PSs (cxOf CX0 P w G.K mg base N qual (defScope st) f cdv A outer s H E).nox (defBody st) t ∧ ∀ Ex es o, Fn es o → Bd G Ex t (N.length - ps.length) es o) : FnOk P w G.K mg base CX0 (k + 1) f fd ps (spOf G Fn ps.length) := by
  refine F.ok Sc (fun vs H Q E h => sp_len h) (fun cdv A outer s H vs Q E hr h => ?_)
  obtain ⟨t, ht, hbd⟩ := hb cdv A outer s H E hr
  obtain ⟨W, F, es, o, hn, c, hf, k⟩ := h
  exact ⟨t, ht, bd_run (ps := ps) hn c (hbd _ es o hf) k⟩
/-- a def that may raise -/
theorem okX_of {x qual : Str} {st : Stmt} {f : Addr} {fd : FuncData} {N ps : List Str} {k : Nat} {Fn : Es → Out → Prop} (F : Fun G.K x qual st f fd) (Sc : FnScope N ps (defScope st))
    (hb : ∀ (cdv : Value) (A : Around) (outer : List Env) (s : Shared) (H : Hp) (E : XK), Room k (A.deeper (envOfC qual (defScope st) s.heap.objs.size f cdv)) →
      Takes (cxOf (L2.CX P w) P w G.K mg base N qual (defScope st) f cdv A outer s H E) (fun cls d _ T => E cls d T) →
      ∃ t, PSs (cxOf (L2.CX P w) P w G.K mg base N qual (defScope st) f cdv A outer s H E) (defBody st) t ∧ ∀ es o, Fn es o → Bd G E t (N.length - ps.length) es o) : FnOk P w G.K mg base (L2.CX P w) (k + 1) f fd ps (spOf G Fn ps.length) := by
  refine F.okX Sc (fun vs H Q E h => sp_len h) (fun cdv A outer s H vs Q E hr h => ?_)
  obtain ⟨t, ht, hbd⟩ := hb cdv A outer s H E hr (takes_of rfl rfl rfl rfl)
  obtain ⟨W, F, es, o, hn, c, hf, k⟩ := h
  exact ⟨t, ht, bd_run (ps := ps) hn c (hbd es o hf) k⟩
end

/-! ### a def that is called by its name; a method; a class -/
structure Cal (P : Program) (w : World) (K : PySem.W.Frag) (mg : Str → Option Value) (base : Heap) (CX : CXT) (k : Nat) (x : Str) (ps : List Str) (sp : Sp) : Prop where
  ex : ∃ f fd, mg x = some (.ref f) ∧ PySem.W.keepIn K (.ref f) = true ∧ Binds K fd ps [] ∧ FnOk P w K mg base CX k f fd ps sp
structure CalM (P : Program) (w : World) (K : PySem.W.Frag) (mg : Str → Option Value) (base : Heap) (CX : CXT) (k : Nat) (C : Addr) (m : Str) (ps : List Str) (sp : Sp) : Prop where
  ex : ∃ f fd, Cls K C ∧ Meth K C m f ∧ Binds K fd ps [] ∧ FnOk P w K mg base CX k f fd ps sp
structure CalC (P : Program) (w : World) (K : PySem.W.Frag) (mg : Str → Option Value) (base : Heap) (CX : CXT) (k : Nat) (x : Str) (C : Addr) (ps : List Str) (sp : Sp) : Prop where
  ex : ∃ f fd, mg x = some (.ref C) ∧ Mk K C f ∧ Binds K fd ps [] ∧ FnOk P w K mg base CX k f fd ps sp
section
variable {X : Cx} {CX : CXT} {k j : Nat} {C : Addr} {ps : List Str} {sp : Sp} {E : XK} {x m : Str} {p pos apos : Pos} {e o : Expr} {es : List Expr} {ta : TE} {t : TA}
theorem pe_cal (c : Cal X.prog X.w X.K X.mg X.base CX k x ps sp) (hr : Room j X.A) (hk : k ≤ j) (hx : Passes CX X E) (ha : PA X (e :: es) t) (hg : Gl X x := by rfl)
    (hdb : (x == ("__debug__" : Str)) = false := by decide) (he : starEach (e :: es) X.env = (false, eval e X.env) :: starEach es X.env := by rfl) (hpl : (backTo pos (starEach es X.env)).any (·.1) = false := by rfl) :
    PE X (.Call (.Name x p) (e :: es) [] pos) (tCall sp [] E t) := by
  obtain ⟨f, fd, h1, h2, h3, h4⟩ := c.ex
  exact pe_call h4 (hr.mono hk) hg h1 h2 h3 .nil hx ha hdb he hpl
theorem pe_cal0 (c : Cal X.prog X.w X.K X.mg X.base CX k x ps sp) (hr : Room j X.A) (hk : k ≤ j) (hx : Passes CX X E) (hg : Gl X x := by rfl) (hdb : (x == ("__debug__" : Str)) = false := by decide) :
    PE X (.Call (.Name x p) [] [] pos) (tCall sp [] E tNil) := by
  obtain ⟨f, fd, h1, h2, h3, h4⟩ := c.ex
  exact pe_call0 h4 (hr.mono hk) hg h1 h2 h3 .nil hx hdb
theorem pe_calM {pl : Sem Bool} (c : CalM X.prog X.w X.K X.mg X.base CX k C m ps sp) (hr : Room j X.A) (hk : k ≤ j) (hx : Passes CX X E) (ho : PE X o ta) (ha : PA X (e :: es) t)
    (hst : starEach (e :: es) X.env = (false, eval e X.env) :: starEach es X.env := by rfl) (hpl : (backTo pos (starEach es X.env)).any (·.1) = false := by rfl)
    (ht : eval (.Call (.Attribute o m apos) (e :: es) [] pos) X.env = (do
      let ov ← eval o X.env
      standAt apos.atName
      let (f, first) ← holding [ov] (getMethod ov m pl)
      callWith pos f first (backTo pos (starEach (e :: es) X.env)) (backToKw pos (keywordEach [] X.env))) := by rfl) :
    PE X (.Call (.Attribute o m apos) (e :: es) [] pos) (tMeth C m sp [] E ta t) := by
  obtain ⟨f, fd, h1, h2, h3, h4⟩ := c.ex
  exact pe_meth ho h1 h2 h4 (hr.mono hk) h3 .nil hx ha hst hpl ht
theorem pe_calM0 {pl : Sem Bool} (c : CalM X.prog X.w X.K X.mg X.base CX k C m ps sp) (hr : Room j X.A) (hk : k ≤ j) (hx : Passes CX X E) (ho : PE X o ta)
    (ht : eval (.Call (.Attribute o m apos) [] [] pos) X.env = (do
      let ov ← eval o X.env
      standAt apos.atName
      let (f, first) ← holding [ov] (getMethod ov m pl)
      callWith pos f first (backTo pos (starEach [] X.env)) (backToKw pos (keywordEach [] X.env))) := by rfl) :
    PE X (.Call (.Attribute o m apos) [] [] pos) (tMeth C m sp [] E ta tNil) := by
  obtain ⟨f, fd, h1, h2, h3, h4⟩ := c.ex
  exact pe_meth0 ho h1 h2 h4 (hr.mono hk) h3 .nil hx ht
theorem pe_calC (c : CalC X.prog X.w X.K X.mg X.base CX k x C ps sp) (hr : Room j X.A) (hk : k + 1 ≤ j) (hx : Passes CX X E) (ha : PA X (e :: es) t) (hg : Gl X x := by rfl)
    (hdb : (x == ("__debug__" : Str)) = false := by decide) (he : starEach (e :: es) X.env = (false, eval e X.env) :: starEach es X.env := by rfl) (hpl : (backTo pos (starEach es X.env)).any (·.1) = false := by rfl) :
    PE X (.Call (.Name x p) (e :: es) [] pos) (tMake C sp [] E t) := by
  obtain ⟨f, fd, h1, h2, h3, h4⟩ := c.ex
  exact pe_make h2 h4 (hr.mono hk) hg h1 h3 .nil hx ha hdb he hpl
end

/-! ### operators by any of their kinds -/
section
variable {X : Cx}
def rAddA : R2 := fun x y H Q => (rI0 fun i j => .int (i + j)) x y H Q ∨ rCat x y H Q
theorem op_addA : OpR X (binaryOp .Add) rAddA := op_add.or op_cat
def rMulA : R2 := fun x y H Q => (rI CMulW fun i j => .int (i * j)) x y H Q ∨ ((rI CMul fun i j => .int (i * j)) x y H Q ∨ rRep x y H Q)
theorem op_mulA : OpR X (binaryOp .Mult) rMulA := op_mulW.or (op_mul.or op_rep)
def rFdv : R2 := rI CDivW fun i j => .int (i / j)
theorem op_fdvA : OpR X (binaryOp .FloorDiv) rFdv := op_fdivW
def rModA : R2 := rI (fun _ j => 0 < j) fun i j => .int (i % j)
theorem op_modA : OpR X (binaryOp .Mod) rModA := op_mod
def rEqA (K : PySem.W.Frag) : R2 := fun x y H Q => rEq x y H Q ∨ rEqD K x y H Q
theorem op_eqA (hu : X.A.units + 64 < cLine) : OpR X (compareOp .Eq) (rEqA X.K) := op_eq.or (op_eqD hu)
def rNeA (K : PySem.W.Frag) : R2 := fun x y H Q => rNe x y H Q ∨ rNeD K x y H Q
theorem op_neA (hu : X.A.units + 64 < cLine) : OpR X (compareOp .NotEq) (rNeA X.K) := op_ne.or (op_neD hu)
def rSub' : R2 := rI0 fun i j => .int (i - j)
theorem op_subA : OpR X (binaryOp .Sub) rSub' := op_sub
def rPow : R2 := rI CPow fun i j => .int (i ^ j.toNat)
theorem op_powA : OpR X (binaryOp .Pow) rPow := op_pow
def rLt' : R2 := rI0 fun i j => .bl (decide (i < j))
def rLe' : R2 := rI0 fun i j => .bl (decide (i ≤ j))
def rGt' : R2 := rI0 fun i j => .bl (decide (j < i))
def rGe' : R2 := rI0 fun i j => .bl (decide (j ≤ i))
theorem op_ltA : OpR X (compareOp .Lt) rLt' := op_lt
theorem op_leA : OpR X (compareOp .LtE) rLe' := op_le
theorem op_gtA : OpR X (compareOp .Gt) rGt' := op_gt
theorem op_geA : OpR X (compareOp .GtE) rGe' := op_ge
def rIsN' : R2 := fun x y H Q => y = .non ∧ Q (.bl (decide (x = .non))) H
theorem op_isNA : OpR X (compareOp .Is) rIsN' := op_isN
def rNotN' : R2 := fun x y H Q => y = .non ∧ Q (.bl (!decide (x = .non))) H
theorem op_notNA : OpR X (compareOp .IsNot) rNotN' := op_notN
def rNeg : V → Hp → VK → Prop := rU fun i => .int (-i)
theorem un_negA : UnR X (unaryOp .USub) rNeg := un_neg
def rLenA (K : PySem.W.Frag) : List V → Hp → VK → Prop := fun xs H Q => ∃ p ys, xs = [.ref p] ∧ (SqL K H p ys ∨ SqT K H p ys) ∧ Q (.int ys.length) H
theorem call_lenA : CallR X (.builtin "len") (rLenA X.K) := call_len_seq
def rListA (K : PySem.W.Frag) : List V → Hp → VK → Prop := fun xs H Q => ∃ p ys, xs = [.ref p] ∧ (SqL K H p ys ∨ SqT K H p ys) ∧ ∀ l, H l = none → Q (.ref l) (upd H l (.lst ys))
theorem call_listA : CallR X (.type "list") (rListA X.K) := call_list_of
def rTupA (K : PySem.W.Frag) : List V → Hp → VK → Prop := fun xs H Q => ∃ p ys, xs = [.ref p] ∧ ((SqL K H p ys ∧ ∀ l, H l = none → Q (.ref l) (upd H l (.tup ys))) ∨ (SqT K H p ys ∧ Q (.ref p) H))
theorem call_tupA : CallR X (.type "tuple") (rTupA X.K) := call_tuple_of
def rIntA : List V → Hp → VK → Prop := fun xs H Q => (∃ i, xs = [.int i] ∧ Q (.int i) H) ∨ ∃ k, xs = [.bl k] ∧ Q (.int (if k then 1 else 0)) H
theorem call_intA : CallR X (.type "int") rIntA := call_int1
end
section
variable {x y z : D} {ds xs ys : List D} {m n : Int}
theorem a_addI : R2P G rAddA (.int m) (.int n) (.int (m + n)) := fun W H vx vy Q s hx hy k => .inl (r2_I0i (g := fun i j => i + j) W H vx vy Q s hx hy k)
theorem a_cat (h : xs.length + ys.length ≤ 100000) : R2L G rAddA (.lst xs) (.lst ys) (xs ++ ys) := fun W H vx vy Q s hx hy k => .inr (r2_cat h W H vx vy Q s hx hy k)
theorem a_mulI (h : CMulW m n) : R2P G rMulA (.int m) (.int n) (.int (m * n)) := fun W H vx vy Q s hx hy k => .inl (r2_Ii (g := fun i j => i * j) h W H vx vy Q s hx hy k)
theorem a_mulC (h : CMul m n) : R2P G rMulA (.int m) (.int n) (.int (m * n)) := fun W H vx vy Q s hx hy k => .inr (.inl (r2_Ii (g := fun i j => i * j) h W H vx vy Q s hx hy k))
theorem a_rep (h0 : -(2 ^ 63) ≤ n) (h1 : n < 2 ^ 63) (hl : xs.length * n.toNat ≤ 100000) : R2L G rMulA (.lst xs) (.int n) (List.replicate n.toNat xs).flatten := fun W H vx vy Q s hx hy k => .inr (.inr (r2_rep h0 h1 hl W H vx vy Q s hx hy k))
theorem a_fdv (h : CDivW m n) : R2P G rFdv (.int m) (.int n) (.int (m / n)) := r2_Ii (g := fun i j => i / j) h
theorem a_mod (h : 0 < n) : R2P G rModA (.int m) (.int n) (.int (m % n)) := r2_Ii (g := fun i j => i % j) h
theorem a_sub : R2P G rSub' (.int m) (.int n) (.int (m - n)) := r2_I0i (g := fun i j => i - j)
theorem a_pow (h : CPow m n) : R2P G rPow (.int m) (.int n) (.int (m ^ n.toNat)) := r2_Ii (g := fun i j => i ^ j.toNat) h
theorem a_lt : R2P G rLt' (.int m) (.int n) (.bl (decide (m < n))) := r2_I0b (g := fun i j => decide (i < j))
theorem a_le : R2P G rLe' (.int m) (.int n) (.bl (decide (m ≤ n))) := r2_I0b (g := fun i j => decide (i ≤ j))
theorem a_gt : R2P G rGt' (.int m) (.int n) (.bl (decide (n < m))) := r2_I0b (g := fun i j => decide (j < i))
theorem a_ge : R2P G rGe' (.int m) (.int n) (.bl (decide (n ≤ m))) := r2_I0b (g := fun i j => decide (j ≤ i))
theorem a_eqI : R2P G (rEqA G.K) (.int m) (.int n) (.bl (decide (m = n))) := fun W H vx vy Q s hx hy k => .inl (r2_eqI W H vx vy Q s hx hy k)
theorem a_eqS {m n : Str} : R2P G (rEqA G.K) (.str m) (.str n) (.bl (decide (m = n))) := fun W H vx vy Q s hx hy k => .inl (r2_eqS W H vx vy Q s hx hy k)
theorem a_neI : R2P G (rNeA G.K) (.int m) (.int n) (.bl (!decide (m = n))) := fun W H vx vy Q s hx hy k => .inl (r2_neI W H vx vy Q s hx hy k)
theorem a_neS {m n : Str} : R2P G (rNeA G.K) (.str m) (.str n) (.bl (!decide (m = n))) := fun W H vx vy Q s hx hy k => .inl (r2_neS W H vx vy Q s hx hy k)
theorem a_eqLL {l m : List Int} (hl : l.length ≤ 100000) (hm : m.length ≤ 100000) : R2P G (rEqA G.K) (.lst (dI l)) (.lst (dI m)) (.bl (decide (l = m))) := fun W H vx vy Q s hx hy k => .inr (r2_eqLL hl hm W H vx vy Q s hx hy k)
theorem a_neLL {l m : List Int} (hl : l.length ≤ 100000) (hm : m.length ≤ 100000) : R2P G (rNeA G.K) (.lst (dI l)) (.lst (dI m)) (.bl (!decide (l = m))) := fun W H vx vy Q s hx hy k => .inr (r2_neLL hl hm W H vx vy Q s hx hy k)
theorem a_eqTT {l m : List Int} (hl : l.length ≤ 100000) (hm : m.length ≤ 100000) : R2P G (rEqA G.K) (.tup (dI l)) (.tup (dI m)) (.bl (decide (l = m))) := fun W H vx vy Q s hx hy k => .inr (r2_eqTT hl hm W H vx vy Q s hx hy k)
theorem a_ixL (h : atI ds n = some z) : R2P G (rIx G.K) (.lst ds) (.int n) z := fun W H vx vy Q s hx hy k => .inl (r2_ixL h W H vx vy Q s hx hy k)
theorem a_ixT (h : atI ds n = some z) : R2P G (rIx G.K) (.tup ds) (.int n) z := fun W H vx vy Q s hx hy k => .inr (.inl (r2_ixT h W H vx vy Q s hx hy k))
theorem a_isN : R2P G rIsN' x .non (.bl (isNonD x)) := r2_isN
theorem a_notN : R2P G rNotN' x .non (.bl (!isNonD x)) := r2_notN
theorem a_lenL : RCP G (rLenA G.K) [.lst ds] (.int ds.length) := rc_lenL
theorem a_lenT : RCP G (rLenA G.K) [.tup ds] (.int ds.length) := rc_lenT
theorem a_listL : RCL G (rListA G.K) [.lst ds] ds := rc_listL
theorem a_listT : RCL G (rListA G.K) [.tup ds] ds := rc_listT
theorem a_tupL : RCT G (rTupA G.K) [.lst ds] ds := rc_tupL
theorem a_int : RCP G rIntA [.int n] (.int n) := rc_int
theorem ef_un {te : TE} {es es1 : Es} (h : EF G te es (.int n) es1) : EF G (tUn rNeg te) es (.int (-n)) es1 := fun W F H σ Q c k => h W F H σ _ c fun v W1 H1 s1 c1 i1 => by
  rw [is_int] at i1
  exact ⟨n, i1, k _ W1 H1 s1 c1 (is_int.mpr rfl)⟩
end
end DL

namespace DL
open PySem L2 PySem.Spec PyProof.Rows
/-! ### the rules, the written part named (within a comprehension's block it cannot be found) -/
section
variable {X : Cx} {K : PySem.W.Frag} {e o a b : Expr} {es : List Expr} {te ta tb to tl : TE} {t : TA} {pos apos p : Pos} {f name : Str} {T id : String} {r : V → List V → Hp → VK → Prop}
theorem ix_seqK (K : PySem.W.Frag) (h : X.K = K) : IxR X (rIx K) := h ▸ ix_seq
theorem sl_listK (K : PySem.W.Frag) (h : X.K = K) : SlR X (rSlL K) := h ▸ sl_list
theorem sl_tupK (K : PySem.W.Frag) (h : X.K = K) : SlR X (rSlT K) := h ▸ sl_tup
theorem call_lenK (K : PySem.W.Frag) (h : X.K = K) : CallR X (.builtin "len") (rLenA K) := h ▸ call_lenA
theorem call_listK (K : PySem.W.Frag) (h : X.K = K) : CallR X (.type "list") (rListA K) := h ▸ call_listA
theorem call_tupK (K : PySem.W.Frag) (h : X.K = K) : CallR X (.type "tuple") (rTupA K) := h ▸ call_tupA
theorem call_isiK' (K : PySem.W.Frag) (h : X.K = K) : CallR X (.builtin "isinstance") (rIsi K) := h ▸ call_isi
theorem op_eqK (K : PySem.W.Frag) (h : X.K = K) (hu : X.A.units + 64 < cLine) : OpR X (compareOp .Eq) (rEqA K) := h ▸ op_eqA hu
theorem op_neK (K : PySem.W.Frag) (h : X.K = K) (hu : X.A.units + 64 < cLine) : OpR X (compareOp .NotEq) (rNeA K) := h ▸ op_neA hu
theorem op_inK (K : PySem.W.Frag) (h : X.K = K) : OpR X (compareOp .In) (rIn K false) := h ▸ op_in_seq
theorem op_notInK (K : PySem.W.Frag) (h : X.K = K) : OpR X (compareOp .NotIn) (rIn K true) := h ▸ op_notIn_seq
theorem mt_indexK (K : PySem.W.Frag) (h : X.K = K) : MtR X "list.index" (rIndex K) := h ▸ mt_index
theorem cr_sumK (K : PySem.W.Frag) (h : X.K = K) (hc : X.calm = true) : CallR X (.builtin "sum") (rSum K) := h ▸ cr_sum hc
theorem cr_minK (K : PySem.W.Frag) (h : X.K = K) (hc : X.calm = true) : CallR X (.builtin "min") (rMin K) := h ▸ cr_min hc
theorem cr_maxK (K : PySem.W.Frag) (h : X.K = K) (hc : X.calm = true) : CallR X (.builtin "max") (rMax K) := h ▸ cr_max hc
theorem cr_anyK (K : PySem.W.Frag) (h : X.K = K) (hc : X.calm = true) : CallR X (.builtin "any") (rAny K) := h ▸ cr_any hc
theorem cr_allK (K : PySem.W.Frag) (h : X.K = K) (hc : X.calm = true) : CallR X (.builtin "all") (rAll K) := h ▸ cr_all hc
theorem cr_sortedK (K : PySem.W.Frag) (h : X.K = K) : CallR X (.builtin "sorted") (rSorted K) := h ▸ cr_sorted
theorem pe_fldK (K : PySem.W.Frag) (h : X.K = K) (he : PE X e ta) (hb : attributeBase e f X.env (eval e X.env) = eval e X.env) : PE X (.Attribute e f pos) (tFld K ta f) := h ▸ pe_fld he hb
theorem ps_fldK {tv : TE} {value : Expr} {pos' : Pos} (K : PySem.W.Frag) (h : X.K = K) (ha : PE X o ta) (hv : PE X value tv) (hs : swapsWith value (some (.Attribute o f pos')) pos.line X.env = pure false) : PS X (.Assign [.Attribute o f pos'] value pos) (sFld K ta tv f) := h ▸ ps_fld ha hv hs
theorem pi_listK {tg : Expr} (K : PySem.W.Frag) (h : X.K = K) (hl : PE X e tl) : PI X tg e (iList K tl) := h ▸ pi_list hl
theorem pi_tupK {tg : Expr} (K : PySem.W.Frag) (h : X.K = K) (hl : PE X e tl) : PI X tg e (iTup K tl) := h ▸ pi_tup hl
theorem pi_enumK {elts : List Expr} {kk : Nat} {tpos : Pos} (K : PySem.W.Frag) (h : X.K = K) (hg : Gl X "enumerate") (hm : X.mg "enumerate" = none) (ha : PA X [e] t) (hs : starEach [e] X.env = [(false, eval e X.env)] := by rfl) : PI X (.Tuple elts kk tpos) (.Call (.Name "enumerate" p) [e] [] pos) (iEnum K t) := h ▸ pi_enum hg hm ha hs
theorem pg_tupK {tgs : TGs} {k n : Nat} (K : PySem.W.Frag) (h : X.K = K) (hc : X.calm = true) (hp : PGs X es tgs)
    (hn : (assignEach es X.env).length = n := by rfl) (hst : (assignEach es X.env).findIdx? (·.1) = none := by rfl) : PG X (.Tuple es k pos) (gTup K n tgs) := h ▸ pg_tup hc hp hn hst
theorem pe_bm0K (K : PySem.W.Frag) (h : X.K = K) (pa : PlainAttrs T) (slot : Slot T name id) (hty : typeOf (.builtin id) = pure (.type "method_descriptor")) (hm : MtR X id r) (ho : PE X o to)
    (hbase : attributeBase o name X.env (eval o X.env) = eval o X.env := by rfl) (hline : (apos.endLine == pos.line) = true := by rfl) : PE X (.Call (.Attribute o name apos) [] [] pos) (tBM0 K T r to) := h ▸ pe_bm0 pa slot hty hm ho hbase hline
theorem pe_bmK (K : PySem.W.Frag) (h : X.K = K) (pa : PlainAttrs T) (slot : Slot T name id) (hty : typeOf (.builtin id) = pure (.type "method_descriptor")) (hm : MtR X id r) (ho : PE X o to) (ha : PA X (e :: es) t)
    (hbase : attributeBase o name X.env (eval o X.env) = eval o X.env := by rfl)
    (hfew : ((backTo pos (starEach (e :: es) X.env)).all (fun x => !x.1) && (backToKw pos (keywordEach [] X.env)).all (fun x => x.1.isSome)
      && decide ((e :: es).length + ([] : List Keyword).length + (if ([] : List Keyword).isEmpty then 0 else 1) < 30)) = true := by rfl)
    (hline : (apos.endLine == pos.line) = true := by rfl) (hs : starEach (e :: es) X.env = (false, eval e X.env) :: starEach es X.env := by rfl) (hplain : (backTo pos (starEach es X.env)).any (·.1) = false := by rfl) :
    PE X (.Call (.Attribute o name apos) (e :: es) [] pos) (tBM K T r to t) := h ▸ pe_bm pa slot hty hm ho ha hbase hfew hline hs hplain
end
end DL

namespace DL
open PySem L2 PySem.Spec PyProof.Rows
/-! ### an exception class whose __init__ begins with super().__init__(text) -/
section
open PySem.W PySem.Calls
variable {prog : Program} {w : World} {A : Around} {E : Value → Shared → Prop} {h : Heap} {g : Array GenState} {d : Drawn} {t : Nat} {os : OsState}
variable {nm q : Str} {C N : Addr} {bs bm : List Value} {hdct : Bool} {sn : List Str} {sub : List Value} {ab : Bool} {col : Option Bool} {dd : Option Addr} {k0 k1 k2 k3 k5 : Option Value}
theorem call_mwV {u e t0 : Addr} {rest : List Value} {Q : Value → Shared → Prop}
    (hC : h.get? C = some (excClassObj nm q C N bs bm hdct sn sub ab col dd k0 k1 k2 k3 k5 "ValueError.__new__")) (he : h.get? e = some (HandSPX.excO C t0)) (hu : h.get? u = some (kxs_mw "ValueError.__init__" e)) (hrest : rest.length ≤ sizeLine)
    (hq : ∀ h' t1, (∀ b o, b ≠ e → h.get? b = some o → h'.get? b = some o) → h'.get? e = some (HandSPX.excO C t1) → Q .none ⟨h', g, d, t, os⟩) :
    wpAny (model prog w) A (call (.ref u) rest) Q E ⟨h, g, d, t, os⟩ := by
  refine wpAny_call (codeAny_of_tree ?_)
  show wpAny _ A.in1 (callAny (.ref u) ⟨rest, []⟩) _ _ _
  simp only [callAny]
  refine wpAny_bind (wpAny_load hu ?_)
  simp only [kxs_mw, show (Value.type "method-wrapper" == Value.type "method" || Value.type "method-wrapper" == Value.type "builtin_function_or_method" || Value.type "method-wrapper" == Value.type "method-wrapper") = true by decide, if_true]
  refine W.KFB.if_so (by decide) ?_
  refine wpAny_bind (ESX.check_bound F.excBase_ValueError hC he rfl ?_)
  refine wpAny_bind (wpAny_pure (wpAny_pure ?_))
  refine ⟨Code.quiet_builtin _ (by decide +kernel), codeAny_builtin F.excBase_ValueError.initEntry ?_⟩
  rw [Around.under_plainId F.excBase_ValueError.init.plain _]
  wp_walk
  refine hq _ h.objs.size (fun b o hb ho => ?_) ?_
  · rw [Heap.get?_update_other _ _ (Ne.symm hb)]
    exact Heap.get?_push_of_some _ ho
  · rw [Heap.get?_update_self _ (Heap.get?_push_of_some _ he) rfl]
    rfl
end
/-- what the written part says of the class at C and its __init__ at fI -/
structure XInit (prog : Program) (K : PySem.W.Frag) (mg : Str → Option Value) (C fI cc cda : Addr) (qual : Str) (params : Arguments) (body : List Stmt) (scope : Scope) (fd : FuncData) : Prop where
  oex : OexC K C
  iC : PySem.W.findIn K (.ref C) "__init__" = some (some (.ref fI))
  tI : PySem.W.typeIn K (.ref fI) = some (.type "function")
  code : ∃ (ccl : Value) (cdd : Option Addr) (vs : Array Value) (ccs : Array (Option Value)) (file : Str) (tf : Tok), K.lookup cda = some ⟨ccl, cdd, .fields vs, ccs⟩ ∧ vs[2]? = some (.str file tf) ∧ ((prog.main.file : Str) == file) = true
  cell : ∃ (cl : Value) (cld : Option Addr) (csl : Array (Option Value)), K.lookup cc = some ⟨cl, cld, .cell (some (.ref C)), csl⟩
  sub : PySem.W.mroIn K C (.ref C) = some true
  nsup : mg "super" = none
  tp : PySem.W.nsIn K PySem.cStatics "thirdparty.any" = some none
  sin : PySem.W.ks_superIn K C C "__init__" = some (some (.builtin "ValueError.__init__"))
  sVE : PySem.W.subIn K (.ref C) (.type "ValueError") = some true
  fn : ∃ (oc : Value) (od : Option Addr) (kV doc pm ct : Value) (an : Option Addr) (osl : Array (Option Value)), K.lookup fI = some ⟨oc, od, .func fd, osl⟩ ∧ fd = PySem.W.ksFn "__init__" qual params body scope .none kV doc pm an (.ref cda) ct cc
  cd : PySem.W.codeIn K (.ref cda) qual = true
  htop : (prog.main.scope.names.lookup ("super" : Str)).isSome = false
abbrev nfOf (qual : Str) (params : Arguments) (body : List Stmt) (scope : Scope) (cc cda : Addr) : NdefX.NF := ⟨"__init__", qual, params, body, scope, [("__class__", cc)], cda⟩
section
variable {CX : CXT} {P : Program} {w : World} {K : PySem.W.Frag} {mg : Str → Option Value} {base : Heap} {N ps : List Str} {qual : Str} {params : Arguments} {body : List Stmt} {scope : Scope} {fd : FuncData} {C fI cc cda : Addr}
/-- super().__init__(e, ..) as a statement: the exception's args are laid anew, nothing else -/
theorem super_stmt {A : Around} {outer : List Env} {s0 s : Shared} {H0 H : Hp} {E : XK} {σ : L2.St} {a : Addr} {p0 p1 p2 p3 p4 : Pos} {e : Expr} {es : List Expr} {ar : Arg} {ta : TA}
    (T : XInit P K mg C fI cc cda qual params body scope fd) (I : Inv (NdefX.ncx CX P w K mg base N (nfOf qual params body scope cc cda) fI A outer s0 H0 E) [] σ H s)
    (hN0 : N[0]? = some ar.arg) (hs0 : σ[0]? = some (some (.ref a))) (hp : (params.posonlyargs ++ params.args).head? = some ar)
    (hks : scope.names.lookup ("super" : Str) = some .globalImplicit) (hkc : scope.names.lookup ("__class__" : Str) = some .free) (hka : scope.names.lookup ar.arg = some .local) (hk : scope.kind = .function)
    (ha : PA (NdefX.ncx CX P w K mg base N (nfOf qual params body scope cc cda) fI A outer s0 H0 E) (e :: es) ta) (R : L2.St → Hp → Prop)
    (ht : ta σ H fun vs H1 => H1 a = some (exo a C none) ∧ vs.length ≤ 1000 ∧ R σ H1)
    (hr : H a = some (exo a C none))
    {Q : Flow → Shared → Prop} (k : ∀ H1 s1, Inv (NdefX.ncx CX P w K mg base N (nfOf qual params body scope cc cda) fI A outer s0 H0 E) [] σ H1 s1 → H1 a = some (exo a C none) → R σ H1 → Q .next s1)
    (he : starEach (e :: es) (NdefX.envF (nfOf qual params body scope cc cda) fI s0.heap.objs.size) = (false, eval e (NdefX.envF (nfOf qual params body scope cc cda) fI s0.heap.objs.size)) :: starEach es (NdefX.envF (nfOf qual params body scope cc cda) fI s0.heap.objs.size))
    (hpl : (backTo p3 (starEach es (NdefX.envF (nfOf qual params body scope cc cda) fI s0.heap.objs.size))).any (·.1) = false)
    (hint : interactive (NdefX.envF (nfOf qual params body scope cc cda) fI s0.heap.objs.size) = false)
    (hsw : swapsWith (.Call (.Attribute (.Call (.Name "super" p0) [] [] p1) "__init__" p2) (e :: es) [] p3) none p4.line (NdefX.envF (nfOf qual params body scope cc cda) fI s0.heap.objs.size) = pure false)
    {pl : Sem Bool} (hev : eval (.Call (.Attribute (.Call (.Name "super" p0) [] [] p1) "__init__" p2) (e :: es) [] p3) (NdefX.envF (nfOf qual params body scope cc cda) fI s0.heap.objs.size) = (do
      let ov ← attributeBase (.Call (.Name "super" p0) [] [] p1) "__init__" (NdefX.envF (nfOf qual params body scope cc cda) fI s0.heap.objs.size) (eval (.Call (.Name "super" p0) [] [] p1) (NdefX.envF (nfOf qual params body scope cc cda) fI s0.heap.objs.size))
      standAt p2.atName
      let (f, first) ← holding [ov] (getMethod ov "__init__" pl)
      callWith p3 f first (backTo p3 (starEach (e :: es) (NdefX.envF (nfOf qual params body scope cc cda) fI s0.heap.objs.size))) [])) :
    _root_.PySem.wpAt (model P w) (A.deeper (NdefX.envF (nfOf qual params body scope cc cda) fI s0.heap.objs.size)) (.func body (NdefX.envF (nfOf qual params body scope cc cda) fI s0.heap.objs.size))
      (exec (.Expr (.Call (.Attribute (.Call (.Name "super" p0) [] [] p1) "__init__" p2) (e :: es) [] p3) p4) (NdefX.envF (nfOf qual params body scope cc cda) fI s0.heap.objs.size)) Q
      (NdefX.ncx CX P w K mg base N (nfOf qual params body scope cc cda) fI A outer s0 H0 E).xe s := by
  obtain ⟨ccl, cdd, vs, ccs, file, tf, hcode, hvs, hfile⟩ := T.code
  obtain ⟨cl, cld, csl, hcell⟩ := T.cell
  obtain ⟨oc, od, kV, doc, pm, ct, an, osl, hfn, hfd⟩ := T.fn
  obtain ⟨nm, q, N', bs, bm, sn, sub, ab, col, dd, k0, k1, k2, k3, k5, hC, hbm⟩ := T.oex.cls
  have X : K.In s.heap := I.kIn
  obtain ⟨t1, hx⟩ := exo_at I.hok hr
  obtain ⟨m, hns, hl⟩ := id I.loc
  obtain ⟨us, rs, look⟩ := hl 0 ar.arg (.ref a) hN0 hs0 (.inl hka)
  obtain rfl : us = Value.ref a := rs
  have hm : m ar.arg = some (.ref a) := by
    rcases look with ⟨_, z⟩ | ⟨z, _⟩
    · exact z
    · have z' : scope.names.lookup ar.arg = some .cell ∨ scope.names.lookup ar.arg = some .free := z
      rw [hka] at z'
      rcases z' with z' | z' <;> cases z'
  obtain ⟨mb, hb1, hb2⟩ := I.mod.blt
  refine PySem.ks_wpAt_Expr_any ?_ hint hsw
  refine PySem.ks_wpAt_MethodCall (pl := pl) ?_ hev
  refine PySem.ks_wpAt_super_base (fd := fd) (ar := ar) (cc := cda) hks hkc (by decide +kernel) rfl (X _ _ hfn) rfl (by rw [hfd]; exact hp) rfl (X _ _ hcode) rfl hvs hfile T.htop ?_
  refine PySem.W.ks_loadName_global hk hks (Calls.loadGlobal_builtin (I.mod.glob.keeps I.bk) T.nsup (hb1.keeps I.bk) ((hb2 _ (by decide +kernel)).trans PyProof.Rows.Boot.«super») ⟨rfl, ?_⟩)
  refine wpAny_loadName_free hk hkc rfl ⟨_, X _ _ hcell, rfl⟩ ?_
  refine wpAny_loadName_local hk hka hns hm ?_
  refine PySem.ks_wpAny_isType_cls (X _ _ hC) rfl ⟨rfl, ?_⟩
  obtain ⟨hh, g, d, t, os⟩ := s
  refine PySem.ks_wpAny_call_super (X _ _ hC) rfl hx rfl (fun c z => by cases z) (PySem.W.looks_mroIn X T.sub) (fun h1 e1 kk1 => ?_)
  have I1 : Inv (NdefX.ncx CX P w K mg base N (nfOf qual params body scope cc cda) fI A outer s0 H0 E) [] σ H ⟨h1, g, d, t, os⟩ := I.kept (t' := t) kk1
  have X1 : K.In h1 := I1.kIn
  have J1 : PySem.W.InstAt h1 a (HandSPX.excO C t1) C none := ⟨kk1 _ _ hx, rfl, rfl, trivial⟩
  have hcl : PySem.W.clsIn K C = some { name := nm, bases := bs, mro := .ref C :: bm, ns := N', qualname := q, hasDict := true, slotNames := sn, subclasses := sub, abstract := ab, collection := col, hasDel := false } := by
    unfold PySem.W.clsIn; rw [hC] <;> rfl
  have hsin := T.sin
  unfold PySem.W.ks_superIn at hsin
  rw [hcl, Option.bind_some] at hsin
  refine PySem.W.kxs_getMethod (D := C) PySem.W.kxs_ValueError e1 (PySem.W.looks_opaque X1 T.tp) (l₀ := .ref C :: bm) (l := ((Value.ref C :: bm).dropWhile (· != .ref C)).drop 1) ?_ rfl X1 hsin (J1.type.andThen (PySem.W.looks_subIn X1 T.sVE)) ?_ (by decide +kernel) ?_
  · exact fun A Q E s k q => wpAny_bind ((PySem.W.looks_clsIn X1 hcl) A _ E s k (wpAny_pure q))
  · exact PySem.W.ks_ne X1 J1 hcl
  have I2 : Inv (NdefX.ncx CX P w K mg base N (nfOf qual params body scope cc cda) fI A outer s0 H0 E) ((h1.objs.size, PySem.W.kxs_mw "ValueError.__init__" a) :: []) σ H ⟨h1.push (PySem.W.kxs_mw "ValueError.__init__" a), g, d, t + 1, os⟩ :=
    ClX.pin_new (o := PySem.W.kxs_mw "ValueError.__init__" a) (a := h1.objs.size) (t' := t + 1) I1 (fun b u e => Heap.get?_push_of_some _ e) (Nat.le_refl _) (Heap.get?_push_at rfl rfl) (fun v z => by cases z)
  rw [he]
  refine PySem.W.kxs_callWith (i := "ValueError.__init__") (u := h1.objs.size) (x := a) (by show (false || (backTo p3 (starEach es _)).any (·.1)) = false; rw [hpl]; rfl) ?_
  have hA := ha.run p3 _ _ σ H _ I2 ht
  have hA' : wpAny _ _ (spliced (backTo p3 (starEach (e :: es) (NdefX.envF (nfOf qual params body scope cc cda) fI s0.heap.objs.size)))) _ _ _ := hA
  rw [he] at hA'
  refine Calls.evalArgs_plain (thn hA' fun us s2 hq => ?_)
  obtain ⟨vs2, H2, I3, r2, ea, hlen, hR⟩ := hq
  refine ⟨ClX.pin_at I3, ?_⟩
  have X3 : K.In s2.heap := I3.kIn
  have hu := ClX.pin_at I3
  obtain ⟨t2, hx2⟩ := exo_at I3.hok ea
  have I4 := ClX.unpin I3
  obtain ⟨hh2, g2, d2, tk2, os2⟩ := s2
  refine call_mwV (t0 := t2) (X3 _ _ hC) hx2 hu (by rw [List.nil_append, ← r2.length, sizeLine_eq]; omega) fun h' t3 kk hx3 => ?_
  have J := I4.write (t' := tk2) (x := a) (e := a) (o := exo a C none) (by rw [ea]; exact True.intro) (.inl rfl) kk ⟨_, hx3⟩ (exo_ok hx3)
  have eu : upd H2 a (exo a C none) = H2 := by
    funext b
    by_cases hb : b = a
    · rw [hb, upd_same, ea]
    · rw [upd_ne hb]
  rw [eu] at J
  exact k H2 _ J ea hR
/-- __init__: super().__init__(e, ..), then the rest -/
theorem xinit_ok {k : Nat} {sp : Sp} {p0 p1 p2 p3 p4 : Pos} {e : Expr} {es : List Expr} {rest : List Stmt} {ar : Arg} {C fI cc cda : Addr}
    (T : XInit P K mg C fI cc cda qual params (.Expr (.Call (.Attribute (.Call (.Name "super" p0) [] [] p1) "__init__" p2) (e :: es) [] p3) p4 :: rest) scope fd)
    (Sc : NdefX.NScope N ps ["__class__"] scope) (len : ∀ vs H Q E, sp vs H Q E → vs.length = ps.length) (hp : (params.posonlyargs ++ params.args).head? = some ar) (hN0 : N[0]? = some ar.arg) (hka : scope.names.lookup ar.arg = some .local)
    (hks : scope.names.lookup ("super" : Str) = some .globalImplicit)
    (hbody : ∀ (A : Around) (outer : List Env) (s : Shared) (H : Hp) (vs : List V) (Q : VK) (E : XK), Room k (A.deeper (NdefX.envF (nfOf qual params (.Expr (.Call (.Attribute (.Call (.Name "super" p0) [] [] p1) "__init__" p2) (e :: es) [] p3) p4 :: rest) scope cc cda) fI s.heap.objs.size)) → sp vs H Q E →
      ∃ (ta : TA) (t : TS) (a : Addr), PA (NdefX.ncx CX P w K mg base N (nfOf qual params (.Expr (.Call (.Attribute (.Call (.Name "super" p0) [] [] p1) "__init__" p2) (e :: es) [] p3) p4 :: rest) scope cc cda) fI A outer s H E) (e :: es) ta ∧
        PSs (NdefX.ncx CX P w K mg base N (nfOf qual params (.Expr (.Call (.Attribute (.Call (.Name "super" p0) [] [] p1) "__init__" p2) (e :: es) [] p3) p4 :: rest) scope cc cda) fI A outer s H E) rest t ∧ vs[0]? = some (.ref a) ∧ H a = some (exo a C none) ∧
        ta (NdefX.startF N vs [none]) H fun ws H1 => H1 a = some (exo a C none) ∧ ws.length ≤ 1000 ∧ t { nx := fun _ H' => Q .non H', rt := Q } (NdefX.startF N vs [none]) H1)
    (he : ∀ env : Env, starEach (e :: es) env = (false, eval e env) :: starEach es env := by intro _; rfl)
    (hpl : ∀ env : Env, (backTo p3 (starEach es env)).any (·.1) = false := by intro _; rfl)
    (hsw : ∀ L : Addr, swapsWith (.Call (.Attribute (.Call (.Name "super" p0) [] [] p1) "__init__" p2) (e :: es) [] p3) none p4.line (NdefX.envF (nfOf qual params (.Expr (.Call (.Attribute (.Call (.Name "super" p0) [] [] p1) "__init__" p2) (e :: es) [] p3) p4 :: rest) scope cc cda) fI L) = pure false := by intro _; rfl)
    {pl : Sem Bool} (hev : ∀ L : Addr, eval (.Call (.Attribute (.Call (.Name "super" p0) [] [] p1) "__init__" p2) (e :: es) [] p3) (NdefX.envF (nfOf qual params (.Expr (.Call (.Attribute (.Call (.Name "super" p0) [] [] p1) "__init__" p2) (e :: es) [] p3) p4 :: rest) scope cc cda) fI L) = (do
      let ov ← attributeBase (.Call (.Name "super" p0) [] [] p1) "__init__" (NdefX.envF (nfOf qual params (.Expr (.Call (.Attribute (.Call (.Name "super" p0) [] [] p1) "__init__" p2) (e :: es) [] p3) p4 :: rest) scope cc cda) fI L) (eval (.Call (.Name "super" p0) [] [] p1) (NdefX.envF (nfOf qual params (.Expr (.Call (.Attribute (.Call (.Name "super" p0) [] [] p1) "__init__" p2) (e :: es) [] p3) p4 :: rest) scope cc cda) fI L))
      standAt p2.atName
      let (f, first) ← holding [ov] (getMethod ov "__init__" pl)
      callWith p3 f first (backTo p3 (starEach (e :: es) (NdefX.envF (nfOf qual params (.Expr (.Call (.Attribute (.Call (.Name "super" p0) [] [] p1) "__init__" p2) (e :: es) [] p3) p4 :: rest) scope cc cda) fI L))) []) := by intro _; rfl) :
    FnOk P w K mg base CX (k + 1) fI fd ps sp := by
  refine ⟨len, fun A outer s H args us vs Q E hr e0 hb r hsp => ?_⟩
  have hl := len _ _ _ _ hsp
  obtain ⟨oc, od, kV, doc, pm, ct, an, osl, hfn, hfd⟩ := T.fn
  obtain ⟨cl, cld, csl, hcell⟩ := T.cell
  have KX : K.In s.heap := e0.mod.kin.keeps fun b o e => (e0.bs b o e).1
  have lim : s.heap.NoLimit := e0.mod.nolimit.keeps fun b o e => (e0.bs b o e).1
  have hcn : H cc = none := by
    have z := e0.mod.kin _ _ hcell
    exact (e0.bs cc _ z).2
  subst hfd
  refine PySem.ks_codeAny_call_defAt (binds := ps.zip us) hr.depth (KX _ _ hfn) rfl lim (PySem.W.codeRec_of KX T.cd) rfl hb Sc.nocell (fun ⟨n, _⟩ hy => Sc.par n (List.of_mem_zip hy).1) (fun h₀ hns kp => ?_) Sc.co Sc.gen Sc.kind
  obtain ⟨ta, t, a, pa, ps', hv0, ha, hq⟩ := hbody A outer s H vs Q E (hr.deeper _) hsp
  have CA : NdefX.CellsAt [(("__class__" : Str), cc)] ["__class__"] [none] s.heap H := by
    refine ⟨rfl, fun y c e => ?_, fun x y c e1 e2 => ?_, fun i y e => ?_⟩
    · have hc : c = cc := by
        rw [List.lookup_cons] at e
        split at e
        · exact (Option.some.inj e).symm
        · cases e
      subst hc
      exact ⟨hcn, some (.ref C), _, KX _ _ hcell, rfl⟩
    · have h1 : x = "__class__" := by
        rw [List.lookup_cons] at e1
        split at e1
        · rename_i q; simpa using q
        · cases e1
      have h2 : y = "__class__" := by
        rw [List.lookup_cons] at e2
        split at e2
        · rename_i q; simpa using q
        · cases e2
      rw [h1, h2]
    · cases i with
      | zero =>
        cases e
        exact ⟨cc, by rw [List.lookup_cons]; simp, fun v z => by cases z⟩
      | succ i => simp at e
  have I := NdefX.inv_startN (CX := CX) (E := E) (N := N) (F := nfOf qual params (.Expr (.Call (.Attribute (.Call (.Name "super" p0) [] [] p1) "__init__" p2) (e :: es) [] p3) p4 :: rest) scope cc cda) (f := fI) (h₁ := h₀) (tk := s.toks + (ps.zip us).length) Sc hr.hd e0 hl r CA hns kp
  have hs0 : (NdefX.startF N vs [none])[0]? = some (some (.ref a)) := by
    unfold NdefX.startF
    cases vs with
    | nil => simp at hv0
    | cons v vs => simp at hv0 ⊢; exact hv0
  refine PySem.ks_wpAt_execs_cons ?_
  refine super_stmt (CX := CX) (E := E) T I hN0 hs0 hp hks (Sc.frk _ List.mem_cons_self) hka Sc.kind pa (fun σ H1 => t { nx := fun _ H' => Q .non H', rt := Q } σ H1) hq ha (fun H1 s1 I1 ha1 hR => ?_) (he _) (hpl _) I.quiet (hsw _) (hev _)
  refine _root_.PySem.wpAt_of_wpAny (wpAny_mono (ps'.run [] s1 _ H1 _ I1 hR) (fun fl s' hs => ?_) fun e s' hs => hs)
  have fin : ∀ {σ' : L2.St} {H' : Hp} {v : V} {u : Value}, Inv (NdefX.ncx CX P w K mg base N (nfOf qual params (.Expr (.Call (.Attribute (.Call (.Name "super" p0) [] [] p1) "__init__" p2) (e :: es) [] p3) p4 :: rest) scope cc cda) fI A outer s H E) [] σ' H' s' → L2.RelV v u → Q v H' → CE outer P w H s Q u s' :=
    fun {σ' H' v u} J rv q => ⟨v, H', J.os, J.bare, J.base, J.hok, rv, q⟩
  cases fl with
  | ret u =>
    obtain ⟨v, σ', H', J, rv, q⟩ := hs
    exact fin J rv q
  | next =>
    obtain ⟨σ', H', J, q⟩ := hs
    exact fin (v := V.non) (u := Value.none) J rfl q
  | brk =>
    obtain ⟨_, _, _, q⟩ := hs
    exact False.elim q
  | cont =>
    obtain ⟨_, _, _, q⟩ := hs
    exact False.elim q
end
end DL

namespace DL
open PySem L2 PySem.Spec PyProof.Rows
/-! ### the texts of the errors -/
def GivesT (te : TE) (σ : L2.St) (H : Hp) : Prop := ∀ Q : VK, (∀ y : Str, Q (.str y) H) → te σ H Q
def GivesS (te : TE) (σ : L2.St) (H : Hp) : Prop := ∀ Q : VK, (∀ y : Str, y.length ≤ 20000 → Q (.str y) H) → te σ H Q
theorem gs_c {σ : L2.St} {H : Hp} {x : Str} (h : x.length ≤ 20000) : GivesS (tC (.str x)) σ H := fun Q k => k x h
def ArgOk : V → Prop
  | .int i => i.natAbs.log2 < 1920
  | .str x => x.length ≤ 20000
  | _ => False
theorem gs_fmt {σ : L2.St} {H : Hp} {i : Nat} {v : V} (h : σ[i]? = some (some v)) (a : ArgOk v) : GivesS (tFmt (tVar i)) σ H := fun Q k => by
  refine ⟨v, h, ?_⟩
  cases v with
  | int n => exact .inr ⟨n, rfl, a, k _ (by
      have e := int_text_length_le (k := 1920) (by decide) (show n.natAbs.log2 < 1920 from a)
      show (Str.ofString (toString n)).length ≤ 20000
      rw [PySem.ofString_length]
      omega)⟩
  | str x => exact .inl ⟨x, rfl, by rw [sizeLine_eq]; have : x.length ≤ 20000 := a; omega, k x a⟩
  | non => exact a.elim
  | bl _ => exact a.elim
  | byt _ => exact a.elim
  | flt _ => exact a.elim
  | ref _ => exact a.elim
  | ty _ => exact a.elim
theorem js_ok {σ : L2.St} {H : Hp} : ∀ {ts : List TE} {acc : Str} {Q : Str → Hp → Prop}, (∀ t ∈ ts, GivesS t σ H) → acc.length + ts.length * 20000 ≤ 16777216 → (∀ out, Q out H) → tJs ts acc σ H Q
  | [], acc, Q, _, _, k => k acc
  | t :: ts, acc, Q, h, hz, k => h t List.mem_cons_self _ fun y hy => ⟨y, rfl, by
      rw [Str.length_append, sizeLine_eq]
      simp only [List.length_cons] at hz
      omega, js_ok (fun t' ht => h t' (List.mem_cons_of_mem _ ht)) (by
      rw [Str.length_append]
      simp only [List.length_cons] at hz
      omega) k⟩
/-- what the __init__ of the class at C promises, its fields fs set from its arguments in this order -/
def spX (C : Addr) (fs : List Str) : Sp := fun vs H Q E => ∃ (a : Addr) (ws : List V), vs = .ref a :: ws ∧ ws.length = fs.length ∧ (∀ v ∈ ws, ArgOk v) ∧ H a = some (exo a C none) ∧
  ∀ (d : Addr) (H' : Hp), H d = none → d ≠ a → (∀ b o, H b = some o → b ≠ a → H' b = some o) → H' a = some (exo a C (some d)) → H' d = some (exd d (fs.zip ws).reverse) → Q .non H'
section
variable {CX : CXT} {P : Program} {w : World} {K : PySem.W.Frag} {mg : Str → Option Value} {base : Heap} {qual : Str} {params : Arguments} {scope : Scope} {fd : FuncData}
def SuperEv (p0 p1 p2 p3 : Pos) (e : Expr) (env : Env) (pl : Sem Bool) : Prop := eval (.Call (.Attribute (.Call (.Name "super" p0) [] [] p1) "__init__" p2) [e] [] p3) env = (do
      let ov ← attributeBase (.Call (.Name "super" p0) [] [] p1) "__init__" env (eval (.Call (.Name "super" p0) [] [] p1) env)
      standAt p2.atName
      let (f, first) ← holding [ov] (getMethod ov "__init__" pl)
      callWith p3 f first (backTo p3 (starEach [e] env)) [])
/-- one argument, kept as the field f -/
theorem xi1 {f : Str} {p0 p1 p2 p3 p4 q1 q2 q3 q4 : Pos} {e : Expr} {te : TE} {ar : Arg} {C fI cc cda : Addr}
    (T : XInit P K mg C fI cc cda qual params [.Expr (.Call (.Attribute (.Call (.Name "super" p0) [] [] p1) "__init__" p2) [e] [] p3) p4, .Assign [.Attribute (.Name "self" q1) f q2] (.Name f q3) q4] scope fd)
    (Sc : NdefX.NScope ["self", f, "__class__"] ["self", f] ["__class__"] scope) (hp : (params.posonlyargs ++ params.args).head? = some ar) (har : ar.arg = "self") (hks : scope.names.lookup ("super" : Str) = some .globalImplicit)
    (hf : PySem.W.findIn K (.ref C) f = some none) (hdb : (f == ("__debug__" : Str)) = false) (hcd : (f == ("__classdict__" : Str)) = false)
    (hm : ∀ (A : Around) (outer : List Env) (s : Shared) (H : Hp) (E : XK), PE (NdefX.ncx CX P w K mg base ["self", f, "__class__"] (nfOf qual params [.Expr (.Call (.Attribute (.Call (.Name "super" p0) [] [] p1) "__init__" p2) [e] [] p3) p4, .Assign [.Attribute (.Name "self" q1) f q2] (.Name f q3) q4] scope cc cda) fI A outer s H E) e te)
    (hg : ∀ (σ : L2.St) (H : Hp) (v : V), σ[1]? = some (some v) → ArgOk v → GivesT te σ H) (hst : ∀ env : Env, starEach [e] env = (false, eval e env) :: starEach [] env := by intro _; rfl) {pl : Sem Bool} (hev : ∀ L : Addr, SuperEv p0 p1 p2 p3 e (NdefX.envF (nfOf qual params [.Expr (.Call (.Attribute (.Call (.Name "super" p0) [] [] p1) "__init__" p2) [e] [] p3) p4, .Assign [.Attribute (.Name "self" q1) f q2] (.Name f q3) q4] scope cc cda) fI L) pl := by intro _; rfl) : FnOk P w K mg base CX 1 fI fd ["self", f] (spX C [f]) := by
  refine xinit_ok (ar := ar) T Sc (fun vs H Q E h => ?_) hp (by rw [har]; rfl) (by rw [har]; exact Sc.par _ (by simp)) hks (fun A outer s H vs Q E hr h => ?_) hst (hev := hev)
  · obtain ⟨a, ws, rfl, h, _⟩ := h
    simp [h]
  · obtain ⟨a, ws, rfl, hl, ho, ha, k⟩ := h
    obtain ⟨v, rfl⟩ : ∃ v, ws = [v] := by
      match ws, hl with
      | [v], _ => exact ⟨v, rfl⟩
    refine ⟨_, _, a, pa_cons (hm A outer s H E) pa_nil (hst _), pss_one (ps_ost (pv 0 rfl (.inl (Sc.par "self" (by simp))) (by decide) (by decide)) (pv 1 rfl (.inl (Sc.par f (by simp))) hdb hcd)), rfl, ha, ?_⟩
    refine hg _ H v rfl (ho v (by simp)) _ fun y => ⟨ha, (by show 1 ≤ 1000; decide), ?_⟩
    refine ⟨v, rfl, .ref a, rfl, a, C, rfl, T.oex, hf, .inl ⟨ha, fun dx hdx hne => ?_⟩⟩
    refine k dx _ hdx hne (fun b o e hb => ?_) upd_same (by rw [upd_ne hne, upd_same]; rfl)
    rw [upd_ne hb, upd_ne (ne_of_none e hdx)]
    exact e
/-- two arguments -/
theorem xi2 {f f2 : Str} {p0 p1 p2 p3 p4 q1 q2 q3 q4 r1 r2 r3 r4 : Pos} {e : Expr} {te : TE} {ar : Arg} {C fI cc cda : Addr}
    (T : XInit P K mg C fI cc cda qual params [.Expr (.Call (.Attribute (.Call (.Name "super" p0) [] [] p1) "__init__" p2) [e] [] p3) p4, .Assign [.Attribute (.Name "self" q1) f q2] (.Name f q3) q4, .Assign [.Attribute (.Name "self" r1) f2 r2] (.Name f2 r3) r4] scope fd)
    (Sc : NdefX.NScope ["self", f, f2, "__class__"] ["self", f, f2] ["__class__"] scope) (hp : (params.posonlyargs ++ params.args).head? = some ar) (har : ar.arg = "self") (hks : scope.names.lookup ("super" : Str) = some .globalImplicit)
    (hf : PySem.W.findIn K (.ref C) f = some none) (hf2 : PySem.W.findIn K (.ref C) f2 = some none) (hdb : (f == ("__debug__" : Str)) = false) (hcd : (f == ("__classdict__" : Str)) = false) (hdb2 : (f2 == ("__debug__" : Str)) = false) (hcd2 : (f2 == ("__classdict__" : Str)) = false)
    (hm : ∀ (A : Around) (outer : List Env) (s : Shared) (H : Hp) (E : XK), PE (NdefX.ncx CX P w K mg base ["self", f, f2, "__class__"] (nfOf qual params [.Expr (.Call (.Attribute (.Call (.Name "super" p0) [] [] p1) "__init__" p2) [e] [] p3) p4, .Assign [.Attribute (.Name "self" q1) f q2] (.Name f q3) q4, .Assign [.Attribute (.Name "self" r1) f2 r2] (.Name f2 r3) r4] scope cc cda) fI A outer s H E) e te)
    (hg : ∀ (σ : L2.St) (H : Hp) (v v2 : V), σ[1]? = some (some v) → σ[2]? = some (some v2) → ArgOk v → ArgOk v2 → GivesT te σ H) (hst : ∀ env : Env, starEach [e] env = (false, eval e env) :: starEach [] env := by intro _; rfl) {pl : Sem Bool} (hev : ∀ L : Addr, SuperEv p0 p1 p2 p3 e (NdefX.envF (nfOf qual params [.Expr (.Call (.Attribute (.Call (.Name "super" p0) [] [] p1) "__init__" p2) [e] [] p3) p4, .Assign [.Attribute (.Name "self" q1) f q2] (.Name f q3) q4, .Assign [.Attribute (.Name "self" r1) f2 r2] (.Name f2 r3) r4] scope cc cda) fI L) pl := by intro _; rfl) : FnOk P w K mg base CX 1 fI fd ["self", f, f2] (spX C [f, f2]) := by
  refine xinit_ok (ar := ar) T Sc (fun vs H Q E h => ?_) hp (by rw [har]; rfl) (by rw [har]; exact Sc.par _ (by simp)) hks (fun A outer s H vs Q E hr h => ?_) hst (hev := hev)
  · obtain ⟨a, ws, rfl, h, _⟩ := h
    simp [h]
  · obtain ⟨a, ws, rfl, hl, ho, ha, k⟩ := h
    obtain ⟨v, v2, rfl⟩ : ∃ v v2, ws = [v, v2] := by
      match ws, hl with
      | [v, v2], _ => exact ⟨v, v2, rfl⟩
    refine ⟨_, _, a, pa_cons (hm A outer s H E) pa_nil (hst _), pss_cons (ps_ost (pv 0 rfl (.inl (Sc.par "self" (by simp))) (by decide) (by decide)) (pv 1 rfl (.inl (Sc.par f (by simp))) hdb hcd))
      (pss_one (ps_ost (pv 0 rfl (.inl (Sc.par "self" (by simp))) (by decide) (by decide)) (pv 2 rfl (.inl (Sc.par f2 (by simp))) hdb2 hcd2))), rfl, ha, ?_⟩
    refine hg _ H v v2 rfl rfl (ho v (by simp)) (ho v2 (by simp)) _ fun y => ⟨ha, (by show 1 ≤ 1000; decide), ?_⟩
    refine ⟨v, rfl, .ref a, rfl, a, C, rfl, T.oex, hf, .inl ⟨ha, fun dx hdx hne => ?_⟩⟩
    refine ⟨v2, rfl, .ref a, rfl, a, C, rfl, T.oex, hf2, .inr ⟨dx, _, upd_same, by rw [upd_ne hne, upd_same], (by show 1 ≤ 900; decide), ?_⟩⟩
    refine k dx _ hdx hne (fun b o e hb => ?_) (by rw [upd_ne (Ne.symm hne), upd_same]) (by rw [upd_same]; rfl)
    rw [upd_ne (ne_of_none e hdx), upd_ne hb, upd_ne (ne_of_none e hdx)]
    exact e
end
/-- the class x at C, to be raised -/
structure XCal (P : Program) (w : World) (K : PySem.W.Frag) (mg : Str → Option Value) (base : Heap) (x : Str) (C : Addr) (fs : List Str) : Prop where
  ex : ∃ fI fd, mg x = some (.ref C) ∧ OexC K C ∧ PySem.W.findIn K (.ref C) "__init__" = some (some (.ref fI)) ∧ PySem.W.typeIn K (.ref fI) = some (.type "function") ∧ Binds K fd ("self" :: fs) [] ∧ FnOk P w K mg base CX0 1 fI fd ("self" :: fs) (spX C fs)
theorem pmk_x {X : Cx} {x : Str} {C : Addr} {fs : List Str} {j : Nat} {p pos : Pos} {e : Expr} {es : List Expr} {ta : TA} (c : XCal X.prog X.w X.K X.mg X.base x C fs) (hr : Room j X.A) (hk : 2 ≤ j) (ha : PA X (e :: es) ta) (hg : Gl X x := by rfl)
    (hdb : (x == ("__debug__" : Str)) = false := by decide) (he : starEach (e :: es) X.env = (false, eval e X.env) :: starEach es X.env := by rfl) (hpl : (backTo pos (starEach es X.env)).any (·.1) = false := by rfl) :
    PMk X (.Call (.Name x p) (e :: es) [] pos) (tMkO C (spX C fs) [] ta) := by
  obtain ⟨fI, fd, h1, h2, h3, h4, h5, h6⟩ := c.ex
  exact pmk_oex h2 h3 h4 h6 (hr.mono hk) h5 .nil pass0 hg h1 ha hdb he hpl
variable {G : Ct}
theorem Cfg.ext {W F H H' : Hp} {σ : L2.St} {es : Es} (c : Cfg G W F H σ es) (s : Same H H') : Cfg G W F H' σ es := by
  obtain ⟨ms, c⟩ := c
  exact ⟨ms, ⟨c.at_, c.dm, c.dF, c.dW, c.dFW, c.sW.trans s, c.sF.trans s, fun i => (c.sm i).trans s, c.tab.ext s, c.nt, c.len⟩⟩
/-- data that an error's text shows -/
def DOk : D → Prop
  | .int i => i.natAbs.log2 < 1920
  | .str x => x.length ≤ 20000
  | _ => False
theorem argOk_of {W : Hp} : ∀ {d : D} {v : V}, DOk d → Is G W d v → ArgOk v
  | .int i, v, h, hv => by rw [is_int] at hv; subst hv; exact h
  | .str i, v, h, hv => by rw [is_str] at hv; subst hv; exact h
  | .non, _, h, _ => h.elim
  | .bl _, _, h, _ => h.elim
  | .lst _, _, h, _ => h.elim
  | .tup _, _, h, _ => h.elim
  | .ins _ _ _, _, h, _ => h.elim
  | .raw _, _, h, _ => h.elim
  | .rol _, _, h, _ => h.elim
  | .ty _, _, h, _ => h.elim
  | .err _ _ _ _, _, h, _ => h.elim
/-- raise C(..) -/
theorem s_raise {E : XK} {P : Po} {C : Addr} {fs : List Str} {tas : TA} {es es1 : Es} {ds : List D} (h : EA G tas es ds es1) (hn : ds.length = fs.length) (ho : ∀ d ∈ ds, DOk d) (hz : fs.length ≤ 100) (k : P.ex C fs.reverse ds.reverse es1) :
    S G E (fun _ σ H => tMkO C (spX C fs) [] tas σ H fun cls d H' => (fun cls d (_ : L2.St) H => E cls d H) cls d σ H') es P := fun W F H σ D c p => h W F H σ _ c fun vs W1 H1 s1 c1 i1 => by
  refine ⟨by rw [← i1.len]; omega, fun a ha => ?_⟩
  rw [List.append_nil]
  refine ⟨a, vs, rfl, by rw [← i1.len]; exact hn, fun v hv => ?_, upd_same, fun d H' hd hne hk ha' hd' => ⟨rfl, d, _, ha', hd', ?_, ?_⟩⟩
  · obtain ⟨i, hi⟩ := List.mem_iff_getElem?.mp hv
    obtain ⟨dd, e1, e2⟩ := i1.getV hi
    exact argOk_of (ho dd (List.mem_of_getElem? e1)) e2
  · rw [upd_ne hne] at hd
    exact hd
  · have hd1 : H1 d = none := by rw [upd_ne hne] at hd; exact hd
    have s2 : Same H1 (upd (L2.del H' a) d (.xd (fs.zip vs).reverse)) := fun b o e => by
      have n1 : b ≠ a := ne_of_none e ha
      rw [upd_ne (ne_of_none e hd1), del_ne n1]
      exact hk b o (by rw [upd_ne n1]; exact e) n1
    have s3 : Same (upd H1 d (.xd (fs.zip vs).reverse)) (upd (L2.del H' a) d (.xd (fs.zip vs).reverse)) := fun b o e => by
      by_cases hb : b = d
      · subst hb; rw [upd_same] at e ⊢; exact e
      · rw [upd_ne hb] at e; exact s2 b o e
    obtain ⟨c2, s4⟩ := c1.allocW (o := .xd (fs.zip vs).reverse) hd1
    refine p.ex C _ _ es1 d vs.reverse _ _ σ k (s1.trans s4) (c2.ext s3) (i1.mono s4).reverse ?_
    rw [upd_same]
    have e : (fs.zip vs).reverse = fs.reverse.zip vs.reverse := by
      have hl : fs.length = vs.length := by rw [← hn, i1.len]
      rw [List.zip_eq_zipWith, List.zip_eq_zipWith, List.reverse_zipWith hl]
    rw [e]
end DL

namespace DL
open PySem L2 PySem.Spec PyProof.Rows
/-! ### is True, is False -/
def rIsC : R2 := fun x y H Q => ∃ b : Bool, y = .bl b ∧ Q (.bl (decide (x = .bl b))) H
theorem op_isCA {X : Cx} : OpR X (compareOp .Is) rIsC := by
  intro pins s σ H x y v u Q I rx ry h
  obtain ⟨b, rfl, q⟩ := h
  cases (show u = Value.bool b from ry)
  cases x with
  | bl a =>
    cases (show v = Value.bool a from rx)
    by_cases e : a = b
    · subst e
      exact wpAny_is_self rfl ⟨.bl true, H, I, rfl, by simpa using q⟩
    · exact wpAny_is_other rfl (fun z => e (Value.bool.inj z)) ⟨.bl false, H, I, rfl, by simpa [e] using q⟩
  | non => cases rx; exact wpAny_is_other rfl (fun z => by cases z) ⟨.bl false, H, I, rfl, by simpa using q⟩
  | int i => obtain ⟨t, rfl⟩ := rx; exact wpAny_is_other rfl (fun z => by cases z) ⟨.bl false, H, I, rfl, by simpa using q⟩
  | str i => obtain ⟨t, rfl⟩ := rx; exact wpAny_is_other rfl (fun z => by cases z) ⟨.bl false, H, I, rfl, by simpa using q⟩
  | byt i => obtain ⟨t, rfl⟩ := rx; exact wpAny_is_other rfl (fun z => by cases z) ⟨.bl false, H, I, rfl, by simpa using q⟩
  | flt i => obtain ⟨t, rfl⟩ := rx; exact wpAny_is_other rfl (fun z => by cases z) ⟨.bl false, H, I, rfl, by simpa using q⟩
  | ref i => cases rx; exact wpAny_is_other rfl (fun z => by cases z) ⟨.bl false, H, I, rfl, by simpa using q⟩
  | ty i => cases rx; exact wpAny_is_other rfl (fun z => by cases z) ⟨.bl false, H, I, rfl, by simpa using q⟩
/-! ### own == and != -/
theorem looks_ty {X : Cx} {pins : List (Addr × Obj)} {σ : L2.St} {H : Hp} {s : Shared} {x : V} {u t : Value} (I : Inv X pins σ H s) (rx : RelV x u) (ty : TyOf X.K H x t) (M : Model) : PySem.W.Looks M s.heap (typeOf u) t := by
  have ref : ∀ {a : Addr} {o : Obj}, s.heap.get? a = some o → PySem.W.Looks M s.heap (typeOf (.ref a)) o.cls := fun {a o} ho A Q E s' k q => wpAny_typeOf_ref (k _ _ ho) q
  cases ty with
  | non => cases (show u = Value.none from rx); exact PySem.W.Looks.of_pure rfl
  | bl y => cases (show u = Value.bool y from rx); exact PySem.W.Looks.of_pure rfl
  | int i => obtain ⟨t, q⟩ := (show ∃ t, u = Value.int i t from rx); cases q; exact PySem.W.Looks.of_pure rfl
  | str i => obtain ⟨t, q⟩ := (show ∃ t, u = Value.str i t from rx); cases q; exact PySem.W.Looks.of_pure rfl
  | flt i => obtain ⟨t, q⟩ := (show ∃ t, u = Value.float i t from rx); cases q; exact PySem.W.Looks.of_pure rfl
  | @lst a xs ea =>
    cases (show u = Value.ref a from rx)
    obtain ⟨_, _, n, _, h1⟩ := (show ObjOk X.prog X.w H s.heap a (.lst xs) from I.hok a _ ea)
    exact ref h1
  | @frz a ob xs ea =>
    cases (show u = Value.ref a from rx)
    obtain ⟨_, _, _, n, _, h1⟩ := (show ObjOk X.prog X.w H s.heap a (.frz ob (.lst xs)) from I.hok a _ ea)
    exact ref h1
  | @tup a xs ea =>
    cases (show u = Value.ref a from rx)
    obtain ⟨_, _, _, p⟩ := (show ObjOk X.prog X.w H s.heap a (.tup xs) from I.hok a _ ea)
    obtain ⟨o, h1, h2, _⟩ := p
    rw [← h2]
    exact ref h1
  | @dK a kvs ea =>
    cases (show u = Value.ref a from rx)
    obtain ⟨_, _, vs, _, p⟩ := (show ObjOk X.prog X.w H s.heap a (.dK kvs) from I.hok a _ ea)
    obtain ⟨o, es, ep, h1, h2, _⟩ := p
    rw [← h2.1]
    exact ref h1
  | @dT a kvs ea =>
    cases (show u = Value.ref a from rx)
    obtain ⟨_, _, xs, _, o, es, ep, h1, h2, _⟩ := (show ObjOk X.prog X.w H s.heap a (.dT kvs) from I.hok a _ ea)
    rw [← h2.1]
    exact ref h1
  | @ins a C dx fs ea cl ha hn htk hm =>
    cases (show u = Value.ref a from rx)
    obtain ⟨mA, O, _⟩ := ins_get I.hok ea
    obtain ⟨od, J, _⟩ := O.look
    exact J.type
theorem looks_tyX {X : Cx} {pins : List (Addr × Obj)} {σ : L2.St} {H : Hp} {s : Shared} {x : V} {u t : Value} (I : Inv X pins σ H s) (rx : RelV x u) (ty : TyX X.K H x t) (M : Model) : PySem.W.Looks M s.heap (typeOf u) t := by
  obtain ⟨P, Z, p, _⟩ := kit_of I rx ty
  exact Z.ty M s.heap I.kIn p
/-- the class C has its own == at f -/
structure OwnEq (K : PySem.W.Frag) (C f : Addr) : Prop where
  eq : PySem.W.findIn K (.ref C) "__eq__" = some (some (.ref f))
  ne : PySem.W.findIn K (.ref C) "__ne__" = some (some (.builtin "object.__ne__"))
  fn : PySem.W.isFn K (.ref f) = true
  ob : PySem.W.mroIn K C (.type "object") = some true
def rOEq (K : PySem.W.Frag) (C : Addr) (sp : Sp) (E : XK) (neg : Bool) : R2 := fun x y H Q => ∃ a dx fs t, x = .ref a ∧ H a = some (.ins C dx fs) ∧ TyX K H y t ∧ PySem.W.notFirst K C t = true ∧ sp [x, y] H (fun v H' => ∃ b : Bool, v = .bl b ∧ Q (.bl (if neg then !b else b)) H') E
section
variable {X : Cx} {CX : CXT} {n j : Nat} {C f : Addr} {fd : FuncData} {ps : List Str} {sp : Sp} {E : XK}
theorem run_at {A : Around} {pins : List (Addr × Obj)} {σ : L2.St} {H : Hp} {s : Shared} {us : List Value} {vs : List V} {Q : VK} {Q' : Value → Shared → Prop} (F : FnOk X.prog X.w X.K X.mg X.base CX n f fd ps sp) (hb : Binds X.K fd ps []) (hx : Passes CX X E) (hr : Room n A) (hf : A.frames = X.A.frames)
    (I : Inv X pins σ H s) (r : Vals vs us) (h : sp vs H Q E) (k : ∀ v s', EP X pins σ Q v s' → Q' v s') : wpAny (model X.prog X.w) A (call (.ref f) us) Q' X.xe s := by
  have e0 : Env0 X.prog X.w X.K X.mg X.base A X.stack s H := by
    have e := I.env0
    exact ⟨by rw [hf]; exact e.frames, e.mod, e.bs, e.bsz, e.funs, e.frf, e.hok, e.bare⟩
  have hl := F.len _ _ _ _ h
  refine wpAny_call (codeAny_mono (F.run A X.stack s H ⟨us, []⟩ us vs _ E hr e0 (by
    have := hb s us I.kIn (by rw [List.append_nil, ← r.length]; exact hl)
    simpa using this) r h) fun res s' hq => ?_)
  cases res with
  | error e => exact hx pins σ H s e s' I hq
  | ok fl =>
    cases fl with
    | ret w => exact k w s' (I.after hq)
    | next => exact False.elim hq
    | brk => exact False.elim hq
    | cont => exact False.elim hq
theorem op_eqO (o : OwnEq X.K C f) (F : FnOk X.prog X.w X.K X.mg X.base CX n f fd ps sp) (hb : Binds X.K fd ps []) (hx : Passes CX X E) (hr : Room j X.A) (hk : n ≤ j) : OpR X (compareOp .Eq) (rOEq X.K C sp E false) := by
  intro pins s σ H x y v u Q I rx ry h
  obtain ⟨a, dx, fs, t, rfl, ha, ty, nf, hsp⟩ := h
  obtain rfl : v = Value.ref a := rx
  obtain ⟨mA, J, _⟩ := ins_get I.hok ha
  obtain ⟨od, J, _⟩ := J.look
  obtain ⟨m, hF⟩ := I.fr
  show wpAny (model X.prog X.w) X.A (richCompare .Eq (.ref a) u) (EP X pins σ Q) X.xe s
  refine PySem.W.cmp_K (op := .Eq) (tb := t) hr.units0 hF I.ok.mod.kin J (looks_tyX I ry ty _) nf o.eq o.fn ?_
  refine run_at F hb hx (hr.mono hk) rfl I (.cons (show L2.RelV (.ref a) (Value.ref a) from rfl) (.cons ry .nil)) hsp fun w s' ⟨z, H', I', rz, b, ez, q⟩ => ?_
  subst ez
  cases rz
  exact ⟨.bl b, H', I', rfl, q⟩
theorem op_neO (o : OwnEq X.K C f) (F : FnOk X.prog X.w X.K X.mg X.base CX n f fd ps sp) (hb : Binds X.K fd ps []) (hx : Passes CX X E) (hr : Room (j + 1) X.A) (hk : n ≤ j) : OpR X (compareOp .NotEq) (rOEq X.K C sp E true) := by
  intro pins s σ H x y v u Q I rx ry h
  obtain ⟨a, dx, fs, t, rfl, ha, ty, nf, hsp⟩ := h
  obtain rfl : v = Value.ref a := rx
  obtain ⟨mA, J, _⟩ := ins_get I.hok ha
  obtain ⟨od, J, _⟩ := J.look
  have XK : X.K.In s.heap := I.kIn
  have hc : ∀ {Q' : Value → Shared → Prop}, (∀ b s', EP X pins σ Q (.bool (!b)) s' → Q' (.bool b) s') → wpAny (model X.prog X.w) X.A.in1 (call (.ref f) [.ref a, u]) Q' X.xe s := fun {Q'} kk => by
    refine run_at F hb hx (hr.in1.mono hk) rfl I (.cons (show L2.RelV (.ref a) (Value.ref a) from rfl) (.cons ry .nil)) hsp fun w s' ⟨z, H', I', rz, b, ez, q⟩ => ?_
    subst ez
    cases rz
    exact kk b s' ⟨.bl (!b), H', I', rfl, q⟩
  have entry : ∀ {Q' : Fin → Shared → Prop}, (∀ b s', EP X pins σ Q (.bool (!b)) s' → Q' (.done (.ret (.bool (!b)))) s') → wpAny (model X.prog X.w) X.A.in1 (Builtin.«object.__ne__» ⟨[.ref a, u], []⟩) Q' X.xe s := fun {Q'} kk => by
    unfold Builtin.«object.__ne__»
    repeat (first
      | with_reducible refine wpAny_cRoomFor hr.in1.units0 ?_
      | (refine wpAny_bind (m := callSpecialIfBound? (.ref a) (Str.ofString "__eq__") [u])
          (PySem.W.ifBound_K XK J o.eq o.fn (hc fun b s' hq => by
            have hq := kk b s' hq
            repeat (first | exact hq | exact wpAny_pure hq | exact wpAny_truthy_bool hq | (refine wpAny_bind (m := truthy (.bool _)) (wpAny_truthy_bool ?_)) | wp_step))))
      | wp_step)
  have one : wpAny (model X.prog X.w) X.A (tryCompare (.ref a) "__ne__" u) (fun r s' => ∃ b, r = some (.bool (!b)) ∧ EP X pins σ Q (.bool (!b)) s') X.xe s := by
    unfold tryCompare
    have call_ne : wpAny (model X.prog X.w) X.A (call (.builtin "object.__ne__") [.ref a, u]) (fun v s' => ∃ b, v = .bool (!b) ∧ EP X pins σ Q (.bool (!b)) s') X.xe s :=
      wpAny_call (codeAny_call_builtin PySem.F.cmp_object.ne.plain PySem.F.cmpEntry_ne (PySem.W.check_slot PySem.F.cmpKind_ne PySem.F.cmpSplit_ne (J.type.andThen (PySem.W.looks_mroIn XK o.ob)) (PySem.F.cmpArgs_ne _ _) (entry fun b s' q => ⟨b, rfl, q⟩)))
    have bound : ∀ {Q' : Option Value → Shared → Prop}, (∀ v s', (∃ b, v = .bool (!b) ∧ EP X pins σ Q (.bool (!b)) s') → Q' (some v) s') → wpAny (model X.prog X.w) X.A (callSpecialIfBound? (.ref a) "__ne__" [u]) Q' X.xe s := fun {Q'} kk => by
      simp only [callSpecialIfBound?, bindSpecialIfBound?]
      refine wpAny_holding (wpAny_bind (wpAny_bind (wpAny_bind (J.type.here ((PySem.W.looks_findIn XK o.ne).here ?_)))))
      refine wpAny_bind (wpAny_askSetting (wpAny_ite ?_))
      have fin : wpAny (model X.prog X.w) X.A (call (.builtin "object.__ne__") ([.ref a] ++ [u]) >>= fun v => pure (some v)) Q' X.xe s := wpAny_bind (wpAny_mono call_ne (fun v s' h' => wpAny_pure (kk v s' h')) fun _ _ h' => h')
      split
      · exact wpAny_bind (wpAny_of_eq (PySem.F.cmp_object.ne.bind _) (wpAny_pure (by exact fin)))
      · exact wpAny_tryCatch (wpAny_bind (wpAny_of_eq (PySem.F.cmp_object.ne.bind _) (wpAny_pure (by exact fin))))
    refine wpAny_bind (bound fun v s' ⟨b, ev, q⟩ => ?_)
    subst ev
    first
      | exact wpAny_pure ⟨b, rfl, q⟩
      | exact wpAny_pure (wpAny_pure ⟨b, rfl, q⟩)
  show wpAny (model X.prog X.w) X.A (richCompare .NotEq (.ref a) u) (EP X pins σ Q) X.xe s
  unfold richCompare
  simp only [oneThing_ref]
  refine wpAny_holding (wpAny_bind (wpAny_cRoomFor hr.units0 ?_))
  rw [cmpInfo_NotEq]
  dsimp only
  refine wpAny_bind (J.type.here (wpAny_bind ((looks_tyX I ry ty _).here ?_)))
  split
  · rename_i q
    have e : PySem.W.subIn X.K t (.ref C) = some false := by
      rcases Bool.or_eq_true_iff.mp nf with e | e
      · rw [beq_iff_eq.mp e] at q; simp at q
      · exact beq_iff_eq.mp e
    refine wpAny_bind ((PySem.W.looks_subIn XK e).here ?_)
    simp only [Bool.false_eq_true, if_false]
    refine wpAny_bind (wpAny_mono one (fun r s' z => ?_) fun _ _ e => e)
    obtain ⟨b, rfl, hq⟩ := z
    exact wpAny_pure hq
  · refine wpAny_bind (wpAny_pure ?_)
    simp only [Bool.false_eq_true, if_false]
    refine wpAny_bind (wpAny_mono one (fun r s' z => ?_) fun _ _ e => e)
    obtain ⟨b, rfl, hq⟩ := z
    exact wpAny_pure hq
/-- len of an instance that has a __len__ -/
def rOLen (C : Addr) (sp : Sp) (E : XK) : List V → Hp → VK → Prop := fun xs H Q => ∃ a dx fs, xs = [.ref a] ∧ H a = some (.ins C dx fs) ∧ sp [.ref a] H (fun v H' => ∃ m : Int, v = .int m ∧ (0 ≤ m ∧ m < 2 ^ 62) ∧ Q (.int m) H') E
theorem call_lenO (hs : PySem.W.findIn X.K (.ref C) "__len__" = some (some (.ref f))) (hf : PySem.W.isFn X.K (.ref f) = true) (F : FnOk X.prog X.w X.K X.mg X.base CX n f fd ps sp) (hb : Binds X.K fd ps []) (hx : Passes CX X E) (hr : Room (j + 1) X.A) (hk : n ≤ j) :
    CallR X (.builtin "len") (rOLen C sp E) := by
  intro pins s σ H vs us Q I r h
  obtain ⟨a, dx, fs, rfl, ha, hsp⟩ := h
  obtain ⟨u, rfl, ru⟩ := vals1 r
  obtain rfl : u = Value.ref a := ru
  obtain ⟨mA, J, _⟩ := ins_get I.hok ha
  obtain ⟨od, J, _⟩ := J.look
  obtain ⟨m, hF⟩ := I.fr
  refine PySem.W.len_K hF I.ok.mod.kin J hs hf (run_at F hb hx (hr.in1.mono hk) rfl I (.cons (show L2.RelV (.ref a) (Value.ref a) from rfl) .nil) hsp fun w s' ⟨z, H', I', rz, m, ez, hm, q⟩ => ?_)
  subst ez
  obtain ⟨t, rfl⟩ := rz
  refine ⟨?_, ?_⟩
  · exact ⟨hm.1, by omega⟩
  · first
      | exact ⟨.int m, H', I'.tok _, ⟨_, rfl⟩, q⟩
      | exact ⟨.int m, H', I', ⟨_, rfl⟩, q⟩
end
end DL

namespace DL
open PySem L2 PySem.Spec PyProof.Rows
/-! ### try with several clauses, each with a name or without -/
def inS (i : Option Nat) (a : Addr) (σ : L2.St) : L2.St := match i with
  | none => σ
  | some j => σ.set j (some (.ref a))
def outE (i : Option Nat) (D : Ends) : Ends := match i with
  | none => D
  | some j => { nx := fun τ T => D.nx (τ.set j none) T, rt := D.rt, bk := fun τ T => D.bk (τ.set j none) T, ct := fun τ T => D.ct (τ.set j none) T }
abbrev Clause := Option Nat × Value × (Addr → Value → Option Addr → TS)
def wCl (K : PySem.W.Frag) (Wo : WX) (D : Ends) : List Clause → WX
  | [] => Wo
  | q :: r => fun cls d σ H => ∃ b, PySem.W.exmOne K cls q.2.1 = some b ∧ (b = true → ∀ a, H a = none → q.2.2 a cls d (outE q.1 D) (inS q.1 a σ) H) ∧ (b = false → wCl K Wo D r cls d σ H)
inductive ClOk (X : Cx) : List ExceptHandler → List Clause → Prop
  | nil : ClOk X [] []
  | bare {x : Str} {c : Value} {t : Addr → Value → Option Addr → TS} {s0 : Stmt} {ss : List Stmt} {p1 p2 : Pos} {es : List ExceptHandler} {l : List Clause} (hc : Names X x c)
      (hsu : ∀ (a : Addr) (oe : Obj) (cls : Value) (d : Option Addr) (pn : List (Addr × Obj)), Zc cls d oe → (∃ vs, oe.data = .fields vs) → PSs (X.suite a ((a, oe) :: pn)) (s0 :: ss) (t a cls d)) (r : ClOk X es l) : ClOk X (.ExceptHandler (some (.Name x p1)) none (s0 :: ss) p2 :: es) ((none, c, t) :: l)
  | named {x n : Str} {i : Nat} {c : Value} {t : Addr → Value → Option Addr → TS} {s0 : Stmt} {ss : List Stmt} {p1 p2 : Pos} {es : List ExceptHandler} {l : List Clause} (hi : X.N[i]? = some n) (hn : X.env.kindOf n = some .local) (hc : Names X x c)
      (hsu : ∀ (a : Addr) (oe : Obj) (cls : Value) (d : Option Addr) (pn : List (Addr × Obj)), Zc cls d oe → (∃ vs, oe.data = .fields vs) → PSs (X.suite a ((a, oe) :: pn)) (s0 :: ss) (t a cls d)) (r : ClOk X es l) : ClOk X (.ExceptHandler (some (.Name x p1)) (some n) (s0 :: ss) p2 :: es) ((some i, c, t) :: l)
section
variable {X : Cx} {bd : List Stmt} {e0 : ExceptHandler} {es : List ExceptHandler} {l : List Clause} {pos : Pos} {tb : WX → TS} {Wo : WX}
theorem ps_tryC (st : X.stack = X.env :: X.outer) (fl : X.env.frame = some X.env.locals) (nd : X.N.Nodup) (tk : Takes X Wo)
    (hb : ∀ (W : WX) (pn : List (Addr × Obj)) (xe : Value → Shared → Prop), Takes (X.tr pn xe) W → PassesOwn (model X.prog X.w) X.A X.env xe → PSs (X.tr pn xe) bd (tb W))
    (hh : ClOk X (e0 :: es) l) : PS X (.Try bd (e0 :: es) [] [] pos) (fun D σ H => tb (wCl X.K Wo D l) D σ H) := by
  refine ⟨fun pins s σ H D I h => ?_⟩
  have kk := I.ok
  have fz : X.A.frames = some (X.env :: X.outer) := by rw [kk.frames, st]
  refine wpAny_Try_except (wpAny_mono ((hb (wCl X.K Wo D l) (X.pn ++ pins) (fun e z1 => wpAny (model X.prog X.w) X.A (noteFrame e X.env) (fun _ z2 => wpAny (model X.prog X.w) X.A (setFlight e none) (fun _ z3 =>
    wpAny (model X.prog X.w) X.A (handleBy e X.env (e0 :: es)) (SP X pins D) X.xe z3) X.xe z2) X.xe z1) (fun u t xx => ?_) PassesOwn.looking).run [] s σ H D (I.toTry _) h) (fun f t1 hsp => ?_) (fun e t1 he => he))
  · obtain ⟨a, B, sI, pi, τ, T, cls, d, rfl, J', nb, up, sky, na, os, ag, w⟩ := xx
    have J : Inv X pins τ T sI := J'.ofTry kk
    have sk : Sky B (X.env :: X.outer) a (Zc cls d) X.env.locals t.heap := by rw [← st]; exact sky
    show wpAny _ X.A (noteFrame (.ref a) X.env) _ _ _
    refine Sky.land Zc.steady fz fl sk fun h3 f3 up3 => ?_
    have J3 : Inv X pins τ T { t with heap := h3 } := J.landed nb f3.1 (up.trans up3) os ag
    obtain ⟨o3, v3, he3, hz3, hd3⟩ := f3.there
    have nfr : a ∉ L2.frs (X.env :: X.outer) := fun hm => by
      obtain ⟨_, o', e', hnf⟩ := f3.2.2.1.mem hm
      rw [he3] at e'
      cases e'
      exact hnf _ hd3
    have nL : a ≠ X.env.locals := fun z => nfr (List.mem_filterMap.mpr ⟨X.env, List.mem_cons_self, by rw [fl, z]⟩)
    have nF : a ∉ X.fs := fun hm => by
      obtain ⟨e, he, q⟩ := List.mem_filterMap.mp hm
      exact nfr (List.mem_filterMap.mpr ⟨e, List.mem_cons_of_mem _ he, q⟩)
    have S3 := J3.suite he3 hd3 na nL nF
    have LT : PySem.W.Looks (model X.prog X.w) h3 (typeOf (.ref a)) cls := fun A Q E z k q => wpAny_typeOf_ref (k _ _ he3) (by rw [hz3.1]; exact q)
    have nameOf : ∀ {x : Str} {c : Value} {np : Pos} {Q E : Value → Shared → Prop}, Names X x c → Q c { t with heap := h3 } → wpAny (model X.prog X.w) (X.A.mark (some (.ref a))) (eval (.Name x np) X.env) Q E { t with heap := h3 } := fun {x c np Q E} hc q => by
      obtain ⟨hg, hdb, hm | ⟨hm, hv, hnn⟩⟩ := hc
      · exact ld_glob (X := X.suite a ((a, o3) :: (X.pn ++ pins))) S3 hg hm q hdb
      · exact ld_blt (X := X.suite a ((a, o3) :: (X.pn ++ pins))) S3 hg hm hv q hnn hdb
    have go : ∀ {es' : List ExceptHandler} {l' : List Clause}, ClOk X es' l' → wCl X.K Wo D l' cls d τ T →
        wpAny (model X.prog X.w) X.A (handleBy (.ref a) X.env es') (SP X pins D) X.xe { t with heap := h3 } := by
      intro es' l' hk
      induction hk with
      | nil =>
        intro w
        refine wpAny_handleBy_nil ?_
        obtain ⟨k1, k2, k3, oe, vs, T', oT, ts', he, hz, hd, h1, hr⟩ := id f3
        unfold PySem.passOn
        refine wpAny_bind (wpAny_field he hd h1 ?_)
        rw [if_neg (show ¬ ((Value.ref T' == Value.none) = true) by simp)]
        have fin : wpAny (model X.prog X.w) X.A (setFlight (.ref a) X.env.frame) (fun _ z4 => wpAny (model X.prog X.w) X.A (throw (.ref a) : Sem Flow) (SP X pins D) X.xe z4) X.xe { t with heap := h3 } := by
          rw [fl]
          refine HandSPX.setFlight_upZ f3 fun h4 hh4 up4 => wpAny_throw (tk _ _ ?_)
          exact ⟨a, B, sI, pins, τ, T, cls, d, rfl, J, nb, (up.trans up3).trans up4, .inr (.inr (by rw [st]; exact hh4)), na, os, ag, w⟩
        first
          | exact wpAny_bind (wpAny_pure (wpAny_bind fin))
          | exact wpAny_bind fin
      | @bare x c ts s0 ss p1 p2 es2 l2 hc hsu r ih =>
        intro w
        obtain ⟨b, hb1, hyes, hno⟩ := w
        refine wpAny_handleBy_cons (codeAny_handlers_test ?_) (by intro q; cases q)
        refine nameOf hc ((PySem.W.exm_one (M := model X.prog X.w) J3.kIn LT hb1).here ?_)
        cases b with
        | true =>
          refine codeAny_handlers_suite (HandSPX.lands_againZ f3 fun h4 f4 up4 => ?_)
          have J4 : Inv X pins τ T { t with heap := h4 } := J.landed nb f4.1 ((up.trans up3).trans up4) os ag
          obtain ⟨o4, v4, he4, hz4, hd4⟩ := f4.there
          refine wpAny_mono ((hsu a o4 cls d (X.pn ++ pins) hz4 ⟨_, hd4⟩).run [] _ _ T _ (J4.suite he4 hd4 na nL nF) (hyes rfl a na)) (fun f z6 hsp => ?_) (fun _ _ z => False.elim z)
          cases f with
          | next => obtain ⟨σ6, H6, S6, q6⟩ := hsp; exact ⟨_, _, S6.unsuite kk, q6⟩
          | brk => obtain ⟨σ6, H6, S6, q6⟩ := hsp; exact ⟨_, _, S6.unsuite kk, q6⟩
          | cont => obtain ⟨σ6, H6, S6, q6⟩ := hsp; exact ⟨_, _, S6.unsuite kk, q6⟩
          | ret u => obtain ⟨v6, σ6, H6, S6, r6, q6⟩ := hsp; exact ⟨_, _, _, S6.unsuite kk, r6, q6⟩
        | false =>
          show wpAny _ X.A (handleBy (.ref a) X.env es2) _ _ _
          exact ih (hno rfl)
      | @named x n i c ts s0 ss p1 p2 es2 l2 hi hln hc hsu r ih =>
        intro w
        obtain ⟨b, hb1, hyes, hno⟩ := w
        refine wpAny_handleBy_cons (codeAny_handlers_test ?_) (by intro q; cases q)
        refine nameOf hc ((PySem.W.exm_one (M := model X.prog X.w) J3.kIn LT hb1).here ?_)
        cases b with
        | true =>
          refine codeAny_handlers_suite_as (HandSPX.lands_againZ f3 fun h4 f4 up4 => ?_)
          have J4 : Inv X pins τ T { t with heap := h4 } := J.landed nb f4.1 ((up.trans up3).trans up4) os ag
          obtain ⟨o4, v4, he4, hz4, hd4⟩ := f4.there
          refine store_ok (X := X.suite a ((a, o4) :: (X.pn ++ pins))) (v := .ref a) (J4.suite he4 hd4 na nL nF) nd hi (.inl hln) rfl (fun z5 S5 => ?_) (.inr hln)
          refine wpAny_mono ((hsu a o4 cls d (X.pn ++ pins) hz4 ⟨_, hd4⟩).run [] z5 _ T _ S5 (hyes rfl a na)) (fun f z6 hsp => ?_) (fun _ _ z => False.elim z)
          have fin : ∀ {τ6 : L2.St} {T6 : Hp} {Q : Shared → Prop}, Inv (X.suite a ((a, o4) :: (X.pn ++ pins))) [] τ6 T6 z6 → (∀ z7, Inv X pins (τ6.set i none) T6 z7 → Q z7) →
              wpAny (model X.prog X.w) X.A (do bindName X.env n .none; unbindBehindTheSuite X.env n p2) (fun _ z7 => Q z7) X.xe z6 := fun {τ6 T6 Q} S6 hq => gone_ok (S6.unsuite kk) nd hi hln hq
          cases f with
          | next => obtain ⟨σ6, H6, S6, q6⟩ := hsp; exact fin S6 fun s7 J7 => ⟨_, _, J7, q6⟩
          | brk => obtain ⟨σ6, H6, S6, q6⟩ := hsp; exact fin S6 fun s7 J7 => ⟨_, _, J7, q6⟩
          | cont => obtain ⟨σ6, H6, S6, q6⟩ := hsp; exact fin S6 fun s7 J7 => ⟨_, _, J7, q6⟩
          | ret u => obtain ⟨v6, σ6, H6, S6, r6, q6⟩ := hsp; exact fin S6 fun s7 J7 => ⟨_, _, _, J7, r6, q6⟩
        | false =>
          show wpAny _ X.A (handleBy (.ref a) X.env es2) _ _ _
          exact ih (hno rfl)
    exact go hh w
  · cases f with
    | next => obtain ⟨τ, T, J', q⟩ := hsp; exact wpAny_execs_nil ⟨τ, T, J'.ofTry kk, q⟩
    | brk => obtain ⟨τ, T, J', q⟩ := hsp; exact ⟨τ, T, J'.ofTry kk, q⟩
    | cont => obtain ⟨τ, T, J', q⟩ := hsp; exact ⟨τ, T, J'.ofTry kk, q⟩
    | ret u => obtain ⟨v, τ, T, J', r, q⟩ := hsp; exact ⟨v, τ, T, J'.ofTry kk, r, q⟩
end
/-- the slots are as many as the names -/
theorem takes_len {X : Cx} {W : WX} (tk : Takes X W) : Takes X (fun cls d σ H => σ.length = X.N.length → W cls d σ H) := fun e s x => by
  obtain ⟨a, B, sI, pins, τ, T, cls, d, r1, J, r2, r3, r4, r5, r6, r7, w⟩ := x
  exact tk _ _ ⟨a, B, sI, pins, τ, T, cls, d, r1, J, r2, r3, r4, r5, r6, r7, w J.len⟩
/-! ### the caught error asked -/
/-- isinstance(e, c), e the caught error of the class C with the dict d -/
def rIsX (K : PySem.W.Frag) (C a : Addr) (cls : Value) (d : Option Addr) : List V → Hp → VK → Prop := fun xs H Q => ∃ (dd : Addr) (fs : List (Str × V)) (c : V) (cv : Value) (b : Bool), cls = .ref C ∧ d = some dd ∧ H dd = some (.xd fs) ∧ xs = [.ref a, c] ∧ ClsV c cv ∧ PySem.W.kitOne K (.ref C) cv = some b ∧ Q (.bl b) H
structure XIs (K : PySem.W.Frag) (C : Addr) : Prop where
  k0 : (PySem.W.clsIn K C).isSome = true
  k1 : PySem.W.findIn K (.ref C) "__getattribute__" = some (some (.builtin "BaseException.__getattribute__"))
  k2 : PySem.W.findIn K (.ref C) "__getattr__" = some none
  k3 : PySem.W.subIn K (.ref C) (.type "BaseException") = some true
  k4 : PySem.W.findIn K (.ref C) "__class__" = some (some (.builtin "object.__class__"))
  k5 : PySem.W.specialIn K (.builtin "object.__class__") "__get__" = some (some (.builtin "getset_descriptor.__get__"))
  k6 : PySem.W.takesIn K (.builtin "object.__class__") = some true
  k7 : PySem.W.mroIn K C (.type "object") = some true
theorem call_isX {X : Cx} {a C : Addr} {oe : Obj} {cls : Value} {d : Option Addr} {pn : List (Addr × Obj)} (T : XIs X.K C) (hz : Zc cls d oe) (hf : ∃ vs, oe.data = .fields vs) : CallR (X.suite a ((a, oe) :: pn)) (.builtin "isinstance") (rIsX X.K C a cls d) := by
  intro pins s σ H xs us Q I r h
  obtain ⟨dd, fs, c, cv, b, ec, ed, ea, rfl, kc, e, q⟩ := h
  subst ec ed
  obtain ⟨u1, u2, rfl, r1, r2⟩ := vals2 r
  obtain rfl : u1 = Value.ref a := r1
  have e2 := kc.eq r2
  subst e2
  obtain ⟨ha, _⟩ := I.pin (a, oe) (List.mem_append_left _ List.mem_cons_self)
  obtain ⟨vs, hd⟩ := hf
  have hx : ObjOk X.prog X.w H s.heap dd (.xd fs) := I.hok dd _ ea
  obtain ⟨mA, hns, hr⟩ := hx
  obtain ⟨od, ho, hl⟩ := lookIn_ns hns
  have J : PySem.W.InstAt s.heap a oe C (some od) := ⟨ha, hz.1, by unfold PySem.W.notCls; rw [hd] <;> rfl, by rw [hz.2]; exact ho⟩
  exact PySem.W.kia_one (PySem.W.kitx_exc T.k0 T.k1 T.k2 T.k3 T.k4 T.k5 T.k6 T.k7) I.kIn J e (fun z => nomatch z) fun tk => ⟨.bl b, H, I.kept (t' := tk) fun _ _ z => z, rfl, q⟩
end DL

namespace DL
open PySem L2 PySem.Spec PyProof.Rows
variable {G : Ct}
/-! ### a lambda handed to a def that tells what it does -/
inductive LO where
  | ret
  | exc (C : Addr) (ns : List Str) (ds : List D)
def LamOut (G : Ct) (W : Hp) (tl : XK → Hp → VK → Prop) (H : Hp) (Bk : Hp → Hp → Prop) : LO → Prop
  | .ret => ∀ (E : XK) (Q : VK), (∀ v W' F' H', Same W W' → Bk W' F' → Cfg G W' F' H' [] [] → Q v H') → tl E H Q
  | .exc C ns ds => ∀ (E : XK) (Q : VK), (∀ d vs W' F' H', Same W W' → Bk W' F' → Cfg G W' F' H' [] [] → IsL G W' ds vs → W' d = some (.xd (ns.zip vs)) → E (.ref C) (some d) H') → tl E H Q
def TTd (G : Ct) (Told : LO → D → Prop) : (XK → Hp → VK → Prop) → Hp → VK → Prop := fun tl H Q => ∃ W F o d Bk, Cfg G W F H [] [] ∧ Told o d ∧ LamOut G W tl H Bk o ∧
  ∀ v W' W2 F' H', Bk W' F' → Same W' W2 → Cfg G W2 F' H' [] [] → Is G W2 d v → Q v H'
theorem Cfg.slots {W F H : Hp} {σ : L2.St} {es : Es} (c : Cfg G W F H [] []) (h : ∀ (i : Nat) (φ : Ent), es[i]? = some (some φ) → ∃ d v, φ = fr G d ∧ σ[i]? = some (some v) ∧ Is G W d v) (hl : es.length = σ.length) : Cfg G W F H σ es := by
  obtain ⟨ms, c⟩ := c
  refine ⟨fun _ => emp, ⟨fun i φ e => ?_, fun _ _ _ => dis_emp, fun _ => dis_emp, fun _ => dis_emp, c.dFW, c.sW, c.sF, fun _ => same_emp, c.tab, ⟨c.nt.1, c.nt.2.1, fun _ => nt_emp⟩, hl⟩⟩
  obtain ⟨d, v, rfl, h1, h2⟩ := h i φ e
  exact ⟨v, h1, Hold.of h2⟩
section
variable {T : List (Addr × Str)} {Told : LO → D → Prop} {t : XK → TE} {es : Es} {d : D} {φ : Ent}
def TabMap (T : List (Addr × Str)) : List NdefX.NTab := T.map fun p => (p.1, fun _ _ => p.2)
theorem tabs_of {H : Hp} (h : NdefX.TabsN (TabMap T) H) : LamX.Tabs T H := fun p hp => NdefX.TabN.to (h _ (List.mem_map.mpr ⟨p, hp, rfl⟩))
theorem tabs_to {H : Hp} (h : LamX.Tabs T H) : NdefX.TabsN (TabMap T) H := fun q hq => by
  obtain ⟨p, hp, rfl⟩ := List.mem_map.mp hq
  exact NdefX.TabN.of (h p hp)
theorem tok_enter {W F H : Hp} {σ : L2.St} (c : Cfg G W F H σ es) : ∃ F1, Cfg G W F1 H [] [] ∧ ∀ W2 H2, Same W W2 → Cfg G W2 F1 H2 [] [] → Cfg G W2 F H2 σ es := by
  obtain ⟨F1, b1, back⟩ := c.enter
  refine ⟨F1, b1, fun W2 H2 s c2 => ?_⟩
  obtain ⟨_, c3⟩ := back emp W2 H2 s dis_emp (by rw [un_emp]; exact c2)
  rw [un_emp] at c3
  exact c3
theorem ef_toldR (hT : G.T = TabMap T) (ht : Told .ret d) (h : ∀ E, EO G (t E) es φ es) : EF G (LamX.tLam T (TTd G Told) t) es d es := fun W F H σ Q c k => by
  refine ⟨tabs_of (hT ▸ c.tab), fun H1 eN T1 => ?_⟩
  have c1 := c.extN eN (hT ▸ tabs_to T1)
  refine ⟨W, _, .ret, d, fun W' F' => Same W W' ∧ ∀ W2 H2, Same W' W2 → Cfg G W2 F' H2 [] [] → Cfg G W2 F H2 σ es, c1.bare, ht, fun E Q' kk => h E W F H1 σ _ c1 fun v m W' H' s dm hm c' => ?_, fun v W' W2 F' H' b s c' hv => ?_⟩
  · obtain ⟨F1, b1, back⟩ := tok_enter (c'.lose dm)
    exact kk v W' F1 H' s ⟨s, back⟩ b1
  · exact k v W2 H' (b.1.trans s) (b.2 W2 H' s c') hv
theorem ef_toldX {C : Addr} {ns : List Str} {ds : List D} (hT : G.T = TabMap T) (ht : Told (.exc C ns ds) d) (h : ∀ E, EX G E (t E) es C ns ds es) : EF G (LamX.tLam T (TTd G Told) t) es d es := fun W F H σ Q c k => by
  refine ⟨tabs_of (hT ▸ c.tab), fun H1 eN T1 => ?_⟩
  have c1 := c.extN eN (hT ▸ tabs_to T1)
  refine ⟨W, _, _, d, fun W' F' => Same W W' ∧ ∀ W2 H2, Same W' W2 → Cfg G W2 F' H2 [] [] → Cfg G W2 F H2 σ es, c1.bare, ht, fun E Q' kk => h E W F H1 σ _ c1 fun dd vs W' H' s c' iv hd => ?_, fun v W' W2 F' H' b s c' hv => ?_⟩
  · obtain ⟨F1, b1, back⟩ := tok_enter c'
    exact kk dd vs W' F1 H' s ⟨s, back⟩ b1 iv hd
  · exact k v W2 H' (b.1.trans s) (b.2 W2 H' s c') hv
/-- the def's side -/
theorem told_run {tl : XK → Hp → VK → Prop} {H : Hp} {Q : VK} {f c' : Addr} {q : Str} {l : List Clause} {K : PySem.W.Frag} {Wo : WX} {D : Ends} {σ : L2.St} {n : Nat} (h : TTd G Told tl H Q) (h0 : σ[0]? = some (some (.ref f))) (hc : H c' = some (LamX.CodeO c' q))
    (hret : ∀ d W F H', Told .ret d → Cfg G W F H' [] [] → (∀ v W' H2, Same W W' → Cfg G W' F H2 [] [] → Is G W' d v → Q v H2) → D.nx σ H')
    (hexc : ∀ C ns ds d W F H' dd (σ' : L2.St) vs, Told (.exc C ns ds) d → σ'.length = n → Cfg G W F H' [] [] → IsL G W ds vs → W dd = some (.xd (ns.zip vs)) → (∀ v W' H2, Same W W' → Cfg G W' F H2 [] [] → Is G W' d v → Q v H2) → wCl K Wo D l (.ref C) (some dd) σ' H') :
    ∃ Ech : XK, (∀ cls d σ' H', Ech cls d H' → (σ'.length = n → wCl K Wo D l cls d σ' H')) ∧ σ[0]? = some (some (.ref f)) ∧ H c' = some (LamX.CodeO c' q) ∧ tl Ech H fun _ H' => D.nx σ H' := by
  obtain ⟨W, F, o, d, Bk, c, ht, ho, k⟩ := h
  refine ⟨fun cls d H' => ∀ σ' : L2.St, σ'.length = n → wCl K Wo D l cls d σ' H', fun cls d σ' H' hh hl => hh σ' hl, h0, hc, ?_⟩
  cases o with
  | ret => exact ho _ _ fun v W' F' H' s b c' => hret d W' F' H' ht c' fun v W2 H2 s2 c2 hv => k v W' W2 F' H2 b s2 c2 hv
  | exc C ns ds => exact ho _ _ fun dd vs W' F' H' s b c' iv hd σ' hl => hexc C ns ds d W' F' H' dd σ' vs ht hl c' iv hd fun v W2 H2 s2 c2 hv => k v W' W2 F' H2 b s2 c2 hv
end
/-- statements that end with a value of data -/
def Gives (G : Ct) (ts : TS) (es : Es) (d : D) : Prop := S G (fun _ _ _ => False) ts es { rt := fun φ _ => φ = fr G d }
theorem Gives.run {ts : TS} {es : Es} {d : D} {W F H : Hp} {σ : L2.St} {D : Ends} (g : Gives G ts es d) (c : Cfg G W F H σ es) (k : ∀ v W' H2, Same W W' → Cfg G W' F H2 [] [] → Is G W' d v → D.rt v H2) : ts D σ H :=
  g W F H σ D c ⟨fun _ _ _ _ q => q.elim, fun φ e v m W' H' σ' q s dm hm c' => by
    have q : φ = fr G d := q
    subst q
    exact k v W' H' s (c'.lose dm).bare hm.fr, fun _ _ _ _ q => q.elim, fun _ _ _ _ q => q.elim, fun _ _ _ _ _ _ _ _ _ q => q.elim⟩
section
variable {te : TE} {es es1 : Es} {d : D} {ns : List Str} {ds : List D} {a dd C : Addr}
theorem a_isX {A : Addr} {b : Bool} (h : PySem.W.kitOne G.K (.ref C) (.ref A) = some b) : RCP G (rIsX G.K C a (.ref C) (some dd)) [.err a dd ns ds, .raw A] (.bl b) := fun W H vs Q s iv k => by
  obtain ⟨v, w, rfl, h1, h2⟩ := isL2 iv
  rw [is_err] at h1
  rw [is_raw] at h2
  obtain ⟨rfl, us, e1, _⟩ := h1
  subst h2
  exact ⟨dd, _, _, _, b, rfl, rfl, s _ _ e1, rfl, .own A, h, k _ (is_bl.mpr rfl)⟩
theorem a_isXt {n : String} {b : Bool} (h : PySem.W.kitOne G.K (.ref C) (.type n) = some b) : RCP G (rIsX G.K C a (.ref C) (some dd)) [.err a dd ns ds, .ty n] (.bl b) := fun W H vs Q s iv k => by
  obtain ⟨v, w, rfl, h1, h2⟩ := isL2 iv
  rw [is_err] at h1
  rw [is_ty] at h2
  obtain ⟨rfl, us, e1, _⟩ := h1
  subst h2
  exact ⟨dd, _, _, _, b, rfl, rfl, s _ _ e1, rfl, .ty n, h, k _ (is_bl.mpr rfl)⟩
theorem ef_xf {f : Str} (j : Nat) (h : EF G te es (.err a dd ns ds) es1) (hf : fix ns f j = true) (hd : ds[j]? = some d) : EF G (tXf a (.ref C) (some dd) C f te) es d es1 := fun W F H σ Q c k =>
  h W F H σ _ c fun v W1 H1 s1 c1 i1 => by
    rw [is_err] at i1
    obtain ⟨rfl, vs, h1, h3⟩ := i1
    unfold fix at hf
    simp only [Bool.and_eq_true, decide_eq_true_eq, List.all_eq_true, List.mem_range] at hf
    obtain ⟨v, e1, e2⟩ := lookup_zip h3 (fix_lookup hf.1 hf.2 hd)
    exact ⟨rfl, rfl, dd, _, v, rfl, c1.sW _ _ h1, e1, k v W1 H1 s1 c1 e2⟩
end
end DL

namespace DL
open PySem L2 PySem.Spec PyProof.Rows
variable {G : Ct}
/-! ### things of our own at an address -/
def lstA (G : Ct) (a : Addr) (ds : List D) : Ent := fun W v m => v = .ref a ∧ ∃ vs, IsL G W ds vs ∧ m = one a (.lst vs)
theorem Hold.lstA {ds : List D} {W : Hp} {v : V} {m : Hp} {a : Addr} (h : Hold (lstA G a ds) W v m) : v = .ref a ∧ ∃ vs, IsL G W ds vs ∧ m = one a (.lst vs) :=
  let ⟨_, e, h1, vs, h2, h3⟩ := h
  ⟨h1, vs, h2.mono e, h3⟩
theorem fixed_lstA {a : Addr} {ds : List D} : Fixed (lstA G a ds) a := fun W v m h => h.1
theorem hold_lstA {ds : List D} {W : Hp} {p : Addr} {vs : List V} (h : IsL G W ds vs) : Hold (lstA G p ds) W (.ref p) (one p (.lst vs)) := Hold.of ⟨rfl, vs, h, rfl⟩
section
variable {Ex : XK} {te ta tb tc : TE} {tt tu : TT} {tas : TA} {t u w : TS} {es es' es1 es2 es3 eo : Es} {d x y z : D} {ds xs ys : List D} {b b' : Bool} {i j : Nat} {φ ψ : Ent} {P : Po} {a : Addr}
theorem own_at {W F H : Hp} {σ : L2.St} (c : Cfg G W F H σ es) (h : es[i]? = some (some (lstA G a xs))) : ∃ vs, σ[i]? = some (some (.ref a)) ∧ H a = some (.lst vs) ∧ IsL G W xs vs := by
  obtain ⟨v, m, e1, hm, dm, sm, ct⟩ := c.take h
  obtain ⟨rfl, vs, h1, rfl⟩ := hm.lstA
  exact ⟨vs, e1, sm _ _ one_same, h1⟩
theorem own_as {W F H : Hp} {σ : L2.St} (c : Cfg G W F H σ es) (h : es[i]? = some (some (lst G xs))) : ∃ a vs, σ[i]? = some (some (.ref a)) ∧ H a = some (.lst vs) ∧ IsL G W xs vs := r_own c h
/-- an owned list written anew -/
theorem own_wr {W F H : Hp} {σ : L2.St} (c : Cfg G W F H σ es) (h : es[i]? = some (some (lstA G a xs))) {us : List V} (hu : IsL G W ys us) : Cfg G W F (upd H a (.lst us)) σ (es.set i (some (lstA G a ys))) := by
  obtain ⟨v, m, e1, hm, dm, sm, ct⟩ := c.take h
  obtain ⟨rfl, vs, h1, rfl⟩ := hm.lstA
  obtain ⟨c3, d3⟩ := cfg_wr (us := us) ct dm
  have c4 := c3.give (i := i) (φ := lstA G a ys) d3 e1 (hold_lstA hu)
  rw [List.set_set] at c4
  exact c4
/-- o[n] of an owned list -/
theorem ef_ixA {n : Int} (h : es[i]? = some (some (lstA G a xs))) (hb : EF G tb es (.int n) es) (hz : atI xs n = some z) : EF G (tOp (rIx G.K) (tVar i) tb) es z es := fun W F H σ Q c k => by
  obtain ⟨vs0, e1, _, _⟩ := own_at c h
  refine ⟨_, e1, hb W F H σ _ c fun w W2 H2 s2 c2 iw => ?_⟩
  rw [is_int] at iw
  subst iw
  obtain ⟨vs, _, e3, i3⟩ := own_at c2 h
  unfold atI at hz
  rw [Option.bind_eq_some_iff] at hz
  obtain ⟨j, f1, f2⟩ := hz
  obtain ⟨v, f3, f4⟩ := i3.get f2
  exact .inl ⟨a, vs, n, v, rfl, rfl, SqL.of e3, by unfold atI; rw [← i3.len, f1]; exact f3, k v W2 H2 s2 c2 f4⟩
theorem ef_ixO {n : Int} (h : es[i]? = some (some (lst G xs))) (hb : EF G tb es (.int n) es) (hz : atI xs n = some z) : EF G (tOp (rIx G.K) (tVar i) tb) es z es := fun W F H σ Q c k => by
  obtain ⟨a, vs0, e1, _, _⟩ := own_as c h
  refine ⟨_, e1, hb W F H σ _ c fun w W2 H2 s2 c2 iw => ?_⟩
  rw [is_int] at iw
  subst iw
  obtain ⟨a', vs, e1', e3, i3⟩ := own_as c2 h
  rw [e1] at e1'
  cases e1'
  unfold atI at hz
  rw [Option.bind_eq_some_iff] at hz
  obtain ⟨j, f1, f2⟩ := hz
  obtain ⟨v, f3, f4⟩ := i3.get f2
  exact .inl ⟨a, vs, n, v, rfl, rfl, SqL.of e3, by unfold atI; rw [← i3.len, f1]; exact f3, k v W2 H2 s2 c2 f4⟩
/-- o[n] = e -/
theorem s_setA {n : Nat} (h : EF G te es d es1) (ho : es1[i]? = some (some (lstA G a xs))) (hi : EF G tb es1 (.int (n : Int)) es1) (hn : n < xs.length) (k : P.nx (es1.set i (some (lstA G a (xs.set n d))))) : S G Ex (tAsg te (gSub (tVar i) tb rSetL)) es P := fun W F H σ D c p => h W F H σ _ c fun v W1 H1 s1 c1 i1 => by
  obtain ⟨vs0, e1, _, _⟩ := own_at c1 ho
  refine ⟨.ref a, e1, hi W1 F H1 σ _ c1 fun w W2 H2 s2 c2 i2 => ?_⟩
  rw [is_int] at i2
  subst i2
  obtain ⟨vs, _, e3, i3⟩ := own_at c2 ho
  exact ⟨a, vs, n, n, rfl, rfl, e3, ixN_of (by rw [← i3.len]; exact hn), p.nx _ W2 _ σ k (s1.trans s2) (own_wr c2 ho (i3.set n (i1.mono s2)))⟩
/-- a method that changes an owned list -/
theorem ef_bmA {r : V → List V → Hp → VK → Prop} (h0 : es[i]? = some (some (lstA G a xs))) (ha : EA G tas es ds es1) (h : es1[i]? = some (some (lstA G a xs))) (hr : MTL G r xs ds ys z) : EF G (tBM G.K "list" r (tVar i) tas) es z (es1.set i (some (lstA G a ys))) := fun W F H σ Q c k => by
  obtain ⟨vs0, e1, e2, _⟩ := own_at c h0
  refine ⟨.ref a, e1, .inl ⟨rfl, vs0, SqL.of e2⟩, ha W F H σ _ c fun ws W2 H2 s2 c2 i2 => ?_⟩
  obtain ⟨vs, _, e3, i3⟩ := own_at c2 h
  exact hr W2 H2 a vs ws Q e3 c2.sW i3 i2 fun us v iu iv => k v W2 _ s2 (own_wr c2 h iu) iv
theorem ml_popAt {n : Nat} (h : xs[n]? = some x) (hz : n < 100000) : MTL G rPopAt xs [.int (n : Int)] (xs.eraseIdx n) x := fun W H a vs ws Q h' s i1 i2 k => by
  obtain ⟨w, rfl, hw⟩ := isL1 i2
  rw [is_int] at hw
  subst hw
  obtain ⟨v, e1, e2⟩ := i1.get h
  have hl := (List.getElem?_eq_some_iff.mp e1).1
  refine ⟨a, vs, n, n, v, rfl, rfl, h', by omega, by omega, ?_, e1, k _ _ (i1.eraseIdx n) e2⟩
  unfold seqIndex?
  simp
  omega
/-- an owned list of numbers asked whether it is not empty -/
theorem ef_neNil {l : List Int} (h : es[i]? = some (some (lstA G a (dI l)))) (hl : l.length ≤ 100000) : EF G (tOp (rNeA G.K) (tVar i) (tLst tNil)) es (.bl (!decide (l = []))) es := fun W F H σ Q c k => by
  obtain ⟨vs0, e1, _, _⟩ := own_at c h
  refine ⟨_, e1, by simp, fun p hp => ?_⟩
  obtain ⟨c2, s2⟩ := c.allocW (o := .lst []) hp
  obtain ⟨vs, _, e3, i3⟩ := own_at c2 h
  have e4 : vs = l.map V.int := i3.ints
  subst e4
  refine .inr ⟨.list (l.map PyData.int), .list [], .lst (SqL.of e3) ?_, .lst (SqL.of (c2.sW _ _ upd_same)) .nil, shaped_list hl, shaped_list (l := []) (by decide), ?_⟩
  · rw [← toPyL_ints]
    exact dpL_of c2.sW (plainL_ints l) i3
  · have e : PyData.eqv (.list (l.map PyData.int)) (.list []) = decide (l = []) := by
      rw [PyData.eqv]
      exact eqv_ints l []
    rw [e]
    exact k _ _ _ s2 c2 (is_bl.mpr rfl)
/-! ### an address made known -/
theorem s_open {A : Type} {ψ : A → Ent} (h : es[i]? = some (some (fun W v m => ∃ a, ψ a W v m))) (k : ∀ a, S G Ex t (es.set i (some (ψ a))) P) : S G Ex t es P := fun W F H σ D c p => by
  obtain ⟨ms, c0⟩ := c
  obtain ⟨v, e1, W0, sw, a, hh⟩ := c0.at_ i _ h
  refine k a W F H σ D ⟨ms, ⟨fun j φ e => ?_, c0.dm, c0.dF, c0.dW, c0.dFW, c0.sW, c0.sF, c0.sm, c0.tab, c0.nt, by simpa using c0.len⟩⟩ p
  by_cases q : j = i
  · subst q
    rw [List.getElem?_set] at e
    simp only [if_true] at e
    split at e
    · cases e
      exact ⟨v, e1, W0, sw, hh⟩
    · cases e
  · rw [List.getElem?_set_ne (Ne.symm q)] at e
    exact c0.at_ j φ e
/-! ### what is our own handed to a def, and back -/
variable {Fn : Es → Out → Prop} {n : Nat} {E : XK}
theorem own_call {r : Ent} {Q : VK} {W F H : Hp} {σ : L2.St} {v : V} {vs : List V} (c : Cfg G W F H σ es) (hi : es[i]? = some (some φ)) (hv : σ[i]? = some (some v)) (iv : IsL G W ds vs) (hn : ds.length + 1 = n) (hf : Fn (some φ :: frs G ds) (.ret r (some ψ :: eo))) (fx : Fixed φ a) (fy : Fixed ψ a)
    (k : ∀ v m W' H', Same W W' → Dis m F → Hold r W' v m → Cfg G W' (un m F) H' σ (es.set i (some ψ)) → Q v H') : spOf G Fn n (v :: vs) H Q E := by
  obtain ⟨v0, mo, e1, hm, dm, sm, ct⟩ := c.take hi
  rw [hv] at e1
  cases e1
  have ev := fx.hold hm
  subst ev
  obtain ⟨F1, d1, b1, back⟩ := ct.enterP dm
  refine ⟨W, F1, _, _, by simp [← iv.len, hn], params1 b1 d1 iv hm, hf, fun v m W' H' s dr hr c' => ?_⟩
  -- the result's piece and the owned piece, both to the frame
  obtain ⟨v3, m3, e3, h3, d3, _, c4⟩ := c'.take (i := 0) (φ := ψ) rfl
  cases e3
  have d5 : Dis m3 F1 := d3.symm.of_un_r.symm
  have d6 : Dis m3 m := d3.symm.of_un_l.symm
  have assoc : un m3 (un m F1) = un (un m3 m) F1 := by
    funext a
    cases q : m3 a with
    | some o => rw [un_l q, un_l (un_l q)]
    | none =>
      rw [un_r q]
      cases q2 : m a with
      | some o => rw [un_l q2, un_l (by rw [un_r q]; exact q2)]
      | none => rw [un_r q2, un_r (by rw [un_none]; exact ⟨q, q2⟩)]
  have c5 := c4.bare
  rw [assoc] at c5
  obtain ⟨d7, c6⟩ := back (un m3 m) W' H' s (d5.un dr) c5
  have assoc2 : un (un m3 m) F = un m3 (un m F) := by
    funext a
    cases q : m3 a with
    | some o => rw [un_l q, un_l (un_l q)]
    | none =>
      rw [un_r q]
      cases q2 : m a with
      | some o => rw [un_l q2, un_l (by rw [un_r q]; exact q2)]
      | none => rw [un_r q2, un_r (by rw [un_none]; exact ⟨q, q2⟩)]
  rw [assoc2] at c6
  have d8 : Dis m3 F := d7.of_un_l
  have d9 : Dis m F := d7.of_un_r
  have c7 := c6.give (i := i) (φ := ψ) (d6.symm.un d8.symm).symm hv h3
  rw [List.set_set] at c7
  exact k v m W' H' s d9 hr c7
theorem ef_callO (hi : es[i]? = some (some φ)) (ha : EA G tas es ds es1) (hi1 : es1[i]? = some (some φ)) (hf : Fn (some φ :: frs G ds) (.ret (fr G z) (some ψ :: eo))) (fx : Fixed φ a) (fy : Fixed ψ a) (hn : ds.length + 1 = n := by rfl) :
    EF G (tCall (spOf G Fn n) [] E (tCons (tVar i) tas)) es z (es1.set i (some ψ)) := fun W F H σ Q c k => by
  obtain ⟨v, m, e1, _⟩ := c.take hi
  refine ⟨v, e1, ha W F H σ _ c fun vs W1 H1 s1 c1 i1 => ?_⟩
  show spOf G Fn n ((v :: vs) ++ []) H1 Q E
  rw [List.append_nil]
  exact own_call c1 hi1 e1 i1 hn hf fx fy fun v m W' H' s dm hm c' => k v W' H' (s1.trans s) (c'.lose dm) hm.fr
theorem eo_callO {r : Ent} (hi : es[i]? = some (some φ)) (ha : EA G tas es ds es1) (hi1 : es1[i]? = some (some φ)) (hf : Fn (some φ :: frs G ds) (.ret r (some ψ :: eo))) (fx : Fixed φ a) (fy : Fixed ψ a) (hn : ds.length + 1 = n := by rfl) :
    EO G (tCall (spOf G Fn n) [] E (tCons (tVar i) tas)) es r (es1.set i (some ψ)) := fun W F H σ Q c k => by
  obtain ⟨v, m, e1, _⟩ := c.take hi
  refine ⟨v, e1, ha W F H σ _ c fun vs W1 H1 s1 c1 i1 => ?_⟩
  show spOf G Fn n ((v :: vs) ++ []) H1 Q E
  rw [List.append_nil]
  exact own_call c1 hi1 e1 i1 hn hf fx fy fun v m W' H' s dm hm c' => k v m W' H' (s1.trans s) dm hm c'
/-! ### the bag: a list whose first item is a list of our own -/
structure Bag where
  cells : List Int
  seed : Int
  cnt : Int
  few : cells.length ≤ 100000
def bagA (G : Ct) (p : Addr × Addr) (b : Bag) : Ent := fun _ v m => v = .ref p.1 ∧ p.1 ≠ p.2 ∧ m = un (one p.1 (.lst [.ref p.2, .int b.seed, .int b.cnt])) (one p.2 (.lst (b.cells.map V.int)))
theorem fixed_bagA {p : Addr × Addr} {b : Bag} : Fixed (bagA G p b) p.1 := fun W v m h => h.1
def bagE (G : Ct) (b : Bag) : Ent := fun W v m => ∃ p, bagA G p b W v m
theorem Hold.bagA {W : Hp} {v : V} {m : Hp} {p : Addr × Addr} {b : Bag} (h : Hold (bagA G p b) W v m) : DL.bagA G p b W v m := let ⟨_, _, h1⟩ := h; h1
def topD (q : Addr) (s c : Int) : List D := [.raw q, .int s, .int c]
/-- [[..], seed, cnt] -/
theorem eo_bag {b : Bag} (h1 : EO G ta es (lst G (dI b.cells)) es1) (h2 : EF G tb es1 (.int b.seed) es2) (h3 : EF G tc es2 (.int b.cnt) es3) : EO G (tLst (tCons ta (tCons tb (tCons tc tNil)))) es (bagE G b) es3 := fun W F H σ Q c k =>
  h1 W F H σ _ c fun v m W1 H1 s1 d1 hm c1 => by
    obtain ⟨q, vs, rfl, iv, rfl⟩ := hm.lst
    have ev : vs = b.cells.map V.int := iv.ints
    subst ev
    refine h2 W1 _ H1 σ _ c1 fun v2 W2 H2 s2 c2 i2 => h3 W2 _ H2 σ _ c2 fun v3 W3 H3 s3 c3 i3 => ⟨sz_of (n := 3) (by decide), fun p hp => ?_⟩
    rw [is_int] at i2 i3
    subst i2 i3
    obtain ⟨c4, d4⟩ := c3.allocF (o := .lst [.ref q, .int b.seed, .int b.cnt]) hp
    have npq : p ≠ q := fun z => by
      have := c3.sF q _ (un_l one_same)
      rw [← z, hp] at this
      cases this
    have e : un (one p (.lst [.ref q, .int b.seed, .int b.cnt])) (un (one q (.lst (b.cells.map V.int))) F) = un (un (one p (.lst [.ref q, .int b.seed, .int b.cnt])) (one q (.lst (b.cells.map V.int)))) F := by
      funext a
      by_cases q1 : a = p
      · subst q1
        rw [un_l one_same, un_l (un_l one_same)]
      · by_cases q2 : a = q
        · subst q2
          rw [un_r (one_ne q1), un_l one_same, un_l (by rw [un_r (one_ne q1)]; exact one_same)]
        · rw [un_r (one_ne q1), un_r (one_ne q2), un_r (by rw [un_none]; exact ⟨one_ne q1, one_ne q2⟩)]
    rw [e] at c4
    exact k _ _ W3 _ ((s1.trans s2).trans s3) ((d4.symm.of_un_r.symm).un d1) (Hold.of ⟨(p, q), rfl, npq, rfl⟩) c4
/-- row = bag[0]: the inner list is the row's from now on -/
theorem q_row {p : Addr × Addr} {b : Bag} (h : es[i]? = some (some (bagA G p b))) (hj : j ≠ i) (hl : j < es.length) (k : S G Ex u ((es.set i (some (lstA G p.1 (topD p.2 b.seed b.cnt)))).set j (some (lstA G p.2 (dI b.cells)))) P) : S G Ex (tSeq (tAsg (tOp (rIx G.K) (tVar i) (tC (.int 0))) (gName j)) u) es P := fun W F H σ D c pp => by
  obtain ⟨v, m, e1, hm, dm, sm, ct⟩ := c.take h
  obtain ⟨rfl, npq, rfl⟩ := hm.bagA
  refine ⟨_, e1, .inl ⟨p.1, [.ref p.2, .int b.seed, .int b.cnt], 0, .ref p.2, rfl, rfl, SqL.of (sm _ _ (un_l one_same)), rfl, ?_⟩⟩
  have dd : Dis (one p.2 (.lst (b.cells.map V.int))) F := dm.of_un_r
  have e : un (un (one p.1 (.lst [.ref p.2, .int b.seed, .int b.cnt])) (one p.2 (.lst (b.cells.map V.int)))) F = un (one p.1 (.lst [.ref p.2, .int b.seed, .int b.cnt])) (un (one p.2 (.lst (b.cells.map V.int))) F) := by
    funext a
    by_cases q1 : a = p.1
    · subst q1
      rw [un_l one_same, un_l (un_l one_same)]
    · by_cases q2 : a = p.2
      · subst q2
        rw [un_r (one_ne q1), un_l one_same, un_l (by rw [un_r (one_ne q1)]; exact one_same)]
      · rw [un_r (one_ne q1), un_r (one_ne q2), un_r (by rw [un_none]; exact ⟨one_ne q1, one_ne q2⟩)]
  rw [e] at ct
  have d1 : Dis (one p.1 (.lst [.ref p.2, .int b.seed, .int b.cnt])) (un (one p.2 (.lst (b.cells.map V.int))) F) := ((dis_one (by rw [one_ne (Ne.symm (Ne.symm npq))])).symm.un dm.of_un_l.symm).symm
  have c2 := ct.give (i := i) (φ := lstA G p.1 (topD p.2 b.seed b.cnt)) d1 e1 (hold_lstA (IsL.cons (is_raw.mpr rfl) (IsL.cons (is_int.mpr rfl) (IsL.one (is_int.mpr rfl)))))
  rw [List.set_set] at c2
  have c3 := c2.store (i := j) (d := .non) (v := .non) (is_non.mpr rfl)
  have hls : j < (σ.set j (some (V.ref p.2))).length := by
    have := (show es.length = σ.length from let ⟨_, q⟩ := c; q.len)
    simp
    omega
  have c4 : Cfg G W (un (one p.2 (.lst (b.cells.map V.int))) F) H (σ.set j (some (.ref p.2))) ((es.set i (some (lstA G p.1 (topD p.2 b.seed b.cnt)))).set j none) := by
    obtain ⟨ms, c3⟩ := c3
    refine ⟨ms, ⟨fun k φ e => ?_, c3.dm, c3.dF, c3.dW, c3.dFW, c3.sW, c3.sF, c3.sm, c3.tab, c3.nt, by have := c3.len; simpa using this⟩⟩
    obtain ⟨e, n⟩ := get_set_none e
    obtain ⟨v', h1, h2⟩ := c3.at_ k φ (by rw [List.getElem?_set_ne (Ne.symm n)]; exact e)
    rw [List.getElem?_set_ne (Ne.symm n)] at h1
    exact ⟨v', by rw [List.getElem?_set_ne (Ne.symm n)]; exact h1, h2⟩
  have c5 := c4.give (i := j) (φ := lstA G p.2 (dI b.cells)) dd (List.getElem?_set_self (by simpa using hls)) (hold_lstA isL_ints)
  rw [List.set_set] at c5
  exact k W F H _ D c5 pp
/-- the row is the bag's again -/
theorem s_unrow {p : Addr × Addr} {b : Bag} (h : es[i]? = some (some (lstA G p.1 (topD p.2 b.seed b.cnt)))) (h2 : es[j]? = some (some (lstA G p.2 (dI b.cells)))) (hj : j ≠ i) (k : S G Ex t ((es.set j none).set i (some (bagA G p b))) P) : S G Ex t es P := fun W F H σ D c pp => by
  obtain ⟨v, m, e1, hm, dm, sm, ct⟩ := c.take h2
  obtain ⟨rfl, vs, iv, rfl⟩ := hm.lstA
  have ev : vs = b.cells.map V.int := iv.ints
  subst ev
  obtain ⟨v', m', e1', hm', dm', sm', ct'⟩ := ct.take (i := i) (by rw [List.getElem?_set_ne hj]; exact h)
  obtain ⟨rfl, vs', iv', rfl⟩ := hm'.lstA
  have ev' : vs' = [.ref p.2, .int b.seed, .int b.cnt] := by
    obtain ⟨x1, w1, rfl, i1, iv'⟩ := iv'.uncons
    obtain ⟨x2, x3, rfl, i2, i3⟩ := isL2 iv'
    rw [is_raw] at i1
    rw [is_int] at i2 i3
    rw [i1, i2, i3]
  subst ev'
  have npq : p.1 ≠ p.2 := fun z => by
    rcases dm' p.1 with q | q
    · rw [one_same] at q; cases q
    · rw [un_none, z, one_same] at q; cases q.1
  have e : un (one p.1 (.lst [.ref p.2, .int b.seed, .int b.cnt])) (un (one p.2 (.lst (b.cells.map V.int))) F) = un (un (one p.1 (.lst [.ref p.2, .int b.seed, .int b.cnt])) (one p.2 (.lst (b.cells.map V.int)))) F := by
    funext a
    by_cases q1 : a = p.1
    · subst q1
      rw [un_l one_same, un_l (un_l one_same)]
    · by_cases q2 : a = p.2
      · subst q2
        rw [un_r (one_ne q1), un_l one_same, un_l (by rw [un_r (one_ne q1)]; exact one_same)]
      · rw [un_r (one_ne q1), un_r (one_ne q2), un_r (by rw [un_none]; exact ⟨one_ne q1, one_ne q2⟩)]
  rw [e] at ct'
  have c6 := ct'.give (i := i) (φ := bagA G p b) (dm'.symm.of_un_r.symm.un dm) e1' (Hold.of ⟨rfl, npq, rfl⟩)
  rw [List.set_set] at c6
  exact k W F H σ D c6 pp
end
end DL

namespace DL
open PySem L2 PySem.Spec PyProof.Rows
variable {G : Ct}
/-! ### isinstance of data -/
/-- what isinstance asks of an own class -/
structure InsTy (K : PySem.W.Frag) (C : Addr) : Prop where
  cl : Cls K C
  ha : PySem.W.findIn K (.ref C) "__class__" = some (some (.builtin "object.__class__"))
  hn : PySem.W.specialIn K (.builtin "object.__class__") "__get__" = some (some (.builtin "getset_descriptor.__get__"))
  ht : PySem.W.takesIn K (.builtin "object.__class__") = some true
  hm : PySem.W.mroIn K C (.type "object") = some true
/-- the type of data -/
inductive TyD (K : PySem.W.Frag) : D → Value → Prop where
  | non : TyD K .non (.type "NoneType")
  | bl (b : Bool) : TyD K (.bl b) (.type "bool")
  | int (i : Int) : TyD K (.int i) (.type "int")
  | str (x : Str) : TyD K (.str x) (.type "str")
  | lst (xs : List D) : TyD K (.lst xs) (.type "list")
  | tup (xs : List D) : TyD K (.tup xs) (.type "tuple")
  | ins {C : Addr} (h : InsTy K C) (ns : List Str) (xs : List D) : TyD K (.ins C ns xs) (.ref C)
theorem tyx_of {W H : Hp} {d : D} {v : V} {t : Value} (s : Same W H) (h : TyD G.K d t) (i : Is G W d v) : TyX G.K H v t := by
  cases h with
  | non => rw [is_non] at i; subst i; exact .base .non
  | bl b => rw [is_bl] at i; subst i; exact .base (.bl _)
  | int b => rw [is_int] at i; subst i; exact .base (.int _)
  | str b => rw [is_str] at i; subst i; exact .base (.str _)
  | lst xs => rw [is_lst] at i; obtain ⟨a, vs, rfl, h1, _⟩ := i; exact .base (.lst (s _ _ h1))
  | tup xs =>
    rw [is_tup] at i
    obtain ⟨a, vs, rfl, h1, _⟩ := i
    rcases s.sqt h1 with (h1 | ⟨o, h1⟩) | ⟨o, _, _, h1, h2, _⟩
    · exact .base (.tup h1)
    · exact .fTuple h1
    · exact .kTuple h1 h2
  | ins h ns xs => rw [is_ins] at i; obtain ⟨a, dx, vs, rfl, h1, _⟩ := i; exact .base (.ins (s _ _ h1) h.cl h.ha h.hn h.ht h.hm)
theorem a_isi {d : D} {t : Value} {n : String} {b : Bool} (h : TyD G.K d t) (e : PySem.W.kitOne G.K t (.type n) = some b) : RCP G (rIsi G.K) [d, .ty n] (.bl b) := fun W H vs Q s iv k => by
  obtain ⟨v, w, rfl, h1, h2⟩ := isL2 iv
  rw [is_ty] at h2
  subst h2
  exact ⟨v, _, t, _, b, rfl, .ty n, tyx_of s h h1, e, k _ (is_bl.mpr rfl)⟩
theorem a_isiC {d : D} {t : Value} {C : Addr} {b : Bool} (h : TyD G.K d t) (e : PySem.W.kitOne G.K t (.ref C) = some b) : RCP G (rIsi G.K) [d, .raw C] (.bl b) := fun W H vs Q s iv k => by
  obtain ⟨v, w, rfl, h1, h2⟩ := isL2 iv
  rw [is_raw] at h2
  subst h2
  exact ⟨v, _, t, _, b, rfl, .own C, tyx_of s h h1, e, k _ (is_bl.mpr rfl)⟩
def isBlD (b : Bool) : D → Bool
  | .bl c => c == b
  | _ => false
theorem is_blD {W : Hp} {v : V} {x : D} {b : Bool} (h : Is G W x v) : decide (v = .bl b) = isBlD b x := by
  cases x with
  | non => rw [is_non] at h; subst h; rfl
  | bl c => rw [is_bl] at h; subst h; cases b <;> cases c <;> rfl
  | int _ => rw [is_int] at h; subst h; rfl
  | str _ => rw [is_str] at h; subst h; rfl
  | raw _ => rw [is_raw] at h; subst h; rfl
  | ty _ => rw [is_ty] at h; subst h; rfl
  | err _ _ _ _ => rw [is_err] at h; rw [h.1]; rfl
  | lst _ => rw [is_lst] at h; obtain ⟨a, vs, rfl, _⟩ := h; rfl
  | rol _ => rw [is_rol] at h; obtain ⟨a, vs, rfl, _⟩ := h; rfl
  | tup _ => rw [is_tup] at h; obtain ⟨a, vs, rfl, _⟩ := h; rfl
  | ins _ _ _ => rw [is_ins] at h; obtain ⟨a, dx, vs, rfl, _⟩ := h; rfl
theorem a_isC {x : D} {b : Bool} : R2P G rIsC x (.bl b) (.bl (isBlD b x)) := fun W H vx vy Q s hx hy k => by
  rw [is_bl] at hy
  exact ⟨b, hy, k _ (by rw [is_bl, is_blD hx])⟩
theorem atI_nat {α : Type} {xs : List α} {k : Nat} {x : α} (h : xs[k]? = some x) : atI xs (k : Int) = some x := by
  unfold atI
  have hl := (List.getElem?_eq_some_iff.mp h).1
  rw [ixN_of hl]
  exact h
theorem a_ixLn {xs : List D} {z : D} {k : Nat} (h : xs[k]? = some z) : R2P G (rIx G.K) (.lst xs) (.int (k : Int)) z := a_ixL (atI_nat h)
theorem a_ixTn {xs : List D} {z : D} {k : Nat} (h : xs[k]? = some z) : R2P G (rIx G.K) (.tup xs) (.int (k : Int)) z := a_ixT (atI_nat h)
/-! ### the same twice -/
/-- data of a depth less than n -/
def okS : Nat → D → Prop
  | 0, _ => False
  | _ + 1, .non => True
  | _ + 1, .bl _ => True
  | _ + 1, .int _ => True
  | _ + 1, .str _ => True
  | n + 1, .lst ds => ds.length ≤ 100000 ∧ ∀ x ∈ ds, okS n x
  | n + 1, .tup ds => ds.length ≤ 100000 ∧ ∀ x ∈ ds, okS n x
  | _ + 1, _ => False
def fn_same (G : Ct) (n : Nat) : Es → Out → Prop := fun es o => ∃ d, okS n d ∧ es = frs G [d, d] ∧ o = .ret (fr G (.bl true)) es
theorem use_same {n : Nat} {d : D} (h : okS n d) : fn_same G n (frs G [d, d]) (.ret (fr G (.bl true)) (frs G [d, d])) := ⟨d, h, rfl, rfl⟩
/-- the built-in types asked -/
structure KTy (K : PySem.W.Frag) : Prop where
  ii : PySem.W.kitOne K (.type "int") (.type "int") = some true
  ib : PySem.W.kitOne K (.type "int") (.type "bool") = some false
  si : PySem.W.kitOne K (.type "str") (.type "int") = some false
  ss : PySem.W.kitOne K (.type "str") (.type "str") = some true
  li : PySem.W.kitOne K (.type "list") (.type "int") = some false
  ls : PySem.W.kitOne K (.type "list") (.type "str") = some false
  ll : PySem.W.kitOne K (.type "list") (.type "list") = some true
  lt : PySem.W.kitOne K (.type "list") (.type "tuple") = some false
  ti : PySem.W.kitOne K (.type "tuple") (.type "int") = some false
  ts : PySem.W.kitOne K (.type "tuple") (.type "str") = some false
  tl : PySem.W.kitOne K (.type "tuple") (.type "list") = some false
  tt : PySem.W.kitOne K (.type "tuple") (.type "tuple") = some true
/-- a def that is never asked -/
theorem fn_void {P : Program} {w : World} {K : PySem.W.Frag} {mg : Str → Option Value} {base : Heap} {CX : CXT} {f : Addr} {fd : FuncData} {ps : List Str} {sp : Sp} (h : ∀ vs H Q E, ¬ sp vs H Q E) : FnOk P w K mg base CX 0 f fd ps sp :=
  ⟨fun vs H Q E z => (h _ _ _ _ z).elim, fun A outer s H args us vs Q E hr e0 hb r z => (h _ _ _ _ z).elim⟩
theorem void_same {n : Nat} : ∀ vs H Q E, ¬ spOf G (fn_same G 0) n vs H Q E := fun vs H Q E ⟨_, _, _, _, _, _, ⟨d, h, _⟩, _⟩ => by cases d <;> exact h
/-! ### evaluation by rules -/
theorem et_cmp {te : TE} {es es1 : Es} {b : Bool} (h : EF G te es (.bl b) es1) : ET G (tTest te) es b es1 := et_test h
end DL

namespace DL
open PySem L2 PySem.Spec PyProof.Rows
variable {G : Ct}
/-! ### a dict of our own, ints to ints -/
def dctI (G : Ct) (l : List (Int × Int)) : Ent := fun _ v m => ∃ a, v = .ref a ∧ m = one a (.dK (l.map fun p => ((.inl p.1 : Key), V.int p.2)))
theorem Hold.dctI {l : List (Int × Int)} {W : Hp} {v : V} {m : Hp} (h : Hold (dctI G l) W v m) : ∃ a, v = .ref a ∧ m = one a (.dK (l.map fun p => ((.inl p.1 : Key), V.int p.2))) := let ⟨_, _, h⟩ := h; h
theorem valV_ints (n : Int) : ∀ l : List (Int × Int), valV (l.map fun p => ((.inl p.1 : Key), V.int p.2)) (.inl n) = (l.lookup n).map V.int
  | [] => rfl
  | p :: r => by
    rw [List.map_cons]
    obtain ⟨a, b⟩ := p
    rw [List.lookup_cons]
    by_cases e : n = a
    · subst e
      rw [valV_pos rfl]
      simp
    · rw [valV_neg (fun z => e (Sum.inl.inj z).symm), valV_ints n r]
      have : (n == a) = false := by simp [e]
      rw [this]
section
variable {Ex : XK} {te ta tb tc tv ty : TE} {es es' es1 es2 : Es} {i : Nat} {P : Po} {l : List (Int × Int)} {n m : Int}
theorem own_dct {W F H : Hp} {σ : L2.St} (c : Cfg G W F H σ es) (h : es[i]? = some (some (dctI G l))) : ∃ a, σ[i]? = some (some (.ref a)) ∧ H a = some (.dK (l.map fun p => ((.inl p.1 : Key), V.int p.2))) := by
  obtain ⟨v, m, e1, hm, dm, sm, ct⟩ := c.take h
  obtain ⟨a, rfl, rfl⟩ := hm.dctI
  exact ⟨a, e1, sm _ _ one_same⟩
theorem eo_dnew : EO G tDNewK es (dctI G []) es := fun W F H σ Q c k p hp => by
  obtain ⟨c3, d3⟩ := c.allocF (o := .dK []) hp
  exact k _ _ W _ (Same.refl _) d3 (Hold.of ⟨p, rfl, rfl⟩) c3
theorem ef_dnotin (h : EF G ty es (.int n) es) (hi : es[i]? = some (some (dctI G l))) : EF G (tDNotIn ty (tVar i)) es (.bl (!(l.lookup n).isSome)) es := fun W F H σ Q c k => h W F H σ _ c fun v W1 H1 s1 c1 i1 => by
  rw [is_int] at i1
  subst i1
  obtain ⟨a, e1, e2⟩ := own_dct c1 hi
  refine ⟨_, e1, a, _, rfl, .inl ⟨_, .inl n, .inl e2, rfl, rfl⟩, ?_⟩
  rw [valV_ints, Option.isSome_map]
  exact k _ W1 H1 s1 c1 (is_bl.mpr rfl)
theorem ef_dget (hi : es[i]? = some (some (dctI G l))) (h : EF G ty es (.int n) es) (hl : l.lookup n = some m) : EF G (tDGet (tVar i) ty) es (.int m) es := fun W F H σ Q c k => by
  obtain ⟨a0, e0, _⟩ := own_dct c hi
  refine ⟨_, e0, h W F H σ _ c fun v W1 H1 s1 c1 i1 => ?_⟩
  rw [is_int] at i1
  subst i1
  obtain ⟨a, e1, e2⟩ := own_dct c1 hi
  rw [e0] at e1
  cases e1
  exact ⟨a0, .int m, rfl, .inl ⟨_, .inl n, .inl e2, rfl, by rw [valV_ints, hl]; rfl⟩, k _ W1 H1 s1 c1 (is_int.mpr rfl)⟩
theorem s_dput (hv : EF G tv es (.int m) es) (hi : es[i]? = some (some (dctI G l))) (h : EF G ty es (.int n) es) (hl : l.lookup n = none) (hz : l.length < 100000) (k : P.nx (es.set i (some (dctI G (l ++ [(n, m)]))))) : S G Ex (sDPut (tVar i) ty tv) es P := fun W F H σ D c p => hv W F H σ _ c fun v W0 H0 s0 c0 i0 => by
  rw [is_int] at i0
  subst i0
  obtain ⟨a0, e0, _⟩ := own_dct c0 hi
  refine ⟨_, e0, h W0 F H0 σ _ c0 fun w W1 H1 s1 c1 i1 => ?_⟩
  rw [is_int] at i1
  subst i1
  obtain ⟨v', m', e1, hm, dm, sm, ct⟩ := c1.take hi
  obtain ⟨a, rfl, rfl⟩ := hm.dctI
  rw [e0] at e1
  cases e1
  have eH := sm _ _ one_same
  have ek : putK (l.map fun p => ((.inl p.1 : Key), V.int p.2)) (.inl n) (V.int m) = (l ++ [(n, m)]).map fun p => ((.inl p.1 : Key), V.int p.2) := by
    unfold putK
    rw [valV_any, valV_ints, hl]
    simp
  refine ⟨a0, _, rfl, .inl ⟨_, .inl n, eH, rfl, sz_lt (by rw [List.length_map]; exact hz), rfl⟩, ?_⟩
  rw [ek]
  obtain ⟨c3, d3⟩ := ct.write (o' := .dK ((l ++ [(n, m)]).map fun p => ((.inl p.1 : Key), V.int p.2))) dm (fun ps z => by cases z) (fun c0 q z => by unfold LamX.CodeO at z; cases z)
  have c4 := c3.give (i := i) (φ := dctI G (l ++ [(n, m)])) d3 e0 (Hold.of ⟨a0, rfl, rfl⟩)
  rw [List.set_set] at c4
  exact p.nx _ W1 _ σ k (s0.trans s1) c4
end
/-! ### a class's constant, list(range(n)) -/
theorem ef_cval {te : TE} {es es1 : Es} {C : Addr} {mc : Value} {f : Str} {n : Int} {u : Value} (h : EF G te es (.raw C) es1) (r : ClX.CRead G.K C mc) (k : ClX.CVal G.K C mc f (.int n) u) : EF G (ClX.tCVal G.K te f) es (.int n) es1 := fun W F H σ Q c kk => h W F H σ _ c fun v W1 H1 s1 c1 i1 => by
  rw [is_raw] at i1
  exact ⟨C, mc, .int n, u, i1, r, k, kk _ W1 H1 s1 c1 (is_int.mpr rfl)⟩
theorem pe_cvalK {X : Cx} {e : Expr} {f : Str} {pos : Pos} {ta : TE} (K : PySem.W.Frag) (h : X.K = K) (he : PE X e ta) (hb : attributeBase e f X.env (eval e X.env) = eval e X.env := by rfl) : PE X (.Attribute e f pos) (ClX.tCVal K ta f) := h ▸ ClX.pe_cval he hb
/-- 0 .. n - 1 -/
def upto (n : Int) : List Int := (List.range n.toNat).map Int.ofNat
theorem upto_len (n : Int) : (upto n).length = n.toNat := by simp [upto]
theorem eo_listRg {te : TE} {es es1 : Es} {n : Int} (h : EF G te es (.int n) es1) (h1 : n ≤ 100000) (h0 : -100000 ≤ n) : EO G (tLstRg (tRg1 te)) es (lst G (dI (upto n))) es1 := fun W F H σ Q c k => h W F H σ _ c fun v W1 H1 s1 c1 i1 => by
  rw [is_int] at i1
  refine ⟨n, i1, ⟨by omega, by omega, by omega, by omega, by omega⟩, fun p hp => ?_⟩
  obtain ⟨c3, d3⟩ := c1.allocF (o := .lst (rgV 0 n)) hp
  refine k _ _ W1 _ s1 d3 (hold_lst ?_) c3
  have e : rgV 0 n = (upto n).map V.int := by
    unfold rgV upto
    rw [List.map_map, Int.sub_zero]
    apply List.map_congr_left
    intro i _
    simp
  rw [e]
  exact isL_ints
end DL

namespace DL
open PySem L2 PySem.Spec PyProof.Rows
variable {G : Ct}
theorem un_assoc {a b c : Hp} : un (un a b) c = un a (un b c) := by
  funext x
  cases q : a x with
  | some o => rw [un_l q, un_l (un_l q)]
  | none =>
    rw [un_r (m := a) q]
    cases q2 : b x with
    | some o => rw [un_l q2, un_l (by rw [un_r q]; exact q2)]
    | none => rw [un_r q2, un_r (by rw [un_none]; exact ⟨q, q2⟩)]
theorem un_comm {a b : Hp} (d : Dis a b) : un a b = un b a := by
  funext x
  rcases d x with q | q
  · cases q2 : b x with
    | some o => rw [un_r q, un_l q2, q2]
    | none => rw [un_r q, un_r q2, q, q2]
  · cases q2 : a x with
    | some o => rw [un_l q2, un_r q, q2]
    | none => rw [un_r q2, un_r q, q, q2]
theorem Dis.un_r {m n k : Hp} (h : Dis m n) (h' : Dis m k) : Dis m (DL.un n k) := (h.symm.un h'.symm).symm
/-! ### lists of lists of our own -/
def nestM (G : Ct) (W : Hp) : List (List D) → List V → Hp → Prop
  | [], vs, m => vs = [] ∧ m = emp
  | ds :: r, vs, m => ∃ a ws vs' m', vs = .ref a :: vs' ∧ IsL G W ds ws ∧ m = un (one a (.lst ws)) m' ∧ Dis (one a (.lst ws)) m' ∧ nestM G W r vs' m'
theorem nestM.mono {W W' : Hp} (e : Same W W') : ∀ {dss : List (List D)} {vs : List V} {m : Hp}, nestM G W dss vs m → nestM G W' dss vs m
  | [], _, _, h => h
  | ds :: r, vs, m, h => by
    obtain ⟨a, ws, vs', m', h1, h2, h3, h4, h5⟩ := h
    exact ⟨a, ws, vs', m', h1, h2.mono e, h3, h4, h5.mono e⟩
theorem nestM.snoc {W : Hp} {a : Addr} {ds : List D} {ws : List V} (hw : IsL G W ds ws) : ∀ {dss : List (List D)} {vs : List V} {m : Hp}, nestM G W dss vs m → Dis m (one a (.lst ws)) → nestM G W (dss ++ [ds]) (vs ++ [.ref a]) (un m (one a (.lst ws)))
  | [], vs, m, h, d => by
    obtain ⟨rfl, rfl⟩ := h
    exact ⟨a, ws, [], emp, rfl, hw, by rw [un_emp, un_comm dis_emp.symm, un_emp], dis_emp.symm, rfl, rfl⟩
  | ds' :: r, vs, m, h, d => by
    obtain ⟨b, ws', vs', m', rfl, h2, rfl, h4, h5⟩ := h
    exact ⟨b, ws', vs' ++ [.ref a], un m' (one a (.lst ws)), rfl, h2, un_assoc, h4.un_r d.of_un_l, nestM.snoc hw h5 d.of_un_r⟩
def nst (G : Ct) (dss : List (List D)) : Ent := fun W v m => ∃ a vs m', v = .ref a ∧ m = un (one a (.lst vs)) m' ∧ Dis (one a (.lst vs)) m' ∧ nestM G W dss vs m'
theorem Hold.nst {dss : List (List D)} {W : Hp} {v : V} {m : Hp} (h : Hold (nst G dss) W v m) : ∃ a vs m', v = .ref a ∧ m = un (one a (.lst vs)) m' ∧ Dis (one a (.lst vs)) m' ∧ nestM G W dss vs m' :=
  let ⟨_, e, a, vs, m', h1, h2, h3, h4⟩ := h
  ⟨a, vs, m', h1, h2, h3, h4.mono e⟩
/-- the inner lists do not change any more -/
theorem freezeN {F H : Hp} {σ : L2.St} {es : Es} : ∀ {dss : List (List D)} {W : Hp} {vs : List V} {m : Hp}, nestM G W dss vs m → Cfg G W (un m F) H σ es → Dis m F → ∃ W', Same W W' ∧ Cfg G W' F H σ es ∧ IsL G W' (dss.map .lst) vs
  | [], W, vs, m, h, c, d => by
    obtain ⟨rfl, rfl⟩ := h
    rw [un_emp] at c
    exact ⟨W, Same.refl _, c, IsL.nil⟩
  | ds :: r, W, vs, m, h, c, d => by
    obtain ⟨b, ws, vs', m', rfl, h2, rfl, h4, h5⟩ := h
    rw [un_assoc] at c
    obtain ⟨c2, s2⟩ := c.freeze (h4.un_r d.of_un_l)
    obtain ⟨W3, s3, c3, i3⟩ := freezeN (h5.mono s2) c2 d.of_un_r
    exact ⟨W3, s2.trans s3, c3, IsL.cons (is_lst.mpr ⟨b, ws, rfl, s3 _ _ upd_same, h2.mono (s2.trans s3)⟩) i3⟩
section
variable {Ex : XK} {te tl ta : TE} {tt : TT} {tas : TA} {t u : TS} {es es1 : Es} {ds : List D} {dss r : List (List D)} {i j : Nat} {P : Po} {E : XK}
theorem eo_flat (h : EO G te es (nst G dss) es1) : EO G te es (lst G (dss.map .lst)) es1 := fun W F H σ Q c k => h W F H σ Q c fun v m W1 H1 s1 d1 hm c1 => by
  obtain ⟨a, vs, m', rfl, rfl, dm, hn⟩ := hm.nst
  have e : un (un (one a (.lst vs)) m') F = un m' (un (one a (.lst vs)) F) := by rw [un_comm dm, un_assoc]
  rw [e] at c1
  obtain ⟨W2, s2, c2, i2⟩ := freezeN hn c1 (dm.symm.un_r d1.of_un_r)
  exact k _ _ W2 H1 (s1.trans s2) d1.of_un_l (hold_lst i2) c2
/-- cell = row[0] -/
theorem q_head (h : es[i]? = some (some (nst G (ds :: r)))) (hj : j ≠ i) (hl : j < es.length) (k : ∀ b, S G Ex u ((es.set i (some (lst G (.raw b :: r.map .lst)))).set j (some (lstA G b ds))) P) : S G Ex (tSeq (tAsg (tOp (rIx G.K) (tVar i) (tC (.int 0))) (gName j)) u) es P := fun W F H σ D c pp => by
  obtain ⟨v, m, e1, hm, dm, sm, ct⟩ := c.take h
  obtain ⟨a, vs, m', rfl, rfl, da, hn⟩ := hm.nst
  obtain ⟨b, ws, vs', m2, rfl, h2, rfl, h4, h5⟩ := hn
  refine ⟨_, e1, .inl ⟨a, .ref b :: vs', 0, .ref b, rfl, rfl, SqL.of (sm _ _ (un_l one_same)), atI_nat (k := 0) rfl, ?_⟩⟩
  -- the rest frozen
  have dAB : Dis (one a (.lst (.ref b :: vs'))) (one b (.lst ws)) := da.symm.of_un_l.symm
  have dAM : Dis (one a (.lst (.ref b :: vs'))) m2 := da.symm.of_un_r.symm
  have e : un (un (one a (.lst (.ref b :: vs'))) (un (one b (.lst ws)) m2)) F = un m2 (un (one a (.lst (.ref b :: vs'))) (un (one b (.lst ws)) F)) := by
    rw [← un_assoc (a := one a _), un_comm (dAM.un h4), un_assoc, un_assoc]
  rw [e] at ct
  have dF2 : Dis (un (one b (.lst ws)) m2) F := dm.of_un_r
  obtain ⟨W2, s2, c2, i2⟩ := freezeN h5 ct (dAM.symm.un_r (h4.symm.un_r dF2.of_un_r))
  have c3 := c2.give (i := i) (φ := lst G (.raw b :: r.map .lst)) (dAB.un_r dm.of_un_l) e1 (hold_lst (IsL.cons (is_raw.mpr rfl) i2))
  rw [List.set_set] at c3
  have c4 := c3.store (i := j) (d := .non) (v := .non) (is_non.mpr rfl)
  have hls : j < σ.length := by
    have := (show es.length = σ.length from let ⟨_, q⟩ := c; q.len)
    omega
  have c5 : Cfg G W2 (un (one b (.lst ws)) F) H (σ.set j (some (.ref b))) ((es.set i (some (lst G (.raw b :: r.map .lst)))).set j none) := by
    obtain ⟨ms, c4⟩ := c4
    refine ⟨ms, ⟨fun k φ e => ?_, c4.dm, c4.dF, c4.dW, c4.dFW, c4.sW, c4.sF, c4.sm, c4.tab, c4.nt, by have := c4.len; simpa using this⟩⟩
    obtain ⟨e, n⟩ := get_set_none e
    obtain ⟨v', h1, h2⟩ := c4.at_ k φ (by rw [List.getElem?_set_ne (Ne.symm n)]; exact e)
    rw [List.getElem?_set_ne (Ne.symm n)] at h1
    exact ⟨v', by rw [List.getElem?_set_ne (Ne.symm n)]; exact h1, h2⟩
  have c6 := c5.give (i := j) (φ := lstA G b ds) dF2.of_un_l (List.getElem?_set_self hls) (hold_lstA (h2.mono s2))
  rw [List.set_set] at c6
  exact k b W2 F H _ D c6 (pp.mono s2)
/-! ### a comprehension whose items are lists of our own -/
def gotL (p : Nat → Bool) (f : Nat → List D) (n : Nat) : List (List D) := ((List.range n).filter p).map f
theorem gotL_yes {p : Nat → Bool} {f : Nat → List D} {n : Nat} (h : p n = true) : gotL p f (n + 1) = gotL p f n ++ [f n] := by
  unfold gotL
  rw [List.range_succ, List.filter_append, List.map_append, List.filter_cons, if_pos h]
  rfl
theorem gotL_no {p : Nat → Bool} {f : Nat → List D} {n : Nat} (h : p n = false) : gotL p f (n + 1) = gotL p f n := by
  unfold gotL
  rw [List.range_succ, List.filter_append, List.map_append, List.filter_cons, if_neg (by rw [h]; decide)]
  simp
theorem gotL_len (p : Nat → Bool) (f : Nat → List D) (n : Nat) : (gotL p f n).length ≤ n := by
  unfold gotL
  rw [List.length_map]
  have h := List.length_filter_le p (List.range n)
  rwa [List.length_range] at h
theorem nestM.len {W : Hp} : ∀ {dss : List (List D)} {vs : List V} {m : Hp}, nestM G W dss vs m → dss.length = vs.length
  | [], _, _, h => by rw [h.1]; rfl
  | _ :: _, _, _, h => by
    obtain ⟨a, ws, vs', m', rfl, _, _, _, h5⟩ := h
    simp [h5.len]
def PvN (G : Ct) (W0 F : Hp) (σ : L2.St) (j : Nat) (es : Es) (p : Nat → Bool) (f : Nat → List D) (Dl : Addr) (i : Nat) (H : Hp) : Prop :=
  ∃ W acc mN, Same W0 W ∧ Dis (one Dl (.lst acc)) (un mN F) ∧ Dis mN F ∧ Cfg G W (un (one Dl (.lst acc)) (un mN F)) H (L2.wipe σ [j]) es ∧ nestM G W (gotL p f i) acc mN
theorem eo_lcN {n : Nat} (p : Nat → Bool) (f : Nat → List D) (hl : EA G tas es [.int (n : Int)] es) (hz : n ≤ 100000) (hj : es[j]? = some none) (ht : ∀ i, i < n → ET G tt (es.set j (some (fr G (.int (i : Int))))) (p i) (es.set j (some (fr G (.int (i : Int))))))
    (he : ∀ i, i < n → p i = true → EO G te (es.set j (some (fr G (.int (i : Int))))) (lst G (f i)) (es.set j (some (fr G (.int (i : Int)))))) : EO G (tLc (iRng1 tas) (gName j) tt te [j]) es (nst G (gotL p f n)) es := fun W F H σ Q c k => hl W F H σ _ c fun vs W1 H1 s1 c1 i1 => by
  obtain ⟨v, rfl, hv⟩ := isL1 i1
  rw [is_int] at hv
  subst hv
  refine ⟨(n : Int), rfl, by omega, by omega, fun Dl hD => ?_⟩
  refine lc_range (lo := 0) (n := n) (PvN G W1 F σ j es p f Dl) ?_ (fun i H' hi q => ?_) fun H' q => ?_
  · obtain ⟨c2, d2⟩ := c1.allocF (o := .lst []) hD
    exact ⟨W1, [], emp, Same.refl _, by rw [un_emp]; exact d2, dis_emp, by rw [un_emp]; exact c2.wipe hj, rfl, rfl⟩
  · obtain ⟨W2, acc, mN, s2, dA, dN, c2, hn⟩ := q
    refine ⟨wipe1 σ j _, ?_⟩
    have c3 := c2.store (i := j) (d := .int (i : Int)) (v := .int (0 + (i : Int))) (is_int.mpr (by rw [Int.zero_add]))
    refine ht i hi W2 _ H' _ _ c3 fun W3 H3 s3 c4 => ?_
    have tidy : ∀ {W4 F4 H4 : Hp} {w : V}, Cfg G W4 F4 H4 ((L2.wipe σ [j]).set j (some w)) (es.set j (some (fr G (.int (i : Int))))) → Cfg G W4 F4 H4 (L2.wipe σ [j]) es := fun {W4 F4 H4 w} c => by
      have c5 := c.drop j
      rw [set_none_back hj] at c5
      obtain ⟨ms, c5⟩ := c5
      refine ⟨ms, ⟨fun k φ e => ?_, c5.dm, c5.dF, c5.dW, c5.dFW, c5.sW, c5.sF, c5.sm, c5.tab, c5.nt, by have := c5.len; simpa using this⟩⟩
      have nk : k ≠ j := fun z => by rw [z, hj] at e; cases e
      obtain ⟨v', h1, h2⟩ := c5.at_ k φ e
      rw [List.getElem?_set_ne (Ne.symm nk)] at h1
      exact ⟨v', h1, h2⟩
    cases hp : p i with
    | true =>
      refine (show te ((L2.wipe σ [j]).set j (some (.int (0 + (i : Int))))) H3 _ from he i hi hp W3 _ H3 _ _ c4 fun y m W4 H4 s4 dm hm c5 => ?_)
      obtain ⟨b, ws, rfl, iw, rfl⟩ := hm.lst
      have eF : un (one b (.lst ws)) (un (one Dl (.lst acc)) (un mN F)) = un (one Dl (.lst acc)) (un (un mN (one b (.lst ws))) F) := by
        rw [← un_assoc, un_comm dm.symm.of_un_l.symm, un_assoc, ← un_assoc (a := one b _), un_comm dm.symm.of_un_r.of_un_l.symm]
      have dBD : Dis (one b (.lst ws)) (one Dl (.lst acc)) := dm.symm.of_un_l.symm
      have dBN : Dis (one b (.lst ws)) mN := dm.symm.of_un_r.of_un_l.symm
      have dBF : Dis (one b (.lst ws)) F := dm.symm.of_un_r.of_un_r.symm
      rw [eF] at c5
      have dA2 : Dis (one Dl (.lst acc)) (un (un mN (one b (.lst ws))) F) := (dA.symm.of_un_l.symm.un_r dBD.symm).un_r dA.symm.of_un_r.symm
      have hH : H4 Dl = some (.lst acc) := c5.sF Dl _ (un_l one_same)
      refine ⟨acc, hH, sz_lt (by rw [← hn.len]; have := gotL_len p f i; omega), ?_⟩
      obtain ⟨c6, d6⟩ := cfg_wr (us := acc ++ [.ref b]) c5 dA2
      refine ⟨W4, acc ++ [.ref b], un mN (one b (.lst ws)), (s2.trans s3).trans s4, d6, dN.un dBF, tidy c6, ?_⟩
      rw [gotL_yes hp]
      exact (hn.mono (s3.trans s4)).snoc iw dBN.symm
    | false =>
      show PvN G W1 F σ j es p f Dl (i + 1) H3
      exact ⟨W3, acc, mN, s2.trans s3, dA, dN, tidy c4, by rw [gotL_no hp]; exact hn.mono s3⟩
  · obtain ⟨W2, acc, mN, s2, dA, dN, c2, hn⟩ := q
    rw [← un_assoc] at c2
    exact k _ _ W2 H' (s1.trans s2) (dA.symm.of_un_r.symm.un dN) (Hold.of ⟨Dl, acc, mN, rfl, rfl, dA.symm.of_un_l.symm, hn⟩) c2.unwipe
end
/-! ### a list of our own lent to a class's __init__ -/
mutual
def LF : D → Prop
  | .lst _ => False
  | .rol _ => False
  | .err _ _ _ _ => False
  | .tup ds => LFs ds
  | .ins _ _ ds => LFs ds
  | _ => True
def LFs : List D → Prop
  | [] => True
  | d :: ds => LF d ∧ LFs ds
end
def rmv (W : Hp) (a : Addr) : Hp := fun b => if b = a then none else W b
theorem rmv_ne {W : Hp} {a b : Addr} (h : b ≠ a) : rmv W a b = W b := by unfold rmv; rw [if_neg h]
theorem rmv_same {W : Hp} {a : Addr} : rmv W a a = none := by unfold rmv; rw [if_pos rfl]
theorem rmv_le {W : Hp} {a : Addr} : Same (rmv W a) W := fun b o e => by
  by_cases h : b = a
  · rw [h, rmv_same] at e; cases e
  · rw [rmv_ne h] at e; exact e
mutual
theorem Is.unlist {W : Hp} {a : Addr} {us : List V} (hW : W a = some (.lst us)) : ∀ {d : D} {v : V}, LF d → Is G W d v → Is G (rmv W a) d v
  | .non, v, _, h => by rw [is_non] at h ⊢; exact h
  | .bl b, v, _, h => by rw [is_bl] at h ⊢; exact h
  | .int b, v, _, h => by rw [is_int] at h ⊢; exact h
  | .str b, v, _, h => by rw [is_str] at h ⊢; exact h
  | .raw b, v, _, h => by rw [is_raw] at h ⊢; exact h
  | .ty b, v, _, h => by rw [is_ty] at h ⊢; exact h
  | .lst _, v, l, h => by unfold LF at l; exact l.elim
  | .rol _, v, l, h => by unfold LF at l; exact l.elim
  | .err _ _ _ _, v, l, h => by unfold LF at l; exact l.elim
  | .tup ds, v, l, h => by
    unfold LF at l
    rw [is_tup] at h ⊢
    obtain ⟨b, vs, rfl, h1, h2⟩ := h
    refine ⟨b, vs, rfl, ?_, IsL.unlist hW l h2⟩
    rcases h1 with (h1 | ⟨o, h1⟩) | h1
    · have n : b ≠ a := fun z => by rw [z, hW] at h1; cases h1
      exact .inl (.inl (by rw [rmv_ne n]; exact h1))
    · have n : b ≠ a := fun z => by rw [z, hW] at h1; cases h1
      exact .inl (.inr ⟨o, by rw [rmv_ne n]; exact h1⟩)
    · exact .inr h1
  | .ins C ns ds, v, l, h => by
    unfold LF at l
    rw [is_ins] at h ⊢
    obtain ⟨b, dx, vs, rfl, h1, h2, h3⟩ := h
    have n : b ≠ a := fun z => by rw [z, hW] at h1; cases h1
    exact ⟨b, dx, vs, rfl, by rw [rmv_ne n]; exact h1, h2, IsL.unlist hW l h3⟩
theorem IsL.unlist {W : Hp} {a : Addr} {us : List V} (hW : W a = some (.lst us)) : ∀ {ds : List D} {vs : List V}, LFs ds → IsL G W ds vs → IsL G (rmv W a) ds vs
  | [], vs, _, h => by unfold IsL at h ⊢; exact h
  | d :: ds, vs, l, h => by
    unfold LFs at l
    obtain ⟨v, ws, rfl, h1, h2⟩ := h.uncons
    exact IsL.cons (Is.unlist hW l.1 h1) (IsL.unlist hW l.2 h2)
end
theorem Cfg.unfreeze {W F H : Hp} {a : Addr} {us : List V} (c : Cfg G W F H [] []) (h : W a = some (.lst us)) : Cfg G (rmv W a) (un (one a (.lst us)) F) H [] [] ∧ Dis (one a (.lst us)) F := by
  obtain ⟨ms, c⟩ := c
  have hF : F a = none := by
    rcases c.dFW a with e | e
    · exact e
    · rw [h] at e; cases e
  have hd : Dis F (rmv W a) := fun b => by
    rcases c.dFW b with e | e
    · exact .inl e
    · by_cases q : b = a
      · rw [q]; exact .inr rmv_same
      · exact .inr (by rw [rmv_ne q]; exact e)
  have h1 : Dis (one a (.lst us)) (rmv W a) := dis_one rmv_same
  exact ⟨⟨fun _ => emp, ⟨fun i φ e => by simp at e, fun _ _ _ => dis_emp, fun _ => dis_emp, fun _ => dis_emp, h1.un hd, rmv_le.trans c.sW, (same_one (c.sW _ _ h)).un c.sF, fun _ => same_emp, c.tab,
    ⟨fun b ps z => c.nt.1 b ps (rmv_le _ _ z), nt_un (nt_one fun ps z => by cases z) c.nt.2.1, fun _ => nt_emp⟩, rfl⟩⟩, dis_one hF⟩
section
variable {es : Es} {i : Nat} {xs ys : List D} {Fn : Es → Out → Prop} {E : XK} {eo : Es} {Ci : Addr} {nsi : List Str}
theorem ef_makeB (hi : es[i]? = some (some (lst G xs))) (hf : ∀ a, Fn (some (insO G Ci a [] []) :: frs G [.lst xs]) (.ret (fr G .non) (some (insO G Ci a nsi ys) :: eo))) (hl : LFs ys) :
    EF G (tMake Ci (spOf G Fn 2) [] E (tCons (tVar i) tNil)) es (.ins Ci nsi ys) (es.set i (some (lst G xs))) := fun W F H σ Q c k => by
  obtain ⟨v, m, e1, hm, dm, sm, ct⟩ := c.take hi
  obtain ⟨b, ws, rfl, iw, rfl⟩ := hm.lst
  refine ⟨_, e1, ?_⟩
  intro a dx ha hdx hne
  show spOf G Fn 2 (.ref a :: ([.ref b] ++ [])) _ _ E
  obtain ⟨c2, s2⟩ := ct.allocW (o := .own a) hdx
  have ha2 : upd H dx (.own a) a = none := by rw [upd_ne (Ne.symm hne)]; exact ha
  obtain ⟨F1, d1, b1, back⟩ := c2.enterP dm
  have wb : upd W dx (.own a) b = none := by
    obtain ⟨ms, q⟩ := b1
    rcases q.dFW b with e | e
    · rw [un_none, one_same] at e; cases e.1
    · exact e
  obtain ⟨b2, s3⟩ := b1.freeze d1
  obtain ⟨b3, d3⟩ := b2.allocF (o := .ins Ci dx []) ha2
  have h0 : Hold (insO G Ci a [] []) (upd (upd W dx (.own a)) b (.lst ws)) (.ref a) (one a (.ins Ci dx [])) := Hold.of ⟨dx, [], rfl, rfl, rfl, IsL.nil⟩
  refine ⟨_, F1, _, _, rfl, params1 b3 d3 (IsL.one (is_lst.mpr ⟨b, ws, rfl, upd_same, iw.mono (s2.trans s3)⟩)) h0, hf a, fun v m W' H' s dm hm c' => ?_⟩
  have hv := hm.fr
  rw [is_non] at hv
  refine ⟨hv, ?_⟩
  have c3 := c'.lose dm
  obtain ⟨v3, m3, e3, h3, d4, c4⟩ := c3.take0 (i := 0) (φ := insO G Ci a nsi ys) rfl
  obtain ⟨dx', vs', rfl, rfl, hn, il⟩ := h3.insO
  obtain ⟨c5, s5⟩ := c4.freeze d4
  have hb : upd W' a (.ins Ci dx' (nsi.zip vs')) b = some (.lst ws) := s5 _ _ (s _ _ upd_same)
  obtain ⟨c6, d6⟩ := c5.unfreeze hb
  have s6 : Same (upd W dx (.own a)) (rmv (upd W' a (.ins Ci dx' (nsi.zip vs'))) b) := fun x o e => by
    have n : x ≠ b := fun z => by rw [z, wb] at e; cases e
    rw [rmv_ne n]
    exact s5 _ _ (s _ _ (s3 _ _ e))
  obtain ⟨d7, c7⟩ := back (one b (.lst ws)) _ H' s6 d6 c6
  have c8 := c7.give (i := i) (φ := lst G xs) d7 e1 (hold_lst (iw.mono (s2.trans s6)))
  rw [List.set_set] at c8
  exact k (.ref a) _ H' (s2.trans s6) c8 (Is.unlist hb (by unfold LF; exact hl) (is_ins.mpr ⟨a, dx', vs', rfl, upd_same, hn, il.mono s5⟩))
end
/-! ### len, == of an instance by its own methods -/
section
variable {tas : TA} {ta tb : TE} {es es1 es2 : Es} {C : Addr} {ns : List Str} {ds : List D} {Fn : Es → Out → Prop} {E : XK} {eo : Es}
theorem ef_olen {m : Int} (h : EA G tas es [.ins C ns ds] es1) (hf : Fn (frs G [.ins C ns ds]) (.ret (fr G (.int m)) eo)) (hm : 0 ≤ m ∧ m < 2 ^ 62) : EF G (tCB (rOLen C (spOf G Fn 1) E) tas) es (.int m) es1 := fun W F H σ Q c k => h W F H σ _ c fun vs W1 H1 s1 c1 i1 => by
  obtain ⟨v, rfl, hv⟩ := isL1 i1
  have hv' := hv
  rw [is_ins] at hv'
  obtain ⟨a, dx, us, rfl, h1, h2, h3⟩ := hv'
  exact ⟨a, dx, _, rfl, c1.sW _ _ h1, call_in c1 i1 rfl hf fun v m' W' H' s dm hm' c' => ⟨m, is_int.mp hm'.fr, hm, k _ W' H' (s1.trans s) (c'.lose dm) (is_int.mpr rfl)⟩⟩
theorem ef_oeq {neg b : Bool} {y : D} {t : Value} (ha : EF G ta es (.ins C ns ds) es1) (hb : EF G tb es1 y es2) (ty : TyD G.K y t) (nf : PySem.W.notFirst G.K C t = true) (hf : Fn (frs G [.ins C ns ds, y]) (.ret (fr G (.bl b)) eo)) : EF G (tOp (rOEq G.K C (spOf G Fn 2) E neg) ta tb) es (.bl (if neg then !b else b)) es2 := fun W F H σ Q c k =>
  ha W F H σ _ c fun v1 W1 H1 s1 c1 i1 => hb W1 F H1 σ _ c1 fun v2 W2 H2 s2 c2 i2 => by
    have i1' := i1.mono s2
    have i1q := i1'
    rw [is_ins] at i1q
    obtain ⟨a, dx, us, rfl, h1, h2, h3⟩ := i1q
    exact ⟨a, dx, _, t, rfl, c2.sW _ _ h1, tyx_of c2.sW ty i2, nf, call_in c2 (IsL.cons i1' (IsL.one i2)) rfl hf fun v m' W' H' s dm hm' c' => ⟨b, is_bl.mp hm'.fr, k _ W' H' ((s1.trans s2).trans s) (c'.lose dm) (is_bl.mpr rfl)⟩⟩
end
end DL

namespace DL
open PySem L2
variable {G : Ct}
/-! ### comprehensions, the common forms -/
section
variable {te tl : TE} {tt : TT} {tas : TA} {es : Es} {j : Nat}
theorem lc_R {n : Nat} (p : Nat → Bool) (f : Nat → D) (hl : EA G tas es [.int (n : Int)] es) (hz : n ≤ 100000) (hj : es[j]? = some none) (ht : ∀ i, i < n → ET G tt (es.set j (some (fr G (.int (i : Int))))) (p i) (es.set j (some (fr G (.int (i : Int))))))
    (he : ∀ i, i < n → p i = true → EF G te (es.set j (some (fr G (.int (i : Int))))) (f i) (es.set j (some (fr G (.int (i : Int)))))) : EO G (tLc (iRng1 tas) (gName j) tt te [j]) es (lst G (((List.range n).filter p).map f)) es :=
  eo_lcR (n := (n : Int)) (fun _ => es) p f hl (by omega) (by omega) hj fun i hi => ⟨hj, ht i (by omega), fun hp => ⟨he i (by omega) hp, hj⟩, fun _ => rfl⟩
theorem filter_at {α : Type} (p : α → Bool) (f : α → D) (z : α) (l : List α) : ((List.range l.length).filter fun i => p (l.getD i z)).map (fun i => f (l.getD i z)) = (l.filter p).map f := by
  have e : (List.range l.length).map (fun i => l.getD i z) = l := by
    apply List.ext_getElem
    · simp
    · intro i h1 h2
      simp [List.getElem?_eq_getElem h2]
  have h := congrArg (fun m : List α => (m.filter p).map f) e
  simp only [List.filter_map, List.map_map] at h
  exact h
theorem dI_get {l : List Int} {i : Nat} {x : D} (h : (dI l)[i]? = some x) : i < l.length ∧ x = .int (l.getD i 0) := by
  unfold dI at h
  rw [List.getElem?_map] at h
  cases q : l[i]? with
  | none => rw [q] at h; cases h
  | some n =>
    rw [q] at h
    cases h
    refine ⟨(List.getElem?_eq_some_iff.mp q).1, ?_⟩
    rw [List.getD_eq_getElem?_getD, q]
    rfl
theorem dI_len (l : List Int) : (dI l).length = l.length := by unfold dI; rw [List.length_map]
theorem dI_map {α : Type} (g : α → Int) (l : List α) : l.map (fun x => D.int (g x)) = dI (l.map g) := by unfold dI; rw [List.map_map]; rfl
theorem dI_app (l m : List Int) : dI l ++ dI m = dI (l ++ m) := by unfold dI; rw [List.map_append]
theorem dI_one (n : Int) : [D.int n] = dI [n] := rfl
theorem lc_I {l : List Int} (p : Int → Bool) (f : Int → D) (hl : EF G tl es (.lst (dI l)) es) (hz : l.length ≤ 100000) (hj : es[j]? = some none) (ht : ∀ n ∈ l, ET G tt (es.set j (some (fr G (.int n)))) (p n) (es.set j (some (fr G (.int n)))))
    (he : ∀ n ∈ l, p n = true → EF G te (es.set j (some (fr G (.int n)))) (f n) (es.set j (some (fr G (.int n))))) : EO G (tLc (iList G.K tl) (gName j) tt te [j]) es (lst G ((l.filter p).map f)) es := by
  have h := eo_lcL (G := G) (j := j) (tt := tt) (te := te) (fun _ => es) (fun i => p (l.getD i 0)) (fun i => f (l.getD i 0)) hl (by rw [dI_len]; exact hz) hj fun i x hx => by
    obtain ⟨h1, rfl⟩ := dI_get hx
    have hm : l.getD i 0 ∈ l := by rw [List.getD_eq_getElem?_getD, List.getElem?_eq_getElem h1]; exact List.getElem_mem h1
    exact ⟨hj, ht _ hm, fun hp => ⟨he _ hm hp, hj⟩, fun _ => rfl⟩
  rw [dI_len] at h
  unfold got at h
  rw [filter_at p f 0 l] at h
  exact h
end
def gi (l : List Int) (n : Int) : Int := l.getD n.toNat 0
theorem gi_nat (l : List Int) (i : Nat) : gi l (i : Int) = l.getD i 0 := rfl
theorem at_dI {l : List Int} {n : Int} (h0 : 0 ≤ n) (h1 : n < l.length) : atI (dI l) n = some (.int (gi l n)) := by
  obtain ⟨k, rfl⟩ := Int.eq_ofNat_of_zero_le h0
  have hk : k < l.length := by omega
  refine atI_nat ?_
  unfold dI gi
  rw [List.getElem?_map, List.getElem?_eq_getElem hk]
  simp [List.getD_eq_getElem?_getD, hk]
theorem a_ixI {l : List Int} {n : Int} (h0 : 0 ≤ n) (h1 : n < l.length) : R2P G (rIx G.K) (.lst (dI l)) (.int n) (.int (gi l n)) := a_ixL (at_dI h0 h1)
theorem a_ixJ {l : List Int} {n : Int} (h0 : 0 ≤ n) (h1 : n < l.length) : R2P G (rIx G.K) (.tup (dI l)) (.int n) (.int (gi l n)) := a_ixT (at_dI h0 h1)
theorem a_lenI {l : List Int} : RCP G (rLenA G.K) [.lst (dI l)] (.int l.length) := by
  have h := a_lenL (G := G) (ds := dI l)
  rw [dI_len] at h
  exact h
/-- where each item of a list stands first -/
def lowI (l : List Int) : List Int := l.map fun m => (l.idxOf m : Int)
theorem lowI_len (l : List Int) : (lowI l).length = l.length := by unfold lowI; rw [List.length_map]
theorem filter_true {α : Type} (l : List α) : l.filter (fun _ => true) = l := List.filter_eq_self.mpr fun _ _ => rfl
end DL
namespace K
open PySem L2 PySem.Spec PyProof.Rows DL
local macro_rules | `(tactic| walk_at "sd") => `(tactic| first | assumption | omega | decide | (simp only [DL.dI_len, DL.lowI_len, DL.upto_len, List.length_map] at *; omega))
local macro_rules | `(tactic| walk_at "r2") => `(tactic| first | exact DL.a_addI | exact DL.a_sub | exact DL.a_lt | exact DL.a_le | exact DL.a_gt | exact DL.a_ge | exact DL.a_eqI | exact DL.a_neI | exact DL.a_eqS | exact DL.a_neS | exact DL.a_isN | exact DL.a_notN | exact DL.a_isC | exact DL.a_mod (by walk_at "sd") | exact DL.a_ixI (by walk_at "sd") (by walk_at "sd") | exact DL.a_ixJ (by walk_at "sd") (by walk_at "sd"))
local macro_rules | `(tactic| walk_at "rc") => `(tactic| first | exact DL.a_lenI | exact DL.a_lenL | exact DL.a_lenT | exact DL.a_int | exact DL.a_tupL)
local macro_rules | `(tactic| walk_at "ev") => `(tactic| first | exact DL.ef_int | exact DL.ef_bl | exact DL.ef_str | exact DL.ef_non | exact DL.ef_ty | exact DL.ef_raw | exact DL.ef_var rfl | exact DL.ea_nil | exact DL.et_yes | (refine' DL.ea_cons ?a ?b; (case a => walk_at "ev"); (case b => walk_at "ev")) | (refine' DL.et_test ?a; (case a => walk_at "ev")) | (refine' DL.et_B ?a; (case a => walk_at "ev")) | (refine' DL.et_not ?a; (case a => walk_at "ev")) | (refine' DL.et_or ?a fun _ => ?b; (case a => walk_at "ev"); (case b => walk_at "ev")) | (refine' DL.et_and ?a fun _ => ?b; (case a => walk_at "ev"); (case b => walk_at "ev")) | (refine' DL.ef_op ?a ?b ?c; (case a => walk_at "ev"); (case b => walk_at "ev"); (case c => walk_at "r2")) | (refine' DL.ef_cb ?a ?b; (case a => walk_at "ev"); (case b => walk_at "rc")) | (refine' DL.ef_cbT ?a ?b; (case a => walk_at "ev"); (case b => walk_at "rc")) | (refine' DL.ef_un ?a; (case a => walk_at "ev")) | (refine' DL.ef_fld 0 ?a ?f ?d ?c ?n; (case a => walk_at "ev"); (case f => decide +kernel); (case d => rfl); (case c => assumption); (case n => assumption)) | (refine' DL.ef_fld 1 ?a ?f ?d ?c ?n; (case a => walk_at "ev"); (case f => decide +kernel); (case d => rfl); (case c => assumption); (case n => assumption)))
def top (i : Nat) : Stmt := PySem.Challenge.pw_thinwall_k00_split_tells_its_cells.main.body.getD i (.Pass ⟨0, 0, 0, 0⟩)
/-- the classes -/
structure Ad where
  Split : Addr
  BadSize : Addr
  UnknownCase : Addr
  SizeMismatch : Addr
  ThinwallError : Addr
structure Txt (G : Ct) (mg : Str → Option Value) (A : Ad) : Prop where
  b_len : mg "len" = none
  b_range : mg "range" = none
  b_enumerate : mg "enumerate" = none
  b_list : mg "list" = none
  b_tuple : mg "tuple" = none
  b_int : mg "int" = none
  b_str : mg "str" = none
  b_bool : mg "bool" = none
  b_isinstance : mg "isinstance" = none
  b_ValueError : mg "ValueError" = none
  g_Split : mg "Split" = some (.ref A.Split)
  g_BadSize : mg "BadSize" = some (.ref A.BadSize)
  g_UnknownCase : mg "UnknownCase" = some (.ref A.UnknownCase)
  g_SizeMismatch : mg "SizeMismatch" = some (.ref A.SizeMismatch)
  g_ThinwallError : mg "ThinwallError" = some (.ref A.ThinwallError)
  cl : Cls G.K A.Split
  na0 : NoAttr G.K A.Split "size"
  na1 : NoAttr G.K A.Split "_marks"
  most : ∃ mc u, ClX.CRead G.K A.Split mc ∧ ClX.CVal G.K A.Split mc "MOST" (.int 12) u
section
variable {P : Program} {w : World} {G : Ct} {mg : Str → Option Value} {base : Heap} {A : Ad}
/-! ### least_marks -/
abbrev st_least_marks : Stmt := top 9
theorem sc_least_marks : FnScope ["marks", "firsts", "found", "index", "mark"] ["marks"] (defScope st_least_marks) := ⟨rfl, rfl, rfl, by decide +kernel, rfl, by decide +kernel, by decide +kernel⟩

theorem idxOf_new {l : List Int} {i : Nat} (h : i < l.length) (hn : l.getD i 0 ∉ l.take i) : l.idxOf (l.getD i 0) = i := by
  have e : l.getD i 0 = l[i] := by rw [List.getD_eq_getElem?_getD, List.getElem?_eq_getElem h]; rfl
  rw [e] at hn ⊢
  have e2 : l = l.take i ++ (l[i] :: l.drop (i + 1)) := by rw [← List.drop_eq_getElem_cons h, List.take_append_drop]
  generalize l[i] = x at hn e2
  rw [e2, List.idxOf_append, if_neg hn, List.idxOf_cons_self, List.length_take]
  omega
theorem lookup_app {α : Type} (n : Int) (x : α) : ∀ t : List (Int × α), ∀ m, (t ++ [(n, x)]).lookup m = match t.lookup m with
    | some y => some y
    | none => if m = n then some x else none
  | [], m => by
    rw [List.nil_append, List.lookup_cons]
    by_cases e : m = n
    · simp [e]
    · have : (m == n) = false := by simp [e]
      simp [this, e]
  | (a, b) :: t, m => by
    rw [List.cons_append, List.lookup_cons, List.lookup_cons]
    cases h : (m == a) with
    | true => rfl
    | false => exact lookup_app n x t m
theorem take_next {l : List Int} {i : Nat} (h : i < l.length) : l.take (i + 1) = l.take i ++ [l.getD i 0] := by
  rw [List.take_add_one, List.getElem?_eq_getElem h, List.getD_eq_getElem?_getD, List.getElem?_eq_getElem h]
  rfl
theorem lowI_get {l : List Int} {i : Nat} (h : i < l.length) : (lowI l).getD i 0 = (l.idxOf (l.getD i 0) : Int) := by
  unfold lowI
  rw [List.getD_eq_getElem?_getD, List.getElem?_map, List.getElem?_eq_getElem h, List.getD_eq_getElem?_getD, List.getElem?_eq_getElem h]
  rfl
def fn_least (G : Ct) : Es → Out → Prop := fun es o => ∃ l : List Int, l.length ≤ 1000 ∧ es = frs G [.lst (dI l)] ∧ o = .ret (lst G (dI (lowI l))) es
theorem use_least {l : List Int} (h : l.length ≤ 1000) : fn_least G (frs G [.lst (dI l)]) (.ret (lst G (dI (lowI l))) (frs G [.lst (dI l)])) := ⟨l, h, rfl, rfl⟩
theorem ok_least {f fd} (F : Fun G.K "least_marks" "least_marks" st_least_marks f fd) (T : Txt G mg A) : FnOk P w G.K mg base CX0 1 f fd ["marks"] (spOf G (fn_least G) 1) := by
  refine ok_of (N := ["marks", "firsts", "found", "index", "mark"]) F sc_least_marks fun cdv A' outer s H E hr => ⟨_, (pss_cons (ps_set (i := 1) sc_least_marks.nd rfl (by first | exact Or.inl rfl | exact Or.inr rfl) pe_dnewK) (pss_cons (ps_set (i := 2) sc_least_marks.nd rfl (by first | exact Or.inl rfl | exact Or.inr rfl) (pe_lst pa_nil)) (pss_cons (ps_for PassesOwn.never rfl (pi_enumK G.K rfl (by rfl) T.b_enumerate (pa_cons (pv 0) pa_nil)) (pg_tupK G.K rfl rfl (pgs_cons (pg_name (i := 3) sc_least_marks.nd rfl (by first | exact Or.inl rfl | exact Or.inr rfl)) (pgs_cons (pg_name (i := 4) sc_least_marks.nd rfl (by first | exact Or.inl rfl | exact Or.inr rfl)) pgs_nil))) (pss_cons (ps_if (pt_cmp (pc_dnotin (hu_of hr) (pv 4) (pv 1))) (pss_one (ps_dput (hu_of hr) (pv 1) (pv 4) (pv 3) rfl)) pss_nil) (pss_one (ps_expr (pe_bmK G.K rfl PySem.F.plainAttrs_list PySem.F.slot_list_append PySem.F.type_list_append mt_append (pv 2) (pa_cons (pe_dget (hu_of hr) (pv 1) (pv 4) (fun _ _ => rfl)) pa_nil)))))) (pss_one (ps_ret (pv 2)))))), ?_⟩
  rintro Ex es o ⟨l, hl, rfl, rfl⟩
  show S G _ _ [some (fr G (.lst (dI l))), none, none, none, none] _
  refine q_asgO eo_dnew (q_asgO (eo_lst ea_nil) ?_)
  refine s_seq (s_forE (by walk_at "ev") (fun i e => ∃ t x3 x4, e = [some (fr G (.lst (dI l))), some (dctI G t), some (lst G (dI ((lowI l).take i))), x3, x4] ∧ (∀ n, t.lookup n = if n ∈ l.take i then some (l.idxOf n : Int) else none) ∧ t.length ≤ i)
    ⟨[], none, none, rfl, fun n => by simp, Nat.le_refl _⟩ ?_ ?_)
  · rintro i x e hx ⟨t, x3, x4, rfl, ht, hz⟩
    obtain ⟨hi, rfl⟩ := dI_get hx
    refine ⟨_, ag_tup2 ag_name ag_name, ?_⟩
    have rest : ∀ (t' : List (Int × Int)) (P' : Po), (∀ n, t'.lookup n = if n ∈ l.take (i + 1) then some (l.idxOf n : Int) else none) → P'.nx [some (fr G (.lst (dI l))), some (dctI G t'), some (lst G (dI ((lowI l).take (i + 1)))), some (fr G (.int (i : Int))), some (fr G (.int (l.getD i 0)))] →
        S G Ex (tDrop (tBM G.K "list" rAppend (tVar 2) (tCons (tDGet (tVar 1) (tVar 4)) tNil))) [some (fr G (.lst (dI l))), some (dctI G t'), some (lst G (dI ((lowI l).take i))), some (fr G (.int (i : Int))), some (fr G (.int (l.getD i 0)))] P' := fun t' P' h1 k => by
      refine s_drop (ef_bmO (i := 2) (ea_cons (ef_dget (i := 1) (n := l.getD i 0) (m := (l.idxOf (l.getD i 0) : Int)) rfl (ef_var rfl) (by rw [h1, take_next hi]; simp)) ea_nil) rfl rfl (ml_append (by rw [dI_len, List.length_take]; omega))) ?_
      rw [take_next (l := lowI l) (by rw [lowI_len]; exact hi), lowI_get hi, ← dI_app] at k
      exact k
    show S G _ _ [some (fr G (.lst (dI l))), some (dctI G t), some (lst G (dI ((lowI l).take i))), some (fr G (.int (i : Int))), some (fr G (.int (l.getD i 0)))] _
    refine q_when (et_test (ef_dnotin (i := 1) (ef_var rfl) rfl)) (fun hb => ?_) fun hb => ?_
    · have hn : t.lookup (l.getD i 0) = none := by simpa using hb
      have hn2 : l.getD i 0 ∉ l.take i := fun z => by rw [ht, if_pos z] at hn; cases hn
      have hx : ∀ n, (t ++ [(l.getD i 0, (i : Int))]).lookup n = if n ∈ l.take (i + 1) then some (l.idxOf n : Int) else none := fun n => by
        rw [lookup_app, ht, take_next hi]
        by_cases h1 : n ∈ l.take i
        · rw [if_pos h1]; simp [h1]
        · rw [if_neg h1]
          by_cases h2 : n = l.getD i 0
          · subst h2
            simp only [if_true]
            rw [idxOf_new hi hn2]
            simp
          · simp only [if_neg h2]
            simp only [List.mem_append, List.mem_singleton, h1, h2, or_self, if_false]
      exact s_dput (i := 1) (ef_var rfl) rfl (ef_var rfl) hn (by omega) (rest _ _ hx ⟨_, _, _, rfl, hx, by simp; omega⟩)
    · have hn : (t.lookup (l.getD i 0)).isSome = true := by simpa using hb
      have hm : l.getD i 0 ∈ l.take i := by
        rw [ht] at hn
        split at hn
        · assumption
        · cases hn
      have hx : ∀ n, t.lookup n = if n ∈ l.take (i + 1) then some (l.idxOf n : Int) else none := fun n => by
        rw [ht, take_next hi]
        by_cases h1 : n ∈ l.take i
        · simp [h1]
        · have h2 : n ≠ l.getD i 0 := fun z => h1 (z ▸ hm)
          simp only [List.mem_append, List.mem_singleton, h1, h2, or_self, if_false]
      exact rest t _ hx ⟨_, _, _, rfl, hx, by omega⟩
  · rintro e ⟨t, x3, x4, rfl, ht, hz⟩
    refine s_retO (eo_var rfl) ⟨?_, back_frs⟩
    rw [dI_len, List.take_of_length_le (by rw [lowI_len]; exact Nat.le_refl _)]
/-! ### the checks -/
abbrev st_check_size : Stmt := top 12
theorem sc_check_size : FnScope ["size"] ["size"] (defScope st_check_size) := ⟨rfl, rfl, rfl, by decide +kernel, rfl, by decide +kernel, by decide +kernel⟩

def fn_size (G : Ct) (A : Ad) : Es → Out → Prop := fun es o => ∃ n : Int, n.natAbs.log2 < 1920 ∧ es = frs G [.int n] ∧ ((1 ≤ n ∧ n ≤ 12 ∧ o = .ret (fr G .non) es) ∨ (¬ (1 ≤ n ∧ n ≤ 12) ∧ o = .exc A.BadSize ["size"] [.int n] es))
theorem ok_size {f fd} (F : Fun G.K "check_size" "check_size" st_check_size f fd) (T : Txt G mg A) (X_BadSize : XCal P w G.K mg base "BadSize" A.BadSize ["size"]) : FnOk P w G.K mg base (L2.CX P w) 3 f fd ["size"] (spOf G (fn_size G A) 1) := by
  refine okX_of (N := ["size"]) F sc_check_size fun cdv A' outer s H E hr tk => ⟨_, (pss_one (ps_if (PW.pt (pw_or (pt_cmpR op_ltA (pv 0) pe_int (nomark _)) (pw_or1 (pt_cmpR op_gtA (pv 0) (pe_cvalK G.K rfl (pe_glob (v := .ref A.Split) rfl T.g_Split rfl)) (nomark _))))) (pss_one (ps_raise rfl tk (pmk_x X_BadSize hr (by decide) (pa_cons (pv 0) pa_nil)))) pss_nil)), ?_⟩
  obtain ⟨mc, u, h1, h2⟩ := T.most
  rintro es o ⟨n, hb, rfl, h⟩
  have ht : ET G (tOr (tTest (tOp rLt' (tVar 0) (tC (V.int 1)))) (tTest (tOp rGt' (tVar 0) (ClX.tCVal G.K (tC (V.ref A.Split)) "MOST")))) [some (fr G (.int n))] (decide (n < 1) || decide (12 < n)) [some (fr G (.int n))] :=
    et_or (by walk_at "ev") fun _ => et_test (ef_op (by walk_at "ev") (ef_cval ef_raw h1 h2) a_gt)
  rcases h with ⟨ha, hc, rfl⟩ | ⟨ha, rfl⟩
  · show S G _ _ [some (fr G (.int n))] _
    exact s_if ht (fun z => by simp at z; omega) fun _ => s_next ⟨rfl, back_frs⟩
  · show S G _ _ [some (fr G (.int n))] _
    exact s_if ht (fun _ => s_raise (by walk_at "ev") rfl (fun d hd => by simp at hd; subst hd; exact hb) (by decide) ⟨rfl, rfl, rfl, back_frs⟩) fun z => by simp at z; omega
abbrev st_check_within : Stmt := top 13
theorem sc_check_within : FnScope ["size", "case"] ["size", "case"] (defScope st_check_within) := ⟨rfl, rfl, rfl, by decide +kernel, rfl, by decide +kernel, by decide +kernel⟩

def fn_within (G : Ct) (A : Ad) : Es → Out → Prop := fun es o => ∃ n c : Int, c.natAbs.log2 < 1920 ∧ es = frs G [.int n, .int c] ∧ ((0 ≤ c ∧ c < n ∧ o = .ret (fr G .non) es) ∨ (¬ (0 ≤ c ∧ c < n) ∧ o = .exc A.UnknownCase ["case"] [.int c] es))
theorem ok_within {f fd} (F : Fun G.K "check_within" "check_within" st_check_within f fd) (T : Txt G mg A) (X_UnknownCase : XCal P w G.K mg base "UnknownCase" A.UnknownCase ["case"]) : FnOk P w G.K mg base (L2.CX P w) 3 f fd ["size", "case"] (spOf G (fn_within G A) 2) := by
  refine okX_of (N := ["size", "case"]) F sc_check_within fun cdv A' outer s H E hr tk => ⟨_, (pss_one (ps_if (PW.pt (pw_or (pt_cmpR op_ltA (pv 1) pe_int (nomark _)) (pw_or1 (pt_cmpR op_geA (pv 1) (pv 0) (nomark _))))) (pss_one (ps_raise rfl tk (pmk_x X_UnknownCase hr (by decide) (pa_cons (pv 1) pa_nil)))) pss_nil)), ?_⟩
  rintro es o ⟨n, c, hb, rfl, h⟩
  have ht : ET G (tOr (tTest (tOp rLt' (tVar 1) (tC (V.int 0)))) (tTest (tOp rGe' (tVar 1) (tVar 0)))) [some (fr G (.int n)), some (fr G (.int c))] (decide (c < 0) || decide (n ≤ c)) [some (fr G (.int n)), some (fr G (.int c))] := by walk_at "ev"
  rcases h with ⟨ha, hc, rfl⟩ | ⟨ha, rfl⟩
  · show S G _ _ [some (fr G (.int n)), some (fr G (.int c))] _
    exact s_if ht (fun z => by simp at z; omega) fun _ => s_next ⟨rfl, back_frs⟩
  · show S G _ _ [some (fr G (.int n)), some (fr G (.int c))] _
    exact s_if ht (fun _ => s_raise (by walk_at "ev") rfl (fun d hd => by simp at hd; subst hd; exact hb) (by decide) ⟨rfl, rfl, rfl, back_frs⟩) fun z => by simp at z; omega
/-! ### Split -/
def fsS : List Str := ["size", "_marks"]
def spD (A : Ad) (m : List Int) : D := .ins A.Split fsS [.int m.length, .tup (dI m)]
def Few (m : List Int) : Prop := 1 ≤ m.length ∧ m.length ≤ 12
theorem few_log {n : Nat} (h : n ≤ 1000) : ((n : Int)).natAbs.log2 < 1920 := by
  rw [Int.natAbs_natCast]
  have h1 : n < 2 ^ 1920 := Nat.lt_of_le_of_lt h (Nat.lt_of_lt_of_le (show 1000 < 2 ^ 10 by decide) (Nat.pow_le_pow_right (by decide) (by decide)))
  by_cases h0 : n = 0
  · subst h0; decide
  · exact (Nat.log2_lt h0).mpr h1
theorem use_size {n : Nat} (h : 1 ≤ n ∧ n ≤ 12) : fn_size G A (frs G [.int (n : Int)]) (.ret (fr G .non) (frs G [.int (n : Int)])) := ⟨n, few_log (by omega), rfl, .inl ⟨by omega, by omega, rfl⟩⟩
theorem use_sizeX {n : Nat} (h : ¬ (1 ≤ n ∧ n ≤ 12)) (hz : n ≤ 1000) : fn_size G A (frs G [.int (n : Int)]) (.exc A.BadSize ["size"] [.int (n : Int)] (frs G [.int (n : Int)])) := ⟨n, few_log hz, rfl, .inr ⟨by omega, rfl⟩⟩
theorem log_of {n : Nat} {c : Int} (h : 0 ≤ c ∧ c < n) (hz : n ≤ 1000) : c.natAbs.log2 < 1920 := by
  obtain ⟨k, rfl⟩ := Int.eq_ofNat_of_zero_le h.1
  exact few_log (by omega)
theorem use_within {n : Nat} {c : Int} (h : 0 ≤ c ∧ c < n) (hz : n ≤ 1000) : fn_within G A (frs G [.int (n : Int), .int c]) (.ret (fr G .non) (frs G [.int (n : Int), .int c])) := ⟨n, c, log_of h hz, rfl, .inl ⟨h.1, h.2, rfl⟩⟩
theorem use_withinX {n : Nat} {c : Int} (h : ¬ (0 ≤ c ∧ c < n)) (hz : c.natAbs.log2 < 1920) : fn_within G A (frs G [.int (n : Int), .int c]) (.exc A.UnknownCase ["case"] [.int c] (frs G [.int (n : Int), .int c])) := ⟨n, c, hz, rfl, .inr ⟨h, rfl⟩⟩
abbrev st_Split___init : Stmt := inClass (top 15) 1
theorem sc_Split___init : FnScope ["self", "marks"] ["self", "marks"] (defScope st_Split___init) := ⟨rfl, rfl, rfl, by decide +kernel, rfl, by decide +kernel, by decide +kernel⟩

def fn_init (G : Ct) (A : Ad) : Es → Out → Prop := fun es o => ∃ (a : Addr) (l : List Int), l.length ≤ 1000 ∧ es = some (insO G A.Split a [] []) :: frs G [.lst (dI l)] ∧
  ((Few l ∧ o = .ret (fr G .non) (some (insO G A.Split a fsS [.int l.length, .tup (dI (lowI l))]) :: frs G [.lst (dI l)])) ∨ (¬ Few l ∧ o = .exc A.BadSize ["size"] [.int l.length] (none :: frs G [.lst (dI l)])))
theorem fixed_insO {C a : Addr} {ns : List Str} {ds : List D} : Fixed (insO G C a ns ds) a := fun W v m ⟨dx, vs, h, _⟩ => h
theorem back_self {φ ψ : Ent} {a : Addr} {ds : List D} {e : Es} (h1 : Fixed φ a) (h2 : Fixed ψ a) (h : e[0]? = some (some ψ)) : Back G (some φ :: frs G ds) e (some ψ :: frs G ds) := ⟨rfl, fun i χ hx => by
  cases i with
  | zero =>
    simp at hx
    subst hx
    exact .inr ⟨a, φ, rfl, h1, h2, h⟩
  | succ i =>
    have hx' : (frs G ds)[i]? = some (some χ) := by simpa using hx
    rcases (back_frs (G := G) (ds := ds) (e := e)).2 i χ hx' with ⟨d, q1, q2⟩ | ⟨a', φ', q1, q2, q3, q4⟩
    · exact .inl ⟨d, q1, by simpa using q2⟩
    · unfold DL.frs at hx'
      rw [List.getElem?_map] at hx'
      cases q : ds[i]? with
      | none => rw [q] at hx'; cases hx'
      | some d =>
        rw [q] at hx'
        cases hx'
        exact .inl ⟨d, rfl, by show (frs G ds)[i]? = _; unfold DL.frs; rw [List.getElem?_map, q]; rfl⟩⟩
theorem back_none {φ : Ent} {ds : List D} {e : Es} : Back G (some φ :: frs G ds) e (none :: frs G ds) := ⟨rfl, fun i χ hx => by
  cases i with
  | zero => simp at hx
  | succ i =>
    have hx' : (frs G ds)[i]? = some (some χ) := by simpa using hx
    unfold DL.frs at hx'
    rw [List.getElem?_map] at hx'
    cases q : ds[i]? with
    | none => rw [q] at hx'; cases hx'
    | some d =>
      rw [q] at hx'
      cases hx'
      exact .inl ⟨d, rfl, by show (frs G ds)[i]? = _; unfold DL.frs; rw [List.getElem?_map, q]; rfl⟩⟩
theorem ok_init {f fd} (F : Fun G.K "__init__" "Split.__init__" st_Split___init f fd) (T : Txt G mg A) (C_check_size : Cal P w G.K mg base (L2.CX P w) 3 "check_size" ["size"] (spOf G (fn_size G A) 1)) (C_least_marks : Cal P w G.K mg base CX0 1 "least_marks" ["marks"] (spOf G (fn_least G) 1)) :
    FnOk P w G.K mg base (L2.CX P w) 4 f fd ["self", "marks"] (spOf G (fn_init G A) 2) := by
  refine okX_of (N := ["self", "marks"]) F sc_Split___init fun cdv A' outer s H E hr tk => ⟨_, (pss_cons (ps_expr (pe_cal C_check_size hr (by first | decide | exact Nat.le_refl _) (passes_call tk fun _ _ _ _ h => h) (pa_cons (pe_callB (call_lenK G.K rfl) (by rfl) T.b_len PySem.boot_len (pa_cons (pv 1) pa_nil)) pa_nil))) (pss_cons (ps_fldK G.K rfl (pv 0) (pe_callB (call_lenK G.K rfl) (by rfl) T.b_len PySem.boot_len (pa_cons (pv 1) pa_nil)) rfl) (pss_one (ps_fldK G.K rfl (pv 0) (pe_callTy (call_tupK G.K rfl) (by rfl) T.b_tuple (by decide +kernel) (pa_cons (pe_cal C_least_marks hr (by first | decide | exact Nat.le_refl _) pass0 (pa_cons (pv 1) pa_nil)) pa_nil)) rfl)))), ?_⟩
  have cl := T.cl
  have na0 := T.na0
  have na1 := T.na1
  rintro es o ⟨a, l, hl, rfl, h⟩
  have he : EA G (tCons (tCB (rLenA G.K) (tCons (tVar 1) tNil)) tNil) [some (insO G A.Split a [] []), some (fr G (.lst (dI l)))] [.int l.length] [some (insO G A.Split a [] []), some (fr G (.lst (dI l)))] := by walk_at "ev"
  rcases h with ⟨hf, rfl⟩ | ⟨hf, rfl⟩
  · show S G _ _ [some (insO G A.Split a [] []), some (fr G (.lst (dI l)))] _
    refine q_drop (ef_call he (use_size hf)) ?_
    refine s_seq (s_newfld (d := .int l.length) (i := 0) (by walk_at "ev") rfl (by decide +kernel) (by decide) cl na0 ?_)
    refine s_newfld (d := .tup (dI (lowI l))) (i := 0) (ef_cbT (ea_cons (ef_lst (eo_call (by walk_at "ev") (use_least hl))) ea_nil) a_tupL) rfl (by decide +kernel) (by decide) cl na1 ⟨rfl, back_self fixed_insO fixed_insO rfl⟩
  · show S G _ _ [some (insO G A.Split a [] []), some (fr G (.lst (dI l)))] _
    exact s_seq (s_dropX (ex_call he (use_sizeX hf hl)) ⟨rfl, rfl, rfl, back_none⟩)
end
end K

namespace K
open PySem L2 PySem.Spec PyProof.Rows DL
local macro_rules | `(tactic| walk_at "sd") => `(tactic| first | assumption | omega | decide | (simp only [DL.dI_len, DL.lowI_len, DL.upto_len, List.length_map] at *; omega))
local macro_rules | `(tactic| walk_at "r2") => `(tactic| first | exact DL.a_addI | exact DL.a_sub | exact DL.a_lt | exact DL.a_le | exact DL.a_gt | exact DL.a_ge | exact DL.a_eqI | exact DL.a_neI | exact DL.a_eqS | exact DL.a_neS | exact DL.a_isN | exact DL.a_notN | exact DL.a_isC | exact DL.a_mod (by walk_at "sd") | exact DL.a_ixI (by walk_at "sd") (by walk_at "sd") | exact DL.a_ixJ (by walk_at "sd") (by walk_at "sd"))
local macro_rules | `(tactic| walk_at "rc") => `(tactic| first | exact DL.a_lenI | exact DL.a_lenL | exact DL.a_lenT | exact DL.a_int | exact DL.a_tupL)
local macro_rules | `(tactic| walk_at "ev") => `(tactic| first | exact DL.ef_int | exact DL.ef_bl | exact DL.ef_str | exact DL.ef_non | exact DL.ef_ty | exact DL.ef_raw | exact DL.ef_var rfl | exact DL.ea_nil | exact DL.et_yes | (refine' DL.ea_cons ?a ?b; (case a => walk_at "ev"); (case b => walk_at "ev")) | (refine' DL.et_test ?a; (case a => walk_at "ev")) | (refine' DL.et_B ?a; (case a => walk_at "ev")) | (refine' DL.et_not ?a; (case a => walk_at "ev")) | (refine' DL.et_or ?a fun _ => ?b; (case a => walk_at "ev"); (case b => walk_at "ev")) | (refine' DL.et_and ?a fun _ => ?b; (case a => walk_at "ev"); (case b => walk_at "ev")) | (refine' DL.ef_op ?a ?b ?c; (case a => walk_at "ev"); (case b => walk_at "ev"); (case c => walk_at "r2")) | (refine' DL.ef_cb ?a ?b; (case a => walk_at "ev"); (case b => walk_at "rc")) | (refine' DL.ef_cbT ?a ?b; (case a => walk_at "ev"); (case b => walk_at "rc")) | (refine' DL.ef_un ?a; (case a => walk_at "ev")) | (refine' DL.ef_fld 0 ?a ?f ?d ?c ?n; (case a => walk_at "ev"); (case f => decide +kernel); (case d => rfl); (case c => assumption); (case n => assumption)) | (refine' DL.ef_fld 1 ?a ?f ?d ?c ?n; (case a => walk_at "ev"); (case f => decide +kernel); (case d => rfl); (case c => assumption); (case n => assumption)))
section
variable {P : Program} {w : World} {G : Ct} {mg : Str → Option Value} {base : Heap} {A : Ad}
/-- the cases with a property -/
def flt (n : Nat) (p : Nat → Bool) : List Int := ((List.range n).filter p).map Int.ofNat
theorem flt_D (n : Nat) (p : Nat → Bool) : ((List.range n).filter p).map (fun i : Nat => D.int (i : Int)) = dI (flt n p) := by unfold dI flt; rw [List.map_map]; rfl
def cellI (m : List Int) (c : Int) : List Int := flt m.length fun i => decide (m.getD i 0 = gi m c)
def rootsI (m : List Int) : List Int := flt m.length fun i => decide (m.getD i 0 = (i : Int))
def cellsD (m : List Int) : List D := (rootsI m).map fun c => .lst (dI (cellI m c))
def cellsL (m : List Int) : List (List D) := gotL (fun i => decide (m.getD i 0 = (i : Int))) (fun i => dI (cellI m (i : Int))) m.length
theorem cellsL_D (m : List Int) : (cellsL m).map .lst = cellsD m := by
  unfold cellsL gotL cellsD rootsI flt
  rw [List.map_map, List.map_map]
  rfl
abbrev st_Split_marks : Stmt := inClass (top 15) 5
theorem sc_Split_marks : FnScope ["self"] ["self"] (defScope st_Split_marks) := ⟨rfl, rfl, rfl, by decide +kernel, rfl, by decide +kernel, by decide +kernel⟩

def fn_marks (G : Ct) (A : Ad) : Es → Out → Prop := fun es o => ∃ m : List Int, es = frs G [spD A m] ∧ o = .ret (lst G (dI m)) es
theorem use_marks {m : List Int} : fn_marks G A (frs G [spD A m]) (.ret (lst G (dI m)) (frs G [spD A m])) := ⟨m, rfl, rfl⟩
theorem ok_marks {f fd} (F : Fun G.K "marks" "Split.marks" st_Split_marks f fd) (T : Txt G mg A) : FnOk P w G.K mg base CX0 1 f fd ["self"] (spOf G (fn_marks G A) 1) := by
  refine ok_of (N := ["self"]) F sc_Split_marks fun cdv A' outer s H E hr => ⟨_, (pss_one (ps_ret (pe_callTy (call_listK G.K rfl) (by rfl) T.b_list (by decide +kernel) (pa_cons (pe_fldK G.K rfl (pv 0) rfl) pa_nil)))), ?_⟩
  have cl := T.cl
  have na1 := T.na1
  rintro Ex es o ⟨m, rfl, rfl⟩
  show S G _ _ [some (fr G (spD A m))] _
  exact s_retO (eo_cb (ea_cons (ef_fld 1 (ef_var rfl) (by decide +kernel) rfl cl na1) ea_nil) a_listT) ⟨rfl, back_frs⟩
theorem ef_size {te : TE} {es es1 : Es} {m : List Int} (cl : Cls G.K A.Split) (na : NoAttr G.K A.Split "size") (h : EF G te es (spD A m) es1) : EF G (tFld G.K te "size") es (.int m.length) es1 := ef_fld 0 h (by decide +kernel) rfl cl na
theorem ef_mks {te : TE} {es es1 : Es} {m : List Int} (cl : Cls G.K A.Split) (na : NoAttr G.K A.Split "_marks") (h : EF G te es (spD A m) es1) : EF G (tFld G.K te "_marks") es (.tup (dI m)) es1 := ef_fld 1 h (by decide +kernel) rfl cl na
abbrev st_Split_cell : Stmt := inClass (top 15) 7
theorem sc_Split_cell : FnScope ["self", "case", "root", "other"] ["self", "case"] (defScope st_Split_cell) := ⟨rfl, rfl, rfl, by decide +kernel, rfl, by decide +kernel, by decide +kernel⟩

def fn_cell (G : Ct) (A : Ad) : Es → Out → Prop := fun es o => ∃ (m : List Int) (c : Int), m.length ≤ 1000 ∧ es = frs G [spD A m, .int c] ∧ (((0 ≤ c ∧ c < m.length) ∧ o = .ret (lst G (dI (cellI m c))) es) ∨ (¬ (0 ≤ c ∧ c < m.length) ∧ c.natAbs.log2 < 1920 ∧ o = .exc A.UnknownCase ["case"] [.int c] es))
theorem ok_cell {f fd} (F : Fun G.K "cell" "Split.cell" st_Split_cell f fd) (T : Txt G mg A) (C_check_within : Cal P w G.K mg base (L2.CX P w) 3 "check_within" ["size", "case"] (spOf G (fn_within G A) 2)) :
    FnOk P w G.K mg base (L2.CX P w) 4 f fd ["self", "case"] (spOf G (fn_cell G A) 2) := by
  refine okX_of (N := ["self", "case", "root", "other"]) F sc_Split_cell fun cdv A' outer s H E hr tk => ⟨_, (pss_cons (ps_expr (pe_cal C_check_within hr (by first | decide | exact Nat.le_refl _) (passes_call tk fun _ _ _ _ h => h) (pa_cons (pe_fldK G.K rfl (pv 0) rfl) (pa_cons (pv 1) pa_nil)))) (pss_cons (ps_set (i := 2) sc_Split_cell.nd rfl (by first | exact Or.inl rfl | exact Or.inr rfl) (pe_ix (ix_seqK G.K rfl) (pe_fldK G.K rfl (pv 0) rfl) (pv 1) (fun _ _ => rfl))) (pss_one (ps_ret (pe_lc (own := [("other", 3)]) (g := gName 3) (tt := _) rfl sc_Split_cell.nd (pi_range1 (by rfl) T.b_range (pa_cons (pe_fldK G.K rfl (pv 0) rfl) pa_nil)) (blkOk_by (by first | decide +kernel | kernel_rfl)) (fun _ _ _ _ _ => pg_name (i := 3) sc_Split_cell.nd rfl (by first | exact Or.inl rfl | exact Or.inr rfl)) (fun _ _ _ _ _ => (pts_one (pt_cmpR (op_eqK G.K rfl hr.units) (pe_ix (ix_seqK G.K rfl) (pe_fldK G.K rfl (pv 0) rfl) (pv 3) (fun _ _ => rfl)) (pv 2) (nomark _)))) (fun _ _ _ _ _ => (pv 3))))))), ?_⟩
  have cl := T.cl
  have na0 := T.na0
  have na1 := T.na1
  rintro es o ⟨m, c, hz, rfl, h⟩
  have he : EA G (tCons (tFld G.K (tVar 0) "size") (tCons (tVar 1) tNil)) [some (fr G (spD A m)), some (fr G (.int c)), none, none] [.int m.length, .int c] [some (fr G (spD A m)), some (fr G (.int c)), none, none] :=
    ea_cons (ef_size cl na0 (ef_var rfl)) (ea_cons (ef_var rfl) ea_nil)
  rcases h with ⟨hc, rfl⟩ | ⟨hc, hl, rfl⟩
  · show S G _ _ [some (fr G (spD A m)), some (fr G (.int c)), none, none] _
    refine q_drop (ef_call he (use_within hc hz)) ?_
    refine q_asg (ef_op (ef_mks cl na1 (ef_var rfl)) (ef_var rfl) (a_ixJ hc.1 hc.2)) ?_
    have h := lc_R (G := G) (tas := tCons (tFld G.K (tVar 0) "size") tNil) (te := tVar 3) (tt := tTest (tOp (rEqA G.K) (tOp (rIx G.K) (tFld G.K (tVar 0) "_marks") (tVar 3)) (tVar 2))) (es := [some (fr G (spD A m)), some (fr G (.int c)), some (fr G (.int (gi m c))), none]) (j := 3) (n := m.length)
      (fun i => decide (m.getD i 0 = gi m c)) (fun i => .int (i : Int)) (ea_cons (ef_size cl na0 (ef_var rfl)) ea_nil) (by omega) rfl
      (fun i hi => et_test (ef_op (ef_op (ef_mks cl na1 (ef_var rfl)) (ef_var rfl) (a_ixJ (Int.natCast_nonneg i) (by omega))) (ef_var rfl) a_eqI)) (fun i hi _ => ef_var rfl)
    rw [flt_D] at h
    exact s_retO h ⟨rfl, back_frs⟩
  · show S G _ _ [some (fr G (spD A m)), some (fr G (.int c)), none, none] _
    exact s_seq (s_dropX (ex_call he (use_withinX hc hl)) ⟨rfl, rfl, rfl, back_frs⟩)
theorem use_cell {m : List Int} {c : Int} (hz : m.length ≤ 1000) (hc : 0 ≤ c ∧ c < m.length) : fn_cell G A (frs G [spD A m, .int c]) (.ret (lst G (dI (cellI m c))) (frs G [spD A m, .int c])) := ⟨m, c, hz, rfl, .inl ⟨hc, rfl⟩⟩
theorem use_cellX {m : List Int} {c : Int} (hz : m.length ≤ 1000) (hc : ¬ (0 ≤ c ∧ c < m.length)) (hl : c.natAbs.log2 < 1920) : fn_cell G A (frs G [spD A m, .int c]) (.exc A.UnknownCase ["case"] [.int c] (frs G [spD A m, .int c])) := ⟨m, c, hz, rfl, .inr ⟨hc, hl, rfl⟩⟩
abbrev st_Split_together : Stmt := inClass (top 15) 8
theorem sc_Split_together : FnScope ["self", "first", "second"] ["self", "first", "second"] (defScope st_Split_together) := ⟨rfl, rfl, rfl, by decide +kernel, rfl, by decide +kernel, by decide +kernel⟩

def fn_tog (G : Ct) (A : Ad) : Es → Out → Prop := fun es o => ∃ (m : List Int) (c d : Int), m.length ≤ 1000 ∧ es = frs G [spD A m, .int c, .int d] ∧ (((0 ≤ c ∧ c < m.length) ∧ (0 ≤ d ∧ d < m.length) ∧ o = .ret (fr G (.bl (decide (gi m c = gi m d)))) es) ∨
  (¬ (0 ≤ c ∧ c < m.length) ∧ c.natAbs.log2 < 1920 ∧ o = .exc A.UnknownCase ["case"] [.int c] es) ∨ ((0 ≤ c ∧ c < m.length) ∧ ¬ (0 ≤ d ∧ d < m.length) ∧ d.natAbs.log2 < 1920 ∧ o = .exc A.UnknownCase ["case"] [.int d] es))
theorem ok_tog {f fd} (F : Fun G.K "together" "Split.together" st_Split_together f fd) (T : Txt G mg A) (C_check_within : Cal P w G.K mg base (L2.CX P w) 3 "check_within" ["size", "case"] (spOf G (fn_within G A) 2)) :
    FnOk P w G.K mg base (L2.CX P w) 4 f fd ["self", "first", "second"] (spOf G (fn_tog G A) 3) := by
  refine okX_of (N := ["self", "first", "second"]) F sc_Split_together fun cdv A' outer s H E hr tk => ⟨_, (pss_cons (ps_expr (pe_cal C_check_within hr (by first | decide | exact Nat.le_refl _) (passes_call tk fun _ _ _ _ h => h) (pa_cons (pe_fldK G.K rfl (pv 0) rfl) (pa_cons (pv 1) pa_nil)))) (pss_cons (ps_expr (pe_cal C_check_within hr (by first | decide | exact Nat.le_refl _) (passes_call tk fun _ _ _ _ h => h) (pa_cons (pe_fldK G.K rfl (pv 0) rfl) (pa_cons (pv 2) pa_nil)))) (pss_one (ps_ret (pe_cmpR (op_eqK G.K rfl hr.units) (pe_ix (ix_seqK G.K rfl) (pe_fldK G.K rfl (pv 0) rfl) (pv 1) (fun _ _ => rfl)) (pe_ix (ix_seqK G.K rfl) (pe_fldK G.K rfl (pv 0) rfl) (pv 2) (fun _ _ => rfl)) (nomark _)))))), ?_⟩
  have cl := T.cl
  have na0 := T.na0
  have na1 := T.na1
  rintro es o ⟨m, c, d, hz, rfl, h⟩
  have he : EA G (tCons (tFld G.K (tVar 0) "size") (tCons (tVar 1) tNil)) [some (fr G (spD A m)), some (fr G (.int c)), some (fr G (.int d))] [.int m.length, .int c] [some (fr G (spD A m)), some (fr G (.int c)), some (fr G (.int d))] :=
    ea_cons (ef_size cl na0 (ef_var rfl)) (ea_cons (ef_var rfl) ea_nil)
  have he2 : EA G (tCons (tFld G.K (tVar 0) "size") (tCons (tVar 2) tNil)) [some (fr G (spD A m)), some (fr G (.int c)), some (fr G (.int d))] [.int m.length, .int d] [some (fr G (spD A m)), some (fr G (.int c)), some (fr G (.int d))] :=
    ea_cons (ef_size cl na0 (ef_var rfl)) (ea_cons (ef_var rfl) ea_nil)
  rcases h with ⟨hc, hd, rfl⟩ | ⟨hc, hl, rfl⟩ | ⟨hc, hd, hl, rfl⟩
  · show S G _ _ [some (fr G (spD A m)), some (fr G (.int c)), some (fr G (.int d))] _
    refine q_drop (ef_call he (use_within hc hz)) (q_drop (ef_call he2 (use_within hd hz)) ?_)
    exact s_ret (ef_op (ef_op (ef_mks cl na1 (ef_var rfl)) (ef_var rfl) (a_ixJ hc.1 hc.2)) (ef_op (ef_mks cl na1 (ef_var rfl)) (ef_var rfl) (a_ixJ hd.1 hd.2)) a_eqI) ⟨rfl, back_frs⟩
  · show S G _ _ [some (fr G (spD A m)), some (fr G (.int c)), some (fr G (.int d))] _
    exact s_seq (s_dropX (ex_call he (use_withinX hc hl)) ⟨rfl, rfl, rfl, back_frs⟩)
  · show S G _ _ [some (fr G (spD A m)), some (fr G (.int c)), some (fr G (.int d))] _
    refine q_drop (ef_call he (use_within hc hz)) ?_
    exact s_seq (s_dropX (ex_call he2 (use_withinX hd hl)) ⟨rfl, rfl, rfl, back_frs⟩)
theorem use_tog {m : List Int} {c d : Int} (hz : m.length ≤ 1000) (hc : 0 ≤ c ∧ c < m.length) (hd : 0 ≤ d ∧ d < m.length) : fn_tog G A (frs G [spD A m, .int c, .int d]) (.ret (fr G (.bl (decide (gi m c = gi m d)))) (frs G [spD A m, .int c, .int d])) := ⟨m, c, d, hz, rfl, .inl ⟨hc, hd, rfl⟩⟩
theorem use_togX1 {m : List Int} {c d : Int} (hz : m.length ≤ 1000) (hc : ¬ (0 ≤ c ∧ c < m.length)) (hl : c.natAbs.log2 < 1920) : fn_tog G A (frs G [spD A m, .int c, .int d]) (.exc A.UnknownCase ["case"] [.int c] (frs G [spD A m, .int c, .int d])) := ⟨m, c, d, hz, rfl, .inr (.inl ⟨hc, hl, rfl⟩)⟩
theorem use_togX2 {m : List Int} {c d : Int} (hz : m.length ≤ 1000) (hc : 0 ≤ c ∧ c < m.length) (hd : ¬ (0 ≤ d ∧ d < m.length)) (hl : d.natAbs.log2 < 1920) : fn_tog G A (frs G [spD A m, .int c, .int d]) (.exc A.UnknownCase ["case"] [.int d] (frs G [spD A m, .int c, .int d])) := ⟨m, c, d, hz, rfl, .inr (.inr ⟨hc, hd, hl, rfl⟩)⟩
abbrev st_Split_cells : Stmt := inClass (top 15) 6
theorem sc_Split_cells : FnScope ["self", "case"] ["self"] (defScope st_Split_cells) := ⟨rfl, rfl, rfl, by decide +kernel, rfl, by decide +kernel, by decide +kernel⟩

def fn_cells (G : Ct) (A : Ad) : Es → Out → Prop := fun es o => ∃ m : List Int, m.length ≤ 1000 ∧ es = frs G [spD A m] ∧ o = .ret (nst G (cellsL m)) es
theorem use_cells {m : List Int} (hz : m.length ≤ 1000) : fn_cells G A (frs G [spD A m]) (.ret (nst G (cellsL m)) (frs G [spD A m])) := ⟨m, hz, rfl, rfl⟩
theorem ok_cells {f fd} (F : Fun G.K "cells" "Split.cells" st_Split_cells f fd) (T : Txt G mg A) (C_Split_cell : CalM P w G.K mg base (L2.CX P w) 4 A.Split "cell" ["self", "case"] (spOf G (fn_cell G A) 2)) :
    FnOk P w G.K mg base CX0 5 f fd ["self"] (spOf G (fn_cells G A) 1) := by
  refine ok_of (N := ["self", "case"]) F sc_Split_cells fun cdv A' outer s H E hr => ⟨_, (pss_one (ps_ret (pe_lc (own := [("case", 1)]) (g := gName 1) (tt := _) rfl sc_Split_cells.nd (pi_range1 (by rfl) T.b_range (pa_cons (pe_fldK G.K rfl (pv 0) rfl) pa_nil)) (blkOk_by (by first | decide +kernel | kernel_rfl)) (fun _ _ _ _ _ => pg_name (i := 1) sc_Split_cells.nd rfl (by first | exact Or.inl rfl | exact Or.inr rfl)) (fun _ _ _ _ _ => (pts_one (pt_cmpR (op_eqK G.K rfl hr.units) (pe_ix (ix_seqK G.K rfl) (pe_fldK G.K rfl (pv 0) rfl) (pv 1) (fun _ _ => rfl)) (pv 1) (nomark _)))) (fun _ _ _ _ _ => (pe_calM C_Split_cell hr (by first | decide | exact Nat.le_refl _) L2.passL (pv 0) (pa_cons (pv 1) pa_nil)))))), ?_⟩
  have cl := T.cl
  have na0 := T.na0
  have na1 := T.na1
  rintro Ex es o ⟨m, hz, rfl, rfl⟩
  show S G _ _ [some (fr G (spD A m)), none] _
  have h := eo_lcN (G := G) (tas := tCons (tFld G.K (tVar 0) "size") tNil) (te := tMeth A.Split "cell" (spOf G (fn_cell G A) 2) [] (fun _ _ _ => False) (tVar 0) (tCons (tVar 1) tNil)) (tt := tTest (tOp (rEqA G.K) (tOp (rIx G.K) (tFld G.K (tVar 0) "_marks") (tVar 1)) (tVar 1))) (es := [some (fr G (spD A m)), none]) (j := 1) (n := m.length)
      (fun i => decide (m.getD i 0 = (i : Int))) (fun i => dI (cellI m (i : Int))) (ea_cons (ef_size cl na0 (ef_var rfl)) ea_nil) (by omega) rfl
      (fun i hi => et_test (ef_op (ef_op (ef_mks cl na1 (ef_var rfl)) (ef_var rfl) (a_ixJ (Int.natCast_nonneg i) (by omega))) (ef_var rfl) a_eqI))
      (fun i hi _ => (eo_meth (ef_var rfl) (by decide +kernel) (ea_cons (ef_var rfl) ea_nil) (use_cell hz ⟨Int.natCast_nonneg i, by omega⟩)))
  exact s_retO h ⟨rfl, back_frs⟩
abbrev st_Split___len : Stmt := inClass (top 15) 12
theorem sc_Split___len : FnScope ["self"] ["self"] (defScope st_Split___len) := ⟨rfl, rfl, rfl, by decide +kernel, rfl, by decide +kernel, by decide +kernel⟩

def fn_len (G : Ct) (A : Ad) : Es → Out → Prop := fun es o => ∃ m : List Int, m.length ≤ 1000 ∧ es = frs G [spD A m] ∧ o = .ret (fr G (.int (cellsD m).length)) es
theorem ok_len {f fd} (F : Fun G.K "__len__" "Split.__len__" st_Split___len f fd) (T : Txt G mg A) (C_Split_cells : CalM P w G.K mg base CX0 5 A.Split "cells" ["self"] (spOf G (fn_cells G A) 1)) :
    FnOk P w G.K mg base CX0 6 f fd ["self"] (spOf G (fn_len G A) 1) := by
  refine ok_of (N := ["self"]) F sc_Split___len fun cdv A' outer s H E hr => ⟨_, (pss_one (ps_ret (pe_callB (call_lenK G.K rfl) (by rfl) T.b_len PySem.boot_len (pa_cons (pe_calM0 C_Split_cells hr (by first | decide | exact Nat.le_refl _) pass0 (pv 0)) pa_nil)))), ?_⟩
  rintro Ex es o ⟨m, hz, rfl, rfl⟩
  show S G _ _ [some (fr G (spD A m))] _
  exact s_ret (ef_cb (ea_cons (ef_lst (eo_flat (eo_meth (ef_var rfl) (by decide +kernel) ea_nil (use_cells hz)))) ea_nil) a_lenL) ⟨by rw [cellsL_D], back_frs⟩
abbrev st_Split___eq : Stmt := inClass (top 15) 13
theorem sc_Split___eq : FnScope ["self", "other"] ["self", "other"] (defScope st_Split___eq) := ⟨rfl, rfl, rfl, by decide +kernel, rfl, by decide +kernel, by decide +kernel⟩

inductive NoSp : D → Prop where
  | int (i : Int) : NoSp (.int i)
  | str (x : Str) : NoSp (.str x)
  | lst (l : List D) : NoSp (.lst l)
  | tup (l : List D) : NoSp (.tup l)
def fn_eq (G : Ct) (A : Ad) : Es → Out → Prop := fun es o => ∃ (m : List Int) (d : D), m.length ≤ 1000 ∧ es = frs G [spD A m, d] ∧ ((∃ m' : List Int, m'.length ≤ 1000 ∧ d = spD A m' ∧ o = .ret (fr G (.bl (decide (m = m')))) es) ∨ (NoSp d ∧ o = .ret (fr G (.bl false)) es))
structure KSp (K : PySem.W.Frag) (A : Ad) : Prop where
  ty : InsTy K A.Split
  ss : PySem.W.kitOne K (.ref A.Split) (.ref A.Split) = some true
  si : PySem.W.kitOne K (.type "int") (.ref A.Split) = some false
  sr : PySem.W.kitOne K (.type "str") (.ref A.Split) = some false
  sl : PySem.W.kitOne K (.type "list") (.ref A.Split) = some false
  st : PySem.W.kitOne K (.type "tuple") (.ref A.Split) = some false
theorem ok_eq {f fd} (F : Fun G.K "__eq__" "Split.__eq__" st_Split___eq f fd) (T : Txt G mg A) (Y : KSp G.K A) : FnOk P w G.K mg base CX0 1 f fd ["self", "other"] (spOf G (fn_eq G A) 2) := by
  refine ok_of (N := ["self", "other"]) F sc_Split___eq fun cdv A' outer s H E hr => ⟨_, (pss_one (ps_ret (pe_and (pe_callB (call_isiK' G.K rfl) (by rfl) T.b_isinstance (by decide +kernel) (pa_cons (pv 1) (pa_cons (pe_glob (v := .ref A.Split) rfl T.g_Split rfl) pa_nil))) (pe_one (pe_cmpR (op_eqK G.K rfl hr.units) (pe_fldK G.K rfl (pv 0) rfl) (pe_fldK G.K rfl (pv 1) rfl) (nomark _)))))), ?_⟩
  have cl := T.cl
  have na1 := T.na1
  rintro Ex es o ⟨m, d, hz, rfl, h⟩
  rcases h with ⟨m', hz', rfl, rfl⟩ | ⟨hn, rfl⟩
  · show S G _ _ [some (fr G (spD A m)), some (fr G (spD A m'))] _
    exact s_ret (ef_andV (b := true) (ef_cb (ea_cons (ef_var rfl) (ea_cons ef_raw ea_nil)) (a_isiC (.ins Y.ty _ _) Y.ss)) fun _ => ef_op (ef_mks cl na1 (ef_var rfl)) (ef_mks cl na1 (ef_var rfl)) (a_eqTT (by omega) (by omega))) ⟨by simp, back_frs⟩
  · show S G _ _ [some (fr G (spD A m)), some (fr G d)] _
    have h : RCP G (rIsi G.K) [d, .raw A.Split] (.bl false) := by
      cases hn with
      | int i => exact a_isiC (.int _) Y.si
      | str i => exact a_isiC (.str _) Y.sr
      | lst i => exact a_isiC (.lst _) Y.sl
      | tup i => exact a_isiC (.tup _) Y.st
    exact s_ret (ef_andV (b' := true) (ef_cb (ea_cons (ef_var rfl) (ea_cons ef_raw ea_nil)) h) fun z => by cases z) ⟨rfl, back_frs⟩
end
end K

namespace DL
open PySem L2
/-! ### the bag's numbers -/
def Bag.seed1 (b : Bag) : Int := (b.seed * 48271 + (b.cnt + 1) * 69621 + 7) % 2147483647
def Bag.mixed (b : Bag) : Int := (b.seed1 * 16807 + b.seed1 / 4099 + (b.cnt + 1) * 40692) % 2147483629
def Bag.dig (b : Bag) (m : Int) : Int := match b.cells with
  | c :: _ => c % m
  | [] => b.mixed / 127 % m
def Bag.nxt (b : Bag) (m : Int) : Bag where
  cells := match b.cells with
    | c :: r => if c / m = 0 then r else (c / m) :: r
    | [] => []
  seed := match b.cells with
    | _ :: _ => b.seed
    | [] => b.seed1
  cnt := match b.cells with
    | _ :: _ => b.cnt
    | [] => b.cnt + 1
  few := by
    obtain ⟨cells, seed, cnt, h⟩ := b
    cases cells with
    | nil => simp
    | cons c r => dsimp only; split <;> (simp at h ⊢; omega)
theorem Bag.dig_lt (b : Bag) {m : Int} (h : 0 < m) : 0 ≤ b.dig m ∧ b.dig m < m := by
  unfold Bag.dig
  split
  · exact ⟨Int.emod_nonneg _ (by omega), Int.emod_lt_of_pos _ h⟩
  · exact ⟨Int.emod_nonneg _ (by omega), Int.emod_lt_of_pos _ h⟩
theorem cmul_r {i j : Int} (h : -(2 ^ 64) < j ∧ j < 2 ^ 64) : CMul i j := .inr h
theorem cmul_l {i j : Int} (h : -(2 ^ 64) < i ∧ i < 2 ^ 64) : CMul i j := .inl h
end DL
namespace K
open PySem L2 PySem.Spec PyProof.Rows DL
local macro_rules | `(tactic| walk_at "sd") => `(tactic| first | assumption | omega | decide | (simp only [DL.dI_len, DL.lowI_len, DL.upto_len, List.length_map] at *; omega))
local macro_rules | `(tactic| walk_at "r2") => `(tactic| first | exact DL.a_addI | exact DL.a_sub | exact DL.a_lt | exact DL.a_le | exact DL.a_gt | exact DL.a_ge | exact DL.a_eqI | exact DL.a_neI | exact DL.a_eqS | exact DL.a_neS | exact DL.a_isN | exact DL.a_notN | exact DL.a_isC | exact DL.a_mod (by walk_at "sd") | exact DL.a_ixI (by walk_at "sd") (by walk_at "sd") | exact DL.a_ixJ (by walk_at "sd") (by walk_at "sd"))
local macro_rules | `(tactic| walk_at "rc") => `(tactic| first | exact DL.a_lenI | exact DL.a_lenL | exact DL.a_lenT | exact DL.a_int | exact DL.a_tupL)
local macro_rules | `(tactic| walk_at "ev") => `(tactic| first | exact DL.ef_int | exact DL.ef_bl | exact DL.ef_str | exact DL.ef_non | exact DL.ef_ty | exact DL.ef_raw | exact DL.ef_var rfl | exact DL.ea_nil | exact DL.et_yes | (refine' DL.ea_cons ?a ?b; (case a => walk_at "ev"); (case b => walk_at "ev")) | (refine' DL.et_test ?a; (case a => walk_at "ev")) | (refine' DL.et_B ?a; (case a => walk_at "ev")) | (refine' DL.et_not ?a; (case a => walk_at "ev")) | (refine' DL.et_or ?a fun _ => ?b; (case a => walk_at "ev"); (case b => walk_at "ev")) | (refine' DL.et_and ?a fun _ => ?b; (case a => walk_at "ev"); (case b => walk_at "ev")) | (refine' DL.ef_op ?a ?b ?c; (case a => walk_at "ev"); (case b => walk_at "ev"); (case c => walk_at "r2")) | (refine' DL.ef_cb ?a ?b; (case a => walk_at "ev"); (case b => walk_at "rc")) | (refine' DL.ef_cbT ?a ?b; (case a => walk_at "ev"); (case b => walk_at "rc")) | (refine' DL.ef_un ?a; (case a => walk_at "ev")) | (refine' DL.ef_fld 0 ?a ?f ?d ?c ?n; (case a => walk_at "ev"); (case f => decide +kernel); (case d => rfl); (case c => assumption); (case n => assumption)) | (refine' DL.ef_fld 1 ?a ?f ?d ?c ?n; (case a => walk_at "ev"); (case f => decide +kernel); (case d => rfl); (case c => assumption); (case n => assumption)))
section
variable {P : Program} {w : World} {G : Ct} {mg : Str → Option Value} {base : Heap} {A : Ad}
/-! ### the bag -/
abbrev st_law_take : Stmt := top 18
theorem sc_law_take : FnScope ["bag", "many", "row", "digit", "mixed"] ["bag", "many"] (defScope st_law_take) := ⟨rfl, rfl, rfl, by decide +kernel, rfl, by decide +kernel, by decide +kernel⟩

def fn_take (G : Ct) : Es → Out → Prop := fun es o => ∃ (p : Addr × Addr) (b : Bag) (m : Int), 0 < m ∧ m.natAbs.log2 < 9000 ∧ es = some (bagA G p b) :: frs G [.int m] ∧ o = .ret (fr G (.int (b.dig m))) (some (bagA G p (b.nxt m)) :: frs G [.int m])
theorem use_take {p : Addr × Addr} {b : Bag} {m : Int} (h : 0 < m) (hl : m.natAbs.log2 < 9000) : fn_take G (some (bagA G p b) :: frs G [.int m]) (.ret (fr G (.int (b.dig m))) (some (bagA G p (b.nxt m)) :: frs G [.int m])) := ⟨p, b, m, h, hl, rfl, rfl⟩
theorem ok_take {f fd} (F : Fun G.K "_law_take" "_law_take" st_law_take f fd) (T : Txt G mg A) : FnOk P w G.K mg base CX0 1 f fd ["bag", "many"] (spOf G (fn_take G) 2) := by
  refine ok_of (N := ["bag", "many", "row", "digit", "mixed"]) F sc_law_take fun cdv A' outer s H E hr => ⟨_, (pss_cons (ps_set (i := 2) sc_law_take.nd rfl (by first | exact Or.inl rfl | exact Or.inr rfl) (pe_ix (ix_seqK G.K rfl) (pv 0) pe_int (fun _ _ => rfl))) (pss_cons (ps_if (pt_cmpR (op_neK G.K rfl hr.units) (pv 2) (pe_lst pa_nil) (nomark _)) (pss_cons (ps_set (i := 3) sc_law_take.nd rfl (by first | exact Or.inl rfl | exact Or.inr rfl) (pe_op op_modA (pe_callTy call_intA (by rfl) T.b_int (by decide +kernel) (pa_cons (pe_ix (ix_seqK G.K rfl) (pv 2) pe_int (fun _ _ => rfl)) pa_nil)) (pv 1))) (pss_cons (ps_asg (pe_op op_fdvA (pe_callTy call_intA (by rfl) T.b_int (by decide +kernel) (pa_cons (pe_ix (ix_seqK G.K rfl) (pv 2) pe_int (fun _ _ => rfl)) pa_nil)) (pv 1)) (pg_sub (pv 2) pe_int set_list)) (pss_cons (ps_if (pt_cmpR (op_eqK G.K rfl hr.units) (pe_ix (ix_seqK G.K rfl) (pv 2) pe_int (fun _ _ => rfl)) pe_int (nomark _)) (pss_one (ps_expr (pe_bmK G.K rfl PySem.F.plainAttrs_list PySem.F.slot_list_pop PySem.F.type_list_pop mt_popAt (pv 2) (pa_cons pe_int pa_nil)))) pss_nil) (pss_one (ps_ret (pv 3)))))) pss_nil) (pss_cons (ps_asg (pe_op op_addA (pe_ix (ix_seqK G.K rfl) (pv 0) pe_int (fun _ _ => rfl)) pe_int) (pg_sub (pv 0) pe_int set_list)) (pss_cons (ps_asg (pe_op op_modA (pe_callTy call_intA (by rfl) T.b_int (by decide +kernel) (pa_cons (pe_op op_addA (pe_op op_addA (pe_op op_mulA (pe_ix (ix_seqK G.K rfl) (pv 0) pe_int (fun _ _ => rfl)) pe_int) (pe_op op_mulA (pe_ix (ix_seqK G.K rfl) (pv 0) pe_int (fun _ _ => rfl)) pe_int)) pe_int) pa_nil)) pe_int) (pg_sub (pv 0) pe_int set_list)) (pss_cons (ps_set (i := 4) sc_law_take.nd rfl (by first | exact Or.inl rfl | exact Or.inr rfl) (pe_op op_modA (pe_callTy call_intA (by rfl) T.b_int (by decide +kernel) (pa_cons (pe_op op_addA (pe_op op_addA (pe_op op_mulA (pe_ix (ix_seqK G.K rfl) (pv 0) pe_int (fun _ _ => rfl)) pe_int) (pe_op op_fdvA (pe_ix (ix_seqK G.K rfl) (pv 0) pe_int (fun _ _ => rfl)) pe_int)) (pe_op op_mulA (pe_ix (ix_seqK G.K rfl) (pv 0) pe_int (fun _ _ => rfl)) pe_int)) pa_nil)) pe_int)) (pss_one (ps_ret (pe_op op_modA (pe_op op_fdvA (pv 4) pe_int) (pv 1))))))))), ?_⟩
  rintro Ex es o ⟨p, b, m, hm, hl, rfl, rfl⟩
  show S G _ _ [some (bagA G p b), some (fr G (.int m)), none, none, none] _
  refine q_row (i := 0) (j := 2) rfl (by decide) (by simp) ?_
  show S G _ _ [some (lstA G p.1 (topD p.2 b.seed b.cnt)), some (fr G (.int m)), some (lstA G p.2 (dI b.cells)), none, none] _
  refine q_when (et_test (ef_neNil (i := 2) rfl b.few)) (fun hb => ?_) fun hb => ?_
  · obtain ⟨cells, seed, cnt, few⟩ := b
    cases cells with
    | nil => simp at hb
    | cons c r =>
      refine q_asg (ef_op (ef_cb (ea_cons (ef_ixA (i := 2) (n := 0) (z := .int c) rfl ef_int (atI_nat (k := 0) rfl)) ea_nil) a_int) (ef_var rfl) (a_mod hm)) ?_
      refine s_seq (s_setA (i := 2) (n := 0) (d := .int (c / m)) (ef_op (ef_cb (ea_cons (ef_ixA (i := 2) (n := 0) (z := .int c) rfl ef_int (atI_nat (k := 0) rfl)) ea_nil) a_int) (ef_var rfl) (a_fdv ⟨hm, hl⟩)) rfl ef_int (by simp [dI]) ?_)
      show S G _ _ [some (lstA G p.1 (topD p.2 seed cnt)), some (fr G (.int m)), some (lstA G p.2 (dI ((c / m) :: r))), some (fr G (.int (c % m))), none] _
      refine q_when (et_test (ef_op (ef_ixA (i := 2) (n := 0) (z := .int (c / m)) rfl ef_int (atI_nat (k := 0) rfl)) ef_int a_eqI)) (fun h0 => ?_) fun h0 => ?_
      · refine s_drop (ef_bmA (i := 2) rfl (ea_cons ef_int ea_nil) rfl (ml_popAt (n := 0) rfl (by decide))) ?_
        have hz : c / m = 0 := by simpa using h0
        refine s_unrow (i := 0) (j := 2) (p := p) (b := (Bag.mk (c :: r) seed cnt few).nxt m) rfl (by simp only [Bag.nxt, hz, if_true]; rfl) (by decide) ?_
        exact s_ret (ef_var (i := 3) rfl) ⟨rfl, back_self fixed_bagA fixed_bagA rfl⟩
      · have hz : ¬ c / m = 0 := by simpa using h0
        refine s_unrow (i := 0) (j := 2) (p := p) (b := (Bag.mk (c :: r) seed cnt few).nxt m) rfl (by simp only [Bag.nxt, hz, if_false]; rfl) (by decide) ?_
        exact s_ret (ef_var (i := 3) rfl) ⟨rfl, back_self fixed_bagA fixed_bagA rfl⟩
  · obtain ⟨cells, seed, cnt, few⟩ := b
    cases cells with
    | cons c r => simp at hb
    | nil =>
      refine s_seq (s_setA (i := 0) (n := 2) (d := .int (cnt + 1)) (ef_op (ef_ixA (i := 0) (n := 2) (z := .int cnt) rfl ef_int rfl) ef_int a_addI) rfl ef_int (by simp [topD]) ?_)
      show S G _ _ [some (lstA G p.1 (topD p.2 seed (cnt + 1))), some (fr G (.int m)), some (lstA G p.2 (dI [])), none, none] _
      refine s_seq (s_setA (i := 0) (n := 1) (d := .int ((seed * 48271 + (cnt + 1) * 69621 + 7) % 2147483647)) (ef_op (ef_cb (ea_cons (ef_op (ef_op (ef_op (ef_ixA (i := 0) (n := 1) (z := .int seed) rfl ef_int rfl) ef_int (a_mulC (cmul_r (by decide)))) (ef_op (ef_ixA (i := 0) (n := 2) (z := .int (cnt + 1)) rfl ef_int rfl) ef_int (a_mulC (cmul_r (by decide)))) a_addI) ef_int a_addI) ea_nil) a_int) ef_int (a_mod (by decide))) rfl ef_int (by simp [topD]) ?_)
      show S G _ _ [some (lstA G p.1 (topD p.2 ((seed * 48271 + (cnt + 1) * 69621 + 7) % 2147483647) (cnt + 1))), some (fr G (.int m)), some (lstA G p.2 (dI [])), none, none] _
      generalize hs : (seed * 48271 + (cnt + 1) * 69621 + 7) % 2147483647 = s1
      refine q_asg (ef_op (ef_cb (ea_cons (ef_op (ef_op (ef_op (ef_ixA (i := 0) (n := 1) (z := .int s1) rfl ef_int rfl) ef_int (a_mulC (cmul_r (by decide)))) (ef_op (ef_ixA (i := 0) (n := 1) (z := .int s1) rfl ef_int rfl) ef_int (a_fdv ⟨by decide, by decide +kernel⟩)) a_addI) (ef_op (ef_ixA (i := 0) (n := 2) (z := .int (cnt + 1)) rfl ef_int rfl) ef_int (a_mulC (cmul_r (by decide)))) a_addI) ea_nil) a_int) ef_int (a_mod (by decide))) ?_
      refine s_unrow (i := 0) (j := 2) (p := p) (b := (Bag.mk [] seed cnt few).nxt m) (by subst hs; rfl) rfl (by decide) ?_
      refine s_ret (ef_op (ef_op (ef_var (i := 4) rfl) ef_int (a_fdv ⟨by decide, by decide +kernel⟩)) (ef_var (i := 1) rfl) (a_mod hm)) ⟨?_, back_self fixed_bagA fixed_bagA rfl⟩
      subst hs
      rfl
end
end K

namespace DL
open PySem L2
variable {G : Ct}
theorem s_forget {Ex : XK} {t : TS} {es : Es} {P : Po} (j : Nat) (h : S G Ex t (es.set j none) P) : S G Ex t es P := fun W F H σ D c p => h W F H σ D (c.drop j) p
end DL
namespace K
open PySem L2 PySem.Spec PyProof.Rows DL
local macro_rules | `(tactic| walk_at "sd") => `(tactic| first | assumption | omega | decide | (simp only [DL.dI_len, DL.lowI_len, DL.upto_len, List.length_map] at *; omega))
local macro_rules | `(tactic| walk_at "r2") => `(tactic| first | exact DL.a_addI | exact DL.a_sub | exact DL.a_lt | exact DL.a_le | exact DL.a_gt | exact DL.a_ge | exact DL.a_eqI | exact DL.a_neI | exact DL.a_eqS | exact DL.a_neS | exact DL.a_isN | exact DL.a_notN | exact DL.a_isC | exact DL.a_mod (by walk_at "sd") | exact DL.a_ixI (by walk_at "sd") (by walk_at "sd") | exact DL.a_ixJ (by walk_at "sd") (by walk_at "sd"))
local macro_rules | `(tactic| walk_at "rc") => `(tactic| first | exact DL.a_lenI | exact DL.a_lenL | exact DL.a_lenT | exact DL.a_int | exact DL.a_tupL)
local macro_rules | `(tactic| walk_at "ev") => `(tactic| first | exact DL.ef_int | exact DL.ef_bl | exact DL.ef_str | exact DL.ef_non | exact DL.ef_ty | exact DL.ef_raw | exact DL.ef_var rfl | exact DL.ea_nil | exact DL.et_yes | (refine' DL.ea_cons ?a ?b; (case a => walk_at "ev"); (case b => walk_at "ev")) | (refine' DL.et_test ?a; (case a => walk_at "ev")) | (refine' DL.et_B ?a; (case a => walk_at "ev")) | (refine' DL.et_not ?a; (case a => walk_at "ev")) | (refine' DL.et_or ?a fun _ => ?b; (case a => walk_at "ev"); (case b => walk_at "ev")) | (refine' DL.et_and ?a fun _ => ?b; (case a => walk_at "ev"); (case b => walk_at "ev")) | (refine' DL.ef_op ?a ?b ?c; (case a => walk_at "ev"); (case b => walk_at "ev"); (case c => walk_at "r2")) | (refine' DL.ef_cb ?a ?b; (case a => walk_at "ev"); (case b => walk_at "rc")) | (refine' DL.ef_cbT ?a ?b; (case a => walk_at "ev"); (case b => walk_at "rc")) | (refine' DL.ef_un ?a; (case a => walk_at "ev")) | (refine' DL.ef_fld 0 ?a ?f ?d ?c ?n; (case a => walk_at "ev"); (case f => decide +kernel); (case d => rfl); (case c => assumption); (case n => assumption)) | (refine' DL.ef_fld 1 ?a ?f ?d ?c ?n; (case a => walk_at "ev"); (case f => decide +kernel); (case d => rfl); (case c => assumption); (case n => assumption)))
section
variable {P : Program} {w : World} {G : Ct} {mg : Str → Option Value} {base : Heap} {A : Ad}
/-! ### numbers from the bag -/
def big : Int := 10 ^ (40 : Int).toNat
theorem big_pos : 0 < big := by decide +kernel
theorem big_log : big.natAbs.log2 < 9000 := by decide +kernel
def numF (b : Bag) : Int × Bag :=
  if b.dig 5 = 0 then ((b.nxt 5).dig 3, (b.nxt 5).nxt 3) else if b.dig 5 = 1 then (-1 - (b.nxt 5).dig 3, (b.nxt 5).nxt 3) else if b.dig 5 = 2 then (big - 1 - (b.nxt 5).dig 3, (b.nxt 5).nxt 3)
  else if b.dig 5 = 3 then (1 - big + (b.nxt 5).dig 3, (b.nxt 5).nxt 3) else ((b.nxt 5).dig big, (b.nxt 5).nxt big)
abbrev st_law_number : Stmt := top 20
theorem sc_law_number : FnScope ["bag", "way"] ["bag"] (defScope st_law_number) := ⟨rfl, rfl, rfl, by decide +kernel, rfl, by decide +kernel, by decide +kernel⟩

def fn_number (G : Ct) : Es → Out → Prop := fun es o => ∃ (p : Addr × Addr) (b : Bag), es = some (bagA G p b) :: frs G [] ∧ o = .ret (fr G (.int (numF b).1)) (some (bagA G p (numF b).2) :: frs G [])
theorem use_number {p : Addr × Addr} {b : Bag} : fn_number G (some (bagA G p b) :: frs G []) (.ret (fr G (.int (numF b).1)) (some (bagA G p (numF b).2) :: frs G [])) := ⟨p, b, rfl, rfl⟩
theorem ef_take {es es1 : Es} {tas : TA} {E : XK} {p : Addr × Addr} {b : Bag} {m : Int} {i : Nat} (h : 0 < m) (hl : m.natAbs.log2 < 9000) (hi : es[i]? = some (some (bagA G p b))) (ha : EA G tas es [.int m] es1) (hi1 : es1[i]? = some (some (bagA G p b))) :
    EF G (tCall (spOf G (fn_take G) 2) [] E (tCons (tVar i) tas)) es (.int (b.dig m)) (es1.set i (some (bagA G p (b.nxt m)))) := ef_callO hi ha hi1 (use_take h hl) fixed_bagA fixed_bagA
/-- .. a constant drawn from -/
theorem ef_takeC {es : Es} {E : XK} {p : Addr × Addr} {b : Bag} {m : Int} {i : Nat} (h : 0 < m) (hl : m.natAbs.log2 < 9000) (hi : es[i]? = some (some (bagA G p b))) :
    EF G (tCall (spOf G (fn_take G) 2) [] E (tCons (tVar i) (tCons (tC (.int m)) tNil))) es (.int (b.dig m)) (es.set i (some (bagA G p (b.nxt m)))) := ef_take h hl hi (ea_cons ef_int ea_nil) hi
theorem ok_number {f fd} (F : Fun G.K "_law_number" "_law_number" st_law_number f fd) (T : Txt G mg A) (C__law_take : Cal P w G.K mg base CX0 1 "_law_take" ["bag", "many"] (spOf G (fn_take G) 2)) : FnOk P w G.K mg base CX0 2 f fd ["bag"] (spOf G (fn_number G) 1) := by
  refine ok_of (N := ["bag", "way"]) F sc_law_number fun cdv A' outer s H E hr => ⟨_, (pss_cons (ps_set (i := 1) sc_law_number.nd rfl (by first | exact Or.inl rfl | exact Or.inr rfl) (pe_cal C__law_take hr (by first | decide | exact Nat.le_refl _) pass0 (pa_cons (pv 0) (pa_cons pe_int pa_nil)))) (pss_cons (ps_if (pt_cmpR (op_eqK G.K rfl hr.units) (pv 1) pe_int (nomark _)) (pss_one (ps_ret (pe_cal C__law_take hr (by first | decide | exact Nat.le_refl _) pass0 (pa_cons (pv 0) (pa_cons pe_int pa_nil))))) pss_nil) (pss_cons (ps_if (pt_cmpR (op_eqK G.K rfl hr.units) (pv 1) pe_int (nomark _)) (pss_one (ps_ret (pe_op op_subA (pe_un un_negA pe_int) (pe_cal C__law_take hr (by first | decide | exact Nat.le_refl _) pass0 (pa_cons (pv 0) (pa_cons pe_int pa_nil)))))) pss_nil) (pss_cons (ps_if (pt_cmpR (op_eqK G.K rfl hr.units) (pv 1) pe_int (nomark _)) (pss_one (ps_ret (pe_op op_subA (pe_op op_subA (pe_op op_powA pe_int pe_int) pe_int) (pe_cal C__law_take hr (by first | decide | exact Nat.le_refl _) pass0 (pa_cons (pv 0) (pa_cons pe_int pa_nil)))))) pss_nil) (pss_cons (ps_if (pt_cmpR (op_eqK G.K rfl hr.units) (pv 1) pe_int (nomark _)) (pss_one (ps_ret (pe_op op_addA (pe_op op_subA pe_int (pe_op op_powA pe_int pe_int)) (pe_cal C__law_take hr (by first | decide | exact Nat.le_refl _) pass0 (pa_cons (pv 0) (pa_cons pe_int pa_nil)))))) pss_nil) (pss_one (ps_ret (pe_cal C__law_take hr (by first | decide | exact Nat.le_refl _) pass0 (pa_cons (pv 0) (pa_cons (pe_op op_powA pe_int pe_int) pa_nil)))))))))), ?_⟩
  rintro Ex es o ⟨p, b, rfl, rfl⟩
  show S G _ _ [some (bagA G p b), none] _
  refine q_asg (ef_takeC (i := 0) (m := 5) (by decide) (by decide +kernel) rfl) ?_
  show S G _ _ [some (bagA G p (b.nxt 5)), some (fr G (.int (b.dig 5)))] _
  have three : ∀ {E : XK} {es : Es} {b : Bag}, es[0]? = some (some (bagA G p b)) → EF G (tCall (spOf G (fn_take G) 2) [] E (tCons (tVar 0) (tCons (tC (.int 3)) tNil))) es (.int (b.dig 3)) (es.set 0 (some (bagA G p (b.nxt 3)))) := fun h => ef_takeC (m := 3) (by decide) (by decide +kernel) h
  refine q_when (et_test (ef_op (ef_var rfl) ef_int a_eqI)) (fun h => ?_) fun h0 => ?_
  · have e : numF b = ((b.nxt 5).dig 3, (b.nxt 5).nxt 3) := by unfold numF; rw [if_pos (by simpa using h)]
    rw [e]
    exact s_ret (three rfl) ⟨rfl, back_self fixed_bagA fixed_bagA rfl⟩
  refine q_when (et_test (ef_op (ef_var rfl) ef_int a_eqI)) (fun h => ?_) fun h1 => ?_
  · have e : numF b = (-1 - (b.nxt 5).dig 3, (b.nxt 5).nxt 3) := by unfold numF; rw [if_neg (by simpa using h0), if_pos (by simpa using h)]
    rw [e]
    exact s_ret (ef_op (ef_un ef_int) (three rfl) a_sub) ⟨rfl, back_self fixed_bagA fixed_bagA rfl⟩
  refine q_when (et_test (ef_op (ef_var rfl) ef_int a_eqI)) (fun h => ?_) fun h2 => ?_
  · have e : numF b = (big - 1 - (b.nxt 5).dig 3, (b.nxt 5).nxt 3) := by unfold numF; rw [if_neg (by simpa using h0), if_neg (by simpa using h1), if_pos (by simpa using h)]
    rw [e]
    exact s_ret (ef_op (ef_op (ef_op ef_int ef_int (a_pow ⟨by decide, by decide, by decide⟩)) ef_int a_sub) (three rfl) a_sub) ⟨rfl, back_self fixed_bagA fixed_bagA rfl⟩
  refine q_when (et_test (ef_op (ef_var rfl) ef_int a_eqI)) (fun h => ?_) fun h3 => ?_
  · have e : numF b = (1 - big + (b.nxt 5).dig 3, (b.nxt 5).nxt 3) := by unfold numF; rw [if_neg (by simpa using h0), if_neg (by simpa using h1), if_neg (by simpa using h2), if_pos (by simpa using h)]
    rw [e]
    exact s_ret (ef_op (ef_op ef_int (ef_op ef_int ef_int (a_pow ⟨by decide, by decide, by decide⟩)) a_sub) (three rfl) a_addI) ⟨rfl, back_self fixed_bagA fixed_bagA rfl⟩
  have e : numF b = ((b.nxt 5).dig big, (b.nxt 5).nxt big) := by unfold numF; rw [if_neg (by simpa using h0), if_neg (by simpa using h1), if_neg (by simpa using h2), if_neg (by simpa using h3)]
  rw [e]
  exact s_ret (ef_take big_pos big_log rfl (ea_cons (ef_op ef_int ef_int (a_pow ⟨by decide, by decide, by decide⟩)) ea_nil) rfl) ⟨rfl, back_self fixed_bagA fixed_bagA rfl⟩
def farF (b : Bag) (m : Int) : Int × Bag :=
  if b.dig 4 = 0 then (m + (b.nxt 4).dig 3, (b.nxt 4).nxt 3) else if b.dig 4 = 1 then (-1 - (b.nxt 4).dig m, (b.nxt 4).nxt m) else if b.dig 4 = 2 then (big - 1 - (b.nxt 4).dig 3, (b.nxt 4).nxt 3)
  else (1 - big + (b.nxt 4).dig 3, (b.nxt 4).nxt 3)
/-- no case at all, and not too long -/
theorem farF_out (b : Bag) {m : Int} (h : 0 < m) (h2 : m ≤ 1000) : ¬ (0 ≤ (farF b m).1 ∧ (farF b m).1 < m) ∧ (farF b m).1.natAbs ≤ 10 ^ 41 := by
  have hb : big = 10 ^ 40 := by decide +kernel
  have d3 := (b.nxt 4).dig_lt (m := 3) (by decide)
  have dm := (b.nxt 4).dig_lt h
  unfold farF
  split
  · dsimp only; omega
  · split
    · dsimp only; omega
    · split
      · dsimp only; omega
      · dsimp only; omega
theorem log_41 {c : Int} (h : c.natAbs ≤ 10 ^ 41) : c.natAbs.log2 < 1920 := by
  by_cases h0 : c.natAbs = 0
  · rw [h0]; decide
  · refine Nat.lt_of_lt_of_le ((Nat.log2_lt h0).mpr (Nat.lt_of_le_of_lt h (show 10 ^ 41 < 2 ^ 200 by decide +kernel))) (by decide)
abbrev st_law_far : Stmt := top 21
theorem sc_law_far : FnScope ["bag", "many", "way"] ["bag", "many"] (defScope st_law_far) := ⟨rfl, rfl, rfl, by decide +kernel, rfl, by decide +kernel, by decide +kernel⟩

def fn_far (G : Ct) : Es → Out → Prop := fun es o => ∃ (p : Addr × Addr) (b : Bag) (m : Int), 0 < m ∧ m.natAbs.log2 < 9000 ∧ es = some (bagA G p b) :: frs G [.int m] ∧ o = .ret (fr G (.int (farF b m).1)) (some (bagA G p (farF b m).2) :: frs G [.int m])
theorem use_far {p : Addr × Addr} {b : Bag} {m : Int} (h : 0 < m) (hl : m.natAbs.log2 < 9000) : fn_far G (some (bagA G p b) :: frs G [.int m]) (.ret (fr G (.int (farF b m).1)) (some (bagA G p (farF b m).2) :: frs G [.int m])) := ⟨p, b, m, h, hl, rfl, rfl⟩
theorem ok_far {f fd} (F : Fun G.K "_law_far" "_law_far" st_law_far f fd) (T : Txt G mg A) (C__law_take : Cal P w G.K mg base CX0 1 "_law_take" ["bag", "many"] (spOf G (fn_take G) 2)) : FnOk P w G.K mg base CX0 2 f fd ["bag", "many"] (spOf G (fn_far G) 2) := by
  refine ok_of (N := ["bag", "many", "way"]) F sc_law_far fun cdv A' outer s H E hr => ⟨_, (pss_cons (ps_set (i := 2) sc_law_far.nd rfl (by first | exact Or.inl rfl | exact Or.inr rfl) (pe_cal C__law_take hr (by first | decide | exact Nat.le_refl _) pass0 (pa_cons (pv 0) (pa_cons pe_int pa_nil)))) (pss_cons (ps_if (pt_cmpR (op_eqK G.K rfl hr.units) (pv 2) pe_int (nomark _)) (pss_one (ps_ret (pe_op op_addA (pv 1) (pe_cal C__law_take hr (by first | decide | exact Nat.le_refl _) pass0 (pa_cons (pv 0) (pa_cons pe_int pa_nil)))))) pss_nil) (pss_cons (ps_if (pt_cmpR (op_eqK G.K rfl hr.units) (pv 2) pe_int (nomark _)) (pss_one (ps_ret (pe_op op_subA (pe_un un_negA pe_int) (pe_cal C__law_take hr (by first | decide | exact Nat.le_refl _) pass0 (pa_cons (pv 0) (pa_cons (pv 1) pa_nil)))))) pss_nil) (pss_cons (ps_if (pt_cmpR (op_eqK G.K rfl hr.units) (pv 2) pe_int (nomark _)) (pss_one (ps_ret (pe_op op_subA (pe_op op_subA (pe_op op_powA pe_int pe_int) pe_int) (pe_cal C__law_take hr (by first | decide | exact Nat.le_refl _) pass0 (pa_cons (pv 0) (pa_cons pe_int pa_nil)))))) pss_nil) (pss_one (ps_ret (pe_op op_addA (pe_op op_subA pe_int (pe_op op_powA pe_int pe_int)) (pe_cal C__law_take hr (by first | decide | exact Nat.le_refl _) pass0 (pa_cons (pv 0) (pa_cons pe_int pa_nil)))))))))), ?_⟩
  rintro Ex es o ⟨p, b, m, hm, hl, rfl, rfl⟩
  show S G _ _ [some (bagA G p b), some (fr G (.int m)), none] _
  refine q_asg (ef_takeC (i := 0) (m := 4) (by decide) (by decide +kernel) rfl) ?_
  show S G _ _ [some (bagA G p (b.nxt 4)), some (fr G (.int m)), some (fr G (.int (b.dig 4)))] _
  have three : ∀ {E : XK} {es : Es} {b : Bag}, es[0]? = some (some (bagA G p b)) → EF G (tCall (spOf G (fn_take G) 2) [] E (tCons (tVar 0) (tCons (tC (.int 3)) tNil))) es (.int (b.dig 3)) (es.set 0 (some (bagA G p (b.nxt 3)))) := fun h => ef_takeC (m := 3) (by decide) (by decide +kernel) h
  refine q_when (et_test (ef_op (ef_var rfl) ef_int a_eqI)) (fun h => ?_) fun h0 => ?_
  · have e : farF b m = (m + (b.nxt 4).dig 3, (b.nxt 4).nxt 3) := by unfold farF; rw [if_pos (by simpa using h)]
    rw [e]
    exact s_ret (ef_op (ef_var rfl) (three rfl) a_addI) ⟨rfl, back_self fixed_bagA fixed_bagA rfl⟩
  refine q_when (et_test (ef_op (ef_var rfl) ef_int a_eqI)) (fun h => ?_) fun h1 => ?_
  · have e : farF b m = (-1 - (b.nxt 4).dig m, (b.nxt 4).nxt m) := by unfold farF; rw [if_neg (by simpa using h0), if_pos (by simpa using h)]
    rw [e]
    exact s_ret (ef_op (ef_un ef_int) (ef_take hm hl rfl (ea_cons (ef_var rfl) ea_nil) rfl) a_sub) ⟨rfl, back_self fixed_bagA fixed_bagA rfl⟩
  refine q_when (et_test (ef_op (ef_var rfl) ef_int a_eqI)) (fun h => ?_) fun h2 => ?_
  · have e : farF b m = (big - 1 - (b.nxt 4).dig 3, (b.nxt 4).nxt 3) := by unfold farF; rw [if_neg (by simpa using h0), if_neg (by simpa using h1), if_pos (by simpa using h)]
    rw [e]
    exact s_ret (ef_op (ef_op (ef_op ef_int ef_int (a_pow ⟨by decide, by decide, by decide⟩)) ef_int a_sub) (three rfl) a_sub) ⟨rfl, back_self fixed_bagA fixed_bagA rfl⟩
  have e : farF b m = (1 - big + (b.nxt 4).dig 3, (b.nxt 4).nxt 3) := by unfold farF; rw [if_neg (by simpa using h0), if_neg (by simpa using h1), if_neg (by simpa using h2)]
  rw [e]
  exact s_ret (ef_op (ef_op ef_int (ef_op ef_int ef_int (a_pow ⟨by decide, by decide, by decide⟩)) a_sub) (three rfl) a_addI) ⟨rfl, back_self fixed_bagA fixed_bagA rfl⟩
/-! ### the bag made -/
def absI (n : Int) : Int := if n ≥ 0 then n else -1 - n
def cellsOf (l : List Int) : List Int := (cutD l none (some 63)).map absI
def seedF (s0 : Int) (l : List Int) : Int := l.foldl (fun s c => (s * 48271 + c % 1000003 + 11) % 2147483647) s0
theorem cut_len (l : List Int) : (cutD l none (some 63)).length ≤ 63 := by
  unfold DL.cutD
  rw [List.length_take]
  have : HT.sIx l.length l.length (some 63) ≤ 63 := by
    rw [show (63 : Int) = ((63 : Nat) : Int) from rfl, HT.sIx_nat]
    omega
  omega
def bag0 (s0 : Int) (l : List Int) : Bag := ⟨(cellsOf l).filter fun c => decide (c ≥ 10 ^ (18 : Int).toNat), seedF s0 (cellsOf l), 0, by
  have h := List.length_filter_le (fun c => decide (c ≥ 10 ^ (18 : Int).toNat)) (cellsOf l)
  have h2 := cut_len l
  unfold cellsOf at h ⊢
  rw [List.length_map] at h
  omega⟩
theorem cut_dI (l : List Int) (a b : Option Int) : cutD (dI l) a b = dI (cutD l a b) := by
  unfold DL.cutD dI
  rw [List.length_map, List.map_take, List.map_drop]
abbrev st_law_start : Stmt := top 17
theorem sc_law_start : FnScope ["script", "cells", "cell", "seed"] ["script"] (defScope st_law_start) := ⟨rfl, rfl, rfl, by decide +kernel, rfl, by decide +kernel, by decide +kernel⟩

def fn_start (G : Ct) : Es → Out → Prop := fun es o => ∃ l : List Int, es = frs G [.rol (dI l)] ∧ o = .ret (bagE G (bag0 4959 l)) es
theorem ok_start {f fd} (F : Fun G.K "_law_start" "_law_start" st_law_start f fd) (T : Txt G mg A) : FnOk P w G.K mg base CX0 1 f fd ["script"] (spOf G (fn_start G) 1) := by
  refine ok_of (N := ["script", "cells", "cell", "seed"]) F sc_law_start fun cdv A' outer s H E hr => ⟨_, (pss_cons (ps_setLc (i := 1) (own := [("cell", 2)]) (g := gName 2) (tt := tYes) rfl sc_law_start.nd rfl rfl (sw_true rfl rfl rfl (by decide +kernel)) (pi_listK G.K rfl (pe_slice (sl_listK G.K rfl) (pv 0) po_none (po_some pe_int))) (blkOk_by (by first | decide +kernel | kernel_rfl)) (fun _ _ _ _ _ => pg_name (i := 2) sc_law_start.nd rfl (by first | exact Or.inl rfl | exact Or.inr rfl)) (fun _ _ _ _ _ => pts_nil) (fun _ _ _ _ _ => (pe_ifExp (pt_cmpR op_geA (pv 2) pe_int (nomark _)) (pe_callTy call_intA (by rfl) T.b_int (by decide +kernel) (pa_cons (pv 2) pa_nil)) (pe_op op_subA (pe_un un_negA pe_int) (pe_callTy call_intA (by rfl) T.b_int (by decide +kernel) (pa_cons (pv 2) pa_nil)))))) (pss_cons (ps_set (i := 3) sc_law_start.nd rfl (by first | exact Or.inl rfl | exact Or.inr rfl) pe_int) (pss_cons (ps_for PassesOwn.never rfl (pi_listK G.K rfl (pv 1)) (pg_name (i := 2) sc_law_start.nd rfl (by first | exact Or.inl rfl | exact Or.inr rfl)) (pss_one (ps_set (i := 3) sc_law_start.nd rfl (by first | exact Or.inl rfl | exact Or.inr rfl) (pe_op op_modA (pe_callTy call_intA (by rfl) T.b_int (by decide +kernel) (pa_cons (pe_op op_addA (pe_op op_addA (pe_op op_mulA (pv 3) pe_int) (pe_op op_modA (pv 2) pe_int)) pe_int) pa_nil)) pe_int)))) (pss_one (ps_ret (pe_lst (pa_cons (pe_lc (own := [("cell", 2)]) (g := gName 2) (tt := _) rfl sc_law_start.nd (pi_listK G.K rfl (pv 1)) (blkOk_by (by first | decide +kernel | kernel_rfl)) (fun _ _ _ _ _ => pg_name (i := 2) sc_law_start.nd rfl (by first | exact Or.inl rfl | exact Or.inr rfl)) (fun _ _ _ _ _ => (pts_one (pt_cmpR op_geA (pv 2) (pe_op op_powA pe_int pe_int) (nomark _)))) (fun _ _ _ _ _ => (pv 2))) (pa_cons (pv 3) (pa_cons pe_int pa_nil))))))))), ?_⟩
  rintro Ex es o ⟨l, rfl, rfl⟩
  show S G _ _ [some (fr G (.rol (dI l))), none, none, none] _
  have h1 := lc_I (G := G) (l := cutD l none (some 63)) (es := [some (fr G (.rol (dI l))), none, none, none]) (j := 2) (tl := tSl (rSlL G.K) (tVar 0) tNoPart (tPart (tC (.int 63)))) (tt := tYes)
    (te := tIf (tTest (tOp rGe' (tVar 2) (tC (.int 0)))) (tCB rIntA (tCons (tVar 2) tNil)) (tOp rSub' (tUn rNeg (tC (.int 1))) (tCB rIntA (tCons (tVar 2) tNil))))
    (fun _ => true) (fun n => .int (absI n)) (ef_lst (by rw [← cut_dI]; exact eo_sliceR (ef_var rfl) epo_none (epo_some ef_int))) (by have := cut_len l; omega) rfl (fun n hn => et_yes)
    (fun n hn _ => (ef_if (by walk_at "ev") (fun _ => by walk_at "ev") (fun _ => ef_op (ef_un ef_int) (by walk_at "ev") a_sub)).to (by unfold absI; by_cases q : n ≥ 0 <;> simp [q]))
  rw [filter_true, dI_map] at h1
  refine q_asg (ef_lst h1) ?_
  show S G _ _ [some (fr G (.rol (dI l))), some (fr G (.lst (dI (cellsOf l)))), none, none] _
  generalize hc : cellsOf l = cs
  have hz : cs.length ≤ 63 := by subst hc; unfold cellsOf; rw [List.length_map]; exact cut_len l
  refine q_asg ef_int ?_
  show S G _ _ [some (fr G (.rol (dI l))), some (fr G (.lst (dI cs))), none, some (fr G (.int 4959))] _
  refine s_seq (s_forL (xs := dI cs) (ef_var rfl) (fun i e => ∃ x, e = [some (fr G (.rol (dI l))), some (fr G (.lst (dI cs))), x, some (fr G (.int (seedF 4959 (cs.take i))))]) ⟨_, rfl⟩ ?_ ?_)
  · rintro i x e hx ⟨y, rfl⟩
    obtain ⟨hi, rfl⟩ := dI_get hx
    refine ⟨_, ag_name, ?_⟩
    show S G _ _ [some (fr G (.rol (dI l))), some (fr G (.lst (dI cs))), some (fr G (.int (cs.getD i 0))), some (fr G (.int (seedF 4959 (cs.take i))))] _
    refine s_asg (ef_op (ef_cb (ea_cons (ef_op (ef_op (ef_op (ef_var rfl) ef_int (a_mulC (cmul_r (by decide)))) (ef_op (ef_var rfl) ef_int (a_mod (by decide))) a_addI) ef_int a_addI) ea_nil) a_int) ef_int (a_mod (by decide))) ⟨some (fr G (.int (cs.getD i 0))), ?_⟩
    rw [take_next hi]
    unfold seedF
    rw [List.foldl_append]
    rfl
  · rintro e ⟨y, rfl⟩
    rw [dI_len, List.take_of_length_le (Nat.le_refl _)]
    refine s_forget 2 ?_
    show S G _ _ [some (fr G (.rol (dI l))), some (fr G (.lst (dI cs))), none, some (fr G (.int (seedF 4959 cs)))] _
    have h2 := lc_I (G := G) (l := cs) (es := [some (fr G (.rol (dI l))), some (fr G (.lst (dI cs))), none, some (fr G (.int (seedF 4959 cs)))]) (j := 2) (tl := tVar 1) (tt := tTest (tOp rGe' (tVar 2) (tOp rPow (tC (.int 10)) (tC (.int 18))))) (te := tVar 2)
      (fun c => decide (c ≥ 10 ^ (18 : Int).toNat)) (fun n => .int n) (ef_var rfl) (by omega) rfl (fun n hn => et_test (ef_op (ef_var rfl) (ef_op ef_int ef_int (a_pow ⟨by decide, by decide, by decide⟩)) a_ge)) (fun n hn _ => ef_var rfl)
    subst hc
    exact s_retO (eo_bag (b := bag0 4959 l) h2 (ef_var rfl) ef_int) ⟨rfl, back_frs⟩
end
end K

namespace K
open PySem L2 PySem.Spec PyProof.Rows DL
local macro_rules | `(tactic| walk_at "sd") => `(tactic| first | assumption | omega | decide | (simp only [DL.dI_len, DL.lowI_len, DL.upto_len, List.length_map] at *; omega))
local macro_rules | `(tactic| walk_at "r2") => `(tactic| first | exact DL.a_addI | exact DL.a_sub | exact DL.a_lt | exact DL.a_le | exact DL.a_gt | exact DL.a_ge | exact DL.a_eqI | exact DL.a_neI | exact DL.a_eqS | exact DL.a_neS | exact DL.a_isN | exact DL.a_notN | exact DL.a_isC | exact DL.a_mod (by walk_at "sd") | exact DL.a_ixI (by walk_at "sd") (by walk_at "sd") | exact DL.a_ixJ (by walk_at "sd") (by walk_at "sd"))
local macro_rules | `(tactic| walk_at "rc") => `(tactic| first | exact DL.a_lenI | exact DL.a_lenL | exact DL.a_lenT | exact DL.a_int | exact DL.a_tupL)
local macro_rules | `(tactic| walk_at "ev") => `(tactic| first | exact DL.ef_int | exact DL.ef_bl | exact DL.ef_str | exact DL.ef_non | exact DL.ef_ty | exact DL.ef_raw | exact DL.ef_var rfl | exact DL.ea_nil | exact DL.et_yes | (refine' DL.ea_cons ?a ?b; (case a => walk_at "ev"); (case b => walk_at "ev")) | (refine' DL.et_test ?a; (case a => walk_at "ev")) | (refine' DL.et_B ?a; (case a => walk_at "ev")) | (refine' DL.et_not ?a; (case a => walk_at "ev")) | (refine' DL.et_or ?a fun _ => ?b; (case a => walk_at "ev"); (case b => walk_at "ev")) | (refine' DL.et_and ?a fun _ => ?b; (case a => walk_at "ev"); (case b => walk_at "ev")) | (refine' DL.ef_op ?a ?b ?c; (case a => walk_at "ev"); (case b => walk_at "ev"); (case c => walk_at "r2")) | (refine' DL.ef_cb ?a ?b; (case a => walk_at "ev"); (case b => walk_at "rc")) | (refine' DL.ef_cbT ?a ?b; (case a => walk_at "ev"); (case b => walk_at "rc")) | (refine' DL.ef_un ?a; (case a => walk_at "ev")) | (refine' DL.ef_fld 0 ?a ?f ?d ?c ?n; (case a => walk_at "ev"); (case f => decide +kernel); (case d => rfl); (case c => assumption); (case n => assumption)) | (refine' DL.ef_fld 1 ?a ?f ?d ?c ?n; (case a => walk_at "ev"); (case f => decide +kernel); (case d => rfl); (case c => assumption); (case n => assumption)))
section
variable {P : Program} {w : World} {G : Ct} {mg : Str → Option Value} {base : Heap} {A : Ad}
/-! ### what is due -/
def mineD (m : List Int) : List D := (List.range m.length).map fun c : Nat => .lst (dI (cellI m c))
def rowsD (m : List Int) : List D := (List.range m.length).map fun c : Nat => .lst ((List.range m.length).map fun o : Nat => .bl (decide (gi m c = gi m o)))
def dueL (m : List Int) : List D := [.int m.length, .int (cellsD m).length, .lst (dI m), .lst (cellsD m), .lst (mineD m), .lst (rowsD m)]
theorem lc_Rm {te : TE} {tas : TA} {es : Es} {j n : Nat} (f : Nat → D) (hl : EA G tas es [.int (n : Int)] es) (hz : n ≤ 100000) (hj : es[j]? = some none)
    (he : ∀ i, i < n → EF G te (es.set j (some (fr G (.int (i : Int))))) (f i) (es.set j (some (fr G (.int (i : Int)))))) : EO G (tLc (iRng1 tas) (gName j) tYes te [j]) es (lst G ((List.range n).map f)) es := by
  have h := lc_R (G := G) (fun _ => true) f hl hz hj (fun i hi => et_yes) (fun i hi _ => he i hi)
  rw [filter_true] at h
  exact h
theorem lc_Im {te tl : TE} {es : Es} {j : Nat} {l : List Int} (f : Int → D) (hl : EF G tl es (.lst (dI l)) es) (hz : l.length ≤ 100000) (hj : es[j]? = some none)
    (he : ∀ n ∈ l, EF G te (es.set j (some (fr G (.int n)))) (f n) (es.set j (some (fr G (.int n))))) : EO G (tLc (iList G.K tl) (gName j) tYes te [j]) es (lst G (l.map f)) es := by
  have h := lc_I (G := G) (fun _ => true) f hl hz hj (fun i hi => et_yes) (fun i hi _ => he i hi)
  rw [filter_true] at h
  exact h
theorem root_eq {m : List Int} {c : Nat} (h : m.getD c 0 = (c : Int)) : (flt m.length fun o => decide (m.getD o 0 = (c : Int))) = cellI m (c : Int) := by
  unfold cellI
  rw [gi_nat, h]
abbrev st_law_low : Stmt := top 22
theorem sc_law_low : FnScope ["marks", "mark"] ["marks"] (defScope st_law_low) := ⟨rfl, rfl, rfl, by decide +kernel, rfl, by decide +kernel, by decide +kernel⟩

def fn_low (G : Ct) : Es → Out → Prop := fun es o => ∃ l : List Int, l.length ≤ 1000 ∧ es = frs G [.lst (dI l)] ∧ o = .ret (lst G (dI (lowI l))) es
theorem use_low {l : List Int} (h : l.length ≤ 1000) : fn_low G (frs G [.lst (dI l)]) (.ret (lst G (dI (lowI l))) (frs G [.lst (dI l)])) := ⟨l, h, rfl, rfl⟩
theorem ok_low {f fd} (F : Fun G.K "_law_low" "_law_low" st_law_low f fd) (T : Txt G mg A) : FnOk P w G.K mg base CX0 1 f fd ["marks"] (spOf G (fn_low G) 1) := by
  refine ok_of (N := ["marks", "mark"]) F sc_law_low fun cdv A' outer s H E hr => ⟨_, (pss_one (ps_ret (pe_lc (own := [("mark", 1)]) (g := gName 1) (tt := tYes) rfl sc_law_low.nd (pi_listK G.K rfl (pv 0)) (blkOk_by (by first | decide +kernel | kernel_rfl)) (fun _ _ _ _ _ => pg_name (i := 1) sc_law_low.nd rfl (by first | exact Or.inl rfl | exact Or.inr rfl)) (fun _ _ _ _ _ => pts_nil) (fun _ _ _ _ _ => (pe_bmK G.K rfl PySem.F.plainAttrs_list PySem.F.slot_list_index PySem.F.type_list_index (mt_indexK G.K rfl) (pv 0) (pa_cons (pv 1) pa_nil)))))), ?_⟩
  rintro Ex es o ⟨l, hl, rfl, rfl⟩
  show S G _ _ [some (fr G (.lst (dI l))), none] _
  have h := lc_Im (G := G) (j := 1) (tl := tVar 0) (te := tBM G.K "list" (rIndex G.K) (tVar 0) (tCons (tVar 1) tNil)) (l := l) (es := [some (fr G (.lst (dI l))), none]) (fun n => .int (l.idxOf n : Nat)) (ef_var rfl) (by omega) rfl fun n hn => ef_bmL (ef_var rfl) (ea_cons (ef_var rfl) ea_nil) (mt_idx hn)
  rw [dI_map] at h
  exact s_retO h ⟨rfl, back_frs⟩
abbrev st_law_cells : Stmt := top 23
theorem sc_law_cells : FnScope ["low", "rows", "case", "other"] ["low"] (defScope st_law_cells) := ⟨rfl, rfl, rfl, by decide +kernel, rfl, by decide +kernel, by decide +kernel⟩

def fn_lcells (G : Ct) : Es → Out → Prop := fun es o => ∃ m : List Int, m.length ≤ 1000 ∧ es = frs G [.lst (dI m)] ∧ o = .ret (lst G (cellsD m)) es
theorem cellsD_got (m : List Int) : cellsD m = got (fun c => decide (m.getD c 0 = (c : Int))) (fun c => .lst (dI (cellI m (c : Int)))) m.length := by
  unfold cellsD rootsI flt got
  rw [List.map_map]
  rfl
theorem ok_lcells {f fd} (F : Fun G.K "_law_cells" "_law_cells" st_law_cells f fd) (T : Txt G mg A) : FnOk P w G.K mg base CX0 1 f fd ["low"] (spOf G (fn_lcells G) 1) := by
  refine ok_of (N := ["low", "rows", "case", "other"]) F sc_law_cells fun cdv A' outer s H E hr => ⟨_, (pss_cons (ps_set (i := 1) sc_law_cells.nd rfl (by first | exact Or.inl rfl | exact Or.inr rfl) (pe_lst pa_nil)) (pss_cons (ps_for PassesOwn.never rfl (pi_range1 (by rfl) T.b_range (pa_cons (pe_callB (call_lenK G.K rfl) (by rfl) T.b_len PySem.boot_len (pa_cons (pv 0) pa_nil)) pa_nil)) (pg_name (i := 2) sc_law_cells.nd rfl (by first | exact Or.inl rfl | exact Or.inr rfl)) (pss_one (ps_if (pt_cmpR (op_eqK G.K rfl hr.units) (pe_ix (ix_seqK G.K rfl) (pv 0) (pv 2) (fun _ _ => rfl)) (pv 2) (nomark _)) (pss_one (ps_expr (pe_bmK G.K rfl PySem.F.plainAttrs_list PySem.F.slot_list_append PySem.F.type_list_append mt_append (pv 1) (pa_cons (pe_lc (own := [("other", 3)]) (g := gName 3) (tt := _) rfl sc_law_cells.nd (pi_range1 (by rfl) T.b_range (pa_cons (pe_callB (call_lenK G.K rfl) (by rfl) T.b_len PySem.boot_len (pa_cons (pv 0) pa_nil)) pa_nil)) (blkOk_by (by first | decide +kernel | kernel_rfl)) (fun _ _ _ _ _ => pg_name (i := 3) sc_law_cells.nd rfl (by first | exact Or.inl rfl | exact Or.inr rfl)) (fun _ _ _ _ _ => (pts_one (pt_cmpR (op_eqK G.K rfl hr.units) (pe_ix (ix_seqK G.K rfl) (pv 0) (pv 3) (fun _ _ => rfl)) (pv 2) (nomark _)))) (fun _ _ _ _ _ => (pv 3))) pa_nil)))) pss_nil))) (pss_one (ps_ret (pv 1))))), ?_⟩
  rintro Ex es o ⟨m, hl, rfl, rfl⟩
  show S G _ _ [some (fr G (.lst (dI m))), none, none, none] _
  refine q_asgO (eo_lst ea_nil) ?_
  refine s_seq (s_forR (n := (m.length : Int)) (by walk_at "ev") (by omega) (by omega) (fun i e => ∃ x, e = [some (fr G (.lst (dI m))), some (lst G (got (fun c => decide (m.getD c 0 = (c : Int))) (fun c => .lst (dI (cellI m (c : Int)))) i)), x, none]) ⟨none, rfl⟩ ?_ ?_)
  · rintro i e hi ⟨x, rfl⟩
    refine ⟨_, ag_name, ?_⟩
    show S G _ _ [some (fr G (.lst (dI m))), some (lst G (got (fun c => decide (m.getD c 0 = (c : Int))) (fun c => .lst (dI (cellI m (c : Int)))) i)), some (fr G (.int (i : Int))), none] _
    have hi2 : i < m.length := by omega
    refine s_if (et_test (ef_op (ef_op (ef_var rfl) (ef_var rfl) (a_ixI (Int.natCast_nonneg i) hi)) (ef_var rfl) a_eqI)) (fun h => ?_) fun h => ?_
    · have h1 : m.getD i 0 = (i : Int) := by simpa [gi_nat] using h
      have h2 := lc_R (G := G) (tas := tCons (tCB (rLenA G.K) (tCons (tVar 0) tNil)) tNil) (te := tVar 3) (tt := tTest (tOp (rEqA G.K) (tOp (rIx G.K) (tVar 0) (tVar 3)) (tVar 2))) (es := [some (fr G (.lst (dI m))), some (lst G (got (fun c => decide (m.getD c 0 = (c : Int))) (fun c => .lst (dI (cellI m (c : Int)))) i)), some (fr G (.int (i : Int))), none]) (j := 3) (n := m.length)
        (fun o => decide (m.getD o 0 = (i : Int))) (fun i => .int (i : Int)) (by walk_at "ev") (by omega) rfl
        (fun o ho => et_test (ef_op (ef_op (ef_var rfl) (ef_var rfl) (a_ixI (Int.natCast_nonneg o) (by omega))) (ef_var rfl) a_eqI)) (fun i hi _ => ef_var rfl)
      rw [flt_D, root_eq h1] at h2
      refine s_drop (ef_bmO (i := 1) (ea_cons (ef_lst h2) ea_nil) rfl rfl (ml_append (by have := got_len (fun c => decide (m.getD c 0 = (c : Int))) (fun c => .lst (dI (cellI m (c : Int)))) i; omega))) ⟨some (fr G (.int (i : Int))), ?_⟩
      rw [got_yes (by simpa using h1)]
      rfl
    · have h1 : ¬ m.getD i 0 = (i : Int) := by simpa [gi_nat] using h
      exact s_next ⟨_, by rw [got_no (by simpa using h1)]⟩
  · rintro e ⟨x, rfl⟩
    exact s_retO (eo_var rfl) ⟨by rw [cellsD_got, Int.toNat_natCast], back_frs⟩
abbrev st_law_due : Stmt := top 24
theorem sc_law_due : FnScope ["low", "many", "cells", "mine", "other", "mark", "rows", "case"] ["low"] (defScope st_law_due) := ⟨rfl, rfl, rfl, by decide +kernel, rfl, by decide +kernel, by decide +kernel⟩

def fn_due (G : Ct) : Es → Out → Prop := fun es o => ∃ m : List Int, m.length ≤ 1000 ∧ es = frs G [.lst (dI m)] ∧ o = .ret (lst G (dueL m)) es
theorem use_due {m : List Int} (h : m.length ≤ 1000) : fn_due G (frs G [.lst (dI m)]) (.ret (lst G (dueL m)) (frs G [.lst (dI m)])) := ⟨m, h, rfl, rfl⟩
theorem map_getD {α : Type} (f : Int → α) (m : List Int) : (List.range m.length).map (fun c : Nat => f (m.getD c 0)) = m.map f := by
  apply List.ext_getElem
  · simp
  · intro i h1 h2
    simp at h1
    simp [List.getElem?_eq_getElem h1]
theorem ok_due {f fd} (F : Fun G.K "_law_due" "_law_due" st_law_due f fd) (T : Txt G mg A) (C__law_cells : Cal P w G.K mg base CX0 1 "_law_cells" ["low"] (spOf G (fn_lcells G) 1)) : FnOk P w G.K mg base CX0 2 f fd ["low"] (spOf G (fn_due G) 1) := by
  refine ok_of (N := ["low", "many", "cells", "mine", "other", "mark", "rows", "case"]) F sc_law_due fun cdv A' outer s H E hr => ⟨_, (pss_cons (ps_set (i := 1) sc_law_due.nd rfl (by first | exact Or.inl rfl | exact Or.inr rfl) (pe_callB (call_lenK G.K rfl) (by rfl) T.b_len PySem.boot_len (pa_cons (pv 0) pa_nil))) (pss_cons (ps_set (i := 2) sc_law_due.nd rfl (by first | exact Or.inl rfl | exact Or.inr rfl) (pe_cal C__law_cells hr (by first | decide | exact Nat.le_refl _) pass0 (pa_cons (pv 0) pa_nil))) (pss_cons (ps_setLc (i := 3) (own := [("mark", 5)]) (g := gName 5) (tt := tYes) rfl sc_law_due.nd rfl rfl (sw_true rfl rfl rfl (by decide +kernel)) (pi_listK G.K rfl (pv 0)) (blkOk_by (by first | decide +kernel | kernel_rfl)) (fun _ _ _ _ _ => pg_name (i := 5) sc_law_due.nd rfl (by first | exact Or.inl rfl | exact Or.inr rfl)) (fun _ _ _ _ _ => pts_nil) (fun _ _ _ _ _ => (pe_lc (own := [("other", 4)]) (g := gName 4) (tt := _) rfl sc_law_due.nd (pi_range1 (by rfl) T.b_range (pa_cons (pv 1) pa_nil)) (blkOk_by (by first | decide +kernel | kernel_rfl)) (fun _ _ _ _ _ => pg_name (i := 4) sc_law_due.nd rfl (by first | exact Or.inl rfl | exact Or.inr rfl)) (fun _ _ _ _ _ => (pts_one (pt_cmpR (op_eqK G.K rfl hr.units) (pe_ix (ix_seqK G.K rfl) (pv 0) (pv 4) (fun _ _ => rfl)) (pv 5) (nomark _)))) (fun _ _ _ _ _ => (pv 4))))) (pss_cons (ps_setLc (i := 6) (own := [("case", 7)]) (g := gName 7) (tt := tYes) rfl sc_law_due.nd rfl rfl (sw_true rfl rfl rfl (by decide +kernel)) (pi_range1 (by rfl) T.b_range (pa_cons (pv 1) pa_nil)) (blkOk_by (by first | decide +kernel | kernel_rfl)) (fun _ _ _ _ _ => pg_name (i := 7) sc_law_due.nd rfl (by first | exact Or.inl rfl | exact Or.inr rfl)) (fun _ _ _ _ _ => pts_nil) (fun _ _ _ _ _ => (pe_lc (own := [("other", 4)]) (g := gName 4) (tt := tYes) rfl sc_law_due.nd (pi_range1 (by rfl) T.b_range (pa_cons (pv 1) pa_nil)) (blkOk_by (by first | decide +kernel | kernel_rfl)) (fun _ _ _ _ _ => pg_name (i := 4) sc_law_due.nd rfl (by first | exact Or.inl rfl | exact Or.inr rfl)) (fun _ _ _ _ _ => pts_nil) (fun _ _ _ _ _ => (pe_cmpR (op_eqK G.K rfl hr.units) (pe_ix (ix_seqK G.K rfl) (pv 0) (pv 7) (fun _ _ => rfl)) (pe_ix (ix_seqK G.K rfl) (pv 0) (pv 4) (fun _ _ => rfl)) (nomark _)))))) (pss_one (ps_ret (pe_lst (pa_cons (pv 1) (pa_cons (pe_callB (call_lenK G.K rfl) (by rfl) T.b_len PySem.boot_len (pa_cons (pv 2) pa_nil)) (pa_cons (pv 0) (pa_cons (pv 2) (pa_cons (pv 3) (pa_cons (pv 6) pa_nil))))))))))))), ?_⟩
  rintro Ex es o ⟨m, hl, rfl, rfl⟩
  show S G _ _ [some (fr G (.lst (dI m))), none, none, none, none, none, none, none] _
  refine q_asg (d := .int m.length) (by walk_at "ev") ?_
  refine q_asg (ef_lst (eo_call (Fn := fn_lcells G) (by walk_at "ev") ⟨m, hl, rfl, rfl⟩)) ?_
  show S G _ _ [some (fr G (.lst (dI m))), some (fr G (.int m.length)), some (fr G (.lst (cellsD m))), none, none, none, none, none] _
  have h1 := lc_Im (G := G) (j := 5) (tl := tVar 0) (te := tLc (iRng1 (tCons (tVar 1) tNil)) (gName 4) (tTest (tOp (rEqA G.K) (tOp (rIx G.K) (tVar 0) (tVar 4)) (tVar 5))) (tVar 4) [4]) (l := m) (es := [some (fr G (.lst (dI m))), some (fr G (.int m.length)), some (fr G (.lst (cellsD m))), none, none, none, none, none])
    (fun n => .lst (dI (flt m.length fun o => decide (m.getD o 0 = n)))) (ef_var rfl) (by omega) rfl fun n hn => by
      have h2 := lc_R (G := G) (tas := tCons (tVar 1) tNil) (te := tVar 4) (tt := tTest (tOp (rEqA G.K) (tOp (rIx G.K) (tVar 0) (tVar 4)) (tVar 5))) (es := [some (fr G (.lst (dI m))), some (fr G (.int m.length)), some (fr G (.lst (cellsD m))), none, none, some (fr G (.int n)), none, none]) (j := 4) (n := m.length)
        (fun o => decide (m.getD o 0 = n)) (fun i => .int (i : Int)) (by walk_at "ev") (by omega) rfl
        (fun o ho => et_test (ef_op (ef_op (ef_var rfl) (ef_var rfl) (a_ixI (Int.natCast_nonneg o) (by omega))) (ef_var rfl) a_eqI)) (fun i hi _ => ef_var rfl)
      rw [flt_D] at h2
      exact ef_lst h2
  have e1 : m.map (fun n => D.lst (dI (flt m.length fun o => decide (m.getD o 0 = n)))) = mineD m := by
    rw [← map_getD]
    rfl
  rw [e1] at h1
  refine q_asg (ef_lst h1) ?_
  show S G _ _ [some (fr G (.lst (dI m))), some (fr G (.int m.length)), some (fr G (.lst (cellsD m))), some (fr G (.lst (mineD m))), none, none, none, none] _
  have h3 := lc_Rm (G := G) (j := 7) (tas := tCons (tVar 1) tNil) (te := tLc (iRng1 (tCons (tVar 1) tNil)) (gName 4) tYes (tOp (rEqA G.K) (tOp (rIx G.K) (tVar 0) (tVar 7)) (tOp (rIx G.K) (tVar 0) (tVar 4))) [4]) (n := m.length) (es := [some (fr G (.lst (dI m))), some (fr G (.int m.length)), some (fr G (.lst (cellsD m))), some (fr G (.lst (mineD m))), none, none, none, none])
    (fun c => .lst ((List.range m.length).map fun o : Nat => .bl (decide (gi m c = gi m o)))) (by walk_at "ev") (by omega) rfl fun c hc => ef_lst (lc_Rm (G := G) (j := 4) (n := m.length) (fun o => .bl (decide (gi m c = gi m o))) (by walk_at "ev") (by omega) rfl fun o ho =>
      ef_op (ef_op (ef_var rfl) (ef_var rfl) (a_ixI (Int.natCast_nonneg c) (by omega))) (ef_op (ef_var rfl) (ef_var rfl) (a_ixI (Int.natCast_nonneg o) (by omega))) a_eqI)
  refine q_asg (ef_lst h3) ?_
  refine s_retO (eo_lst (ea_cons (ef_var rfl) (ea_cons (ef_cb (ea_cons (ef_var rfl) ea_nil) a_lenL) (ea_cons (ef_var rfl) (ea_cons (ef_var rfl) (ea_cons (ef_var rfl) (ea_cons (ef_var rfl) ea_nil))))))) ⟨rfl, back_frs⟩
/-! ### the same -/
abbrev st_law_same : Stmt := top 19
theorem sc_law_same : FnScope ["actual", "due", "k"] ["actual", "due"] (defScope st_law_same) := ⟨rfl, rfl, rfl, by decide +kernel, rfl, by decide +kernel, by decide +kernel⟩

theorem ok_same (T : Txt G mg A) (Y : KTy G.K) {f fd} (F : Fun G.K "_law_same" "_law_same" st_law_same f fd) {n : Nat} (C__law_same : Cal P w G.K mg base CX0 n "_law_same" ["actual", "due"] (spOf G (fn_same G n) 2)) : FnOk P w G.K mg base CX0 (n + 1) f fd ["actual", "due"] (spOf G (fn_same G (n + 1)) 2) := by
  refine ok_of (N := ["actual", "due", "k"]) F sc_law_same fun cdv A' outer s H E hr => ⟨_, (pss_cons (ps_if (pt_cmpR op_isNA (pv 1) pe_non (nomark _)) (pss_one (ps_ret (pe_cmpR op_isNA (pv 0) pe_non (nomark _)))) pss_nil) (pss_cons (ps_if (pt_cmpR op_isCA (pv 1) pe_bl (nomark _)) (pss_one (ps_ret (pe_cmpR op_isCA (pv 0) pe_bl (nomark _)))) pss_nil) (pss_cons (ps_if (pt_cmpR op_isCA (pv 1) pe_bl (nomark _)) (pss_one (ps_ret (pe_cmpR op_isCA (pv 0) pe_bl (nomark _)))) pss_nil) (pss_cons (ps_if (pt_val (pe_callB (call_isiK' G.K rfl) (by rfl) T.b_isinstance (by decide +kernel) (pa_cons (pv 1) (pa_cons (pe_bltn (v := .ty "int") rfl T.b_int (by decide +kernel) rfl) pa_nil)))) (pss_one (ps_ret (pe_and (pe_callB (call_isiK' G.K rfl) (by rfl) T.b_isinstance (by decide +kernel) (pa_cons (pv 0) (pa_cons (pe_bltn (v := .ty "int") rfl T.b_int (by decide +kernel) rfl) pa_nil))) (pe_and (pe_not (pe_callB (call_isiK' G.K rfl) (by rfl) T.b_isinstance (by decide +kernel) (pa_cons (pv 0) (pa_cons (pe_bltn (v := .ty "bool") rfl T.b_bool (by decide +kernel) rfl) pa_nil)))) (pe_one (pe_cmpR (op_eqK G.K rfl hr.units) (pv 0) (pv 1) (nomark _))))))) pss_nil) (pss_cons (ps_if (pt_val (pe_callB (call_isiK' G.K rfl) (by rfl) T.b_isinstance (by decide +kernel) (pa_cons (pv 1) (pa_cons (pe_bltn (v := .ty "str") rfl T.b_str (by decide +kernel) rfl) pa_nil)))) (pss_one (ps_ret (pe_and (pe_callB (call_isiK' G.K rfl) (by rfl) T.b_isinstance (by decide +kernel) (pa_cons (pv 0) (pa_cons (pe_bltn (v := .ty "str") rfl T.b_str (by decide +kernel) rfl) pa_nil))) (pe_one (pe_cmpR (op_eqK G.K rfl hr.units) (pv 0) (pv 1) (nomark _)))))) pss_nil) (pss_cons (ps_if (PW.pt (pw_and (pt_val (pe_callB (call_isiK' G.K rfl) (by rfl) T.b_isinstance (by decide +kernel) (pa_cons (pv 1) (pa_cons (pe_bltn (v := .ty "list") rfl T.b_list (by decide +kernel) rfl) pa_nil)))) (pw_and1 (pt_not (pt_val (pe_callB (call_isiK' G.K rfl) (by rfl) T.b_isinstance (by decide +kernel) (pa_cons (pv 0) (pa_cons (pe_bltn (v := .ty "list") rfl T.b_list (by decide +kernel) rfl) pa_nil)))))))) (pss_one (ps_ret pe_bl)) pss_nil) (pss_cons (ps_if (PW.pt (pw_and (pt_val (pe_callB (call_isiK' G.K rfl) (by rfl) T.b_isinstance (by decide +kernel) (pa_cons (pv 1) (pa_cons (pe_bltn (v := .ty "tuple") rfl T.b_tuple (by decide +kernel) rfl) pa_nil)))) (pw_and1 (pt_not (pt_val (pe_callB (call_isiK' G.K rfl) (by rfl) T.b_isinstance (by decide +kernel) (pa_cons (pv 0) (pa_cons (pe_bltn (v := .ty "tuple") rfl T.b_tuple (by decide +kernel) rfl) pa_nil)))))))) (pss_one (ps_ret pe_bl)) pss_nil) (pss_cons (ps_if (pt_cmpR (op_neK G.K rfl hr.units) (pe_callB (call_lenK G.K rfl) (by rfl) T.b_len PySem.boot_len (pa_cons (pv 0) pa_nil)) (pe_callB (call_lenK G.K rfl) (by rfl) T.b_len PySem.boot_len (pa_cons (pv 1) pa_nil)) (nomark _)) (pss_one (ps_ret pe_bl)) pss_nil) (pss_cons (ps_for PassesOwn.never rfl (pi_range1 (by rfl) T.b_range (pa_cons (pe_callB (call_lenK G.K rfl) (by rfl) T.b_len PySem.boot_len (pa_cons (pv 1) pa_nil)) pa_nil)) (pg_name (i := 2) sc_law_same.nd rfl (by first | exact Or.inl rfl | exact Or.inr rfl)) (pss_one (ps_if (pt_not (pt_val (pe_cal C__law_same hr (by first | decide | exact Nat.le_refl _) pass0 (pa_cons (pe_ix (ix_seqK G.K rfl) (pv 0) (pv 2) (fun _ _ => rfl)) (pa_cons (pe_ix (ix_seqK G.K rfl) (pv 1) (pv 2) (fun _ _ => rfl)) pa_nil))))) (pss_one (ps_ret pe_bl)) pss_nil))) (pss_one (ps_ret pe_bl))))))))))), ?_⟩
  rintro Ex es o ⟨d, hd, rfl, rfl⟩
  show S G _ _ [some (fr G d), some (fr G d), none] _
  have isN : ∀ b, isNonD d = b → ET G (tTest (tOp rIsN' (tVar 1) (tC .non))) [some (fr G d), some (fr G d), none] b [some (fr G d), some (fr G d), none] := fun b h => (et_test (ef_op (ef_var rfl) ef_non a_isN)).to h
  have isB : ∀ c b, isBlD c d = b → ET G (tTest (tOp rIsC (tVar 1) (tC (.bl c)))) [some (fr G d), some (fr G d), none] b [some (fr G d), some (fr G d), none] := fun c b h => (et_test (ef_op (ef_var rfl) ef_bl a_isC)).to h
  have isT : ∀ {i : Nat} {t : Value} {n : String} {b : Bool}, (i = 0 ∨ i = 1) → TyD G.K d t → PySem.W.kitOne G.K t (.type n) = some b → EF G (tCB (rIsi G.K) (tCons (tVar i) (tCons (tC (.ty n)) tNil))) [some (fr G d), some (fr G d), none] (.bl b) [some (fr G d), some (fr G d), none] := fun hi h e => by
    rcases hi with rfl | rfl
    · exact ef_cb (ea_cons (ef_var rfl) (ea_cons ef_ty ea_nil)) (a_isi h e)
    · exact ef_cb (ea_cons (ef_var rfl) (ea_cons ef_ty ea_nil)) (a_isi h e)
  cases d with
  | non => exact q_when (isN true rfl) (fun _ => s_ret (ef_op (ef_var rfl) ef_non a_isN) ⟨rfl, back_frs⟩) fun z => by cases z
  | bl c =>
    refine q_when (isN false rfl) (fun z => by cases z) fun _ => ?_
    cases c with
    | true => exact q_when (isB true true rfl) (fun _ => s_ret (ef_op (ef_var rfl) ef_bl a_isC) ⟨rfl, back_frs⟩) fun z => by cases z
    | false =>
      refine q_when (isB true false rfl) (fun z => by cases z) fun _ => ?_
      exact q_when (isB false true rfl) (fun _ => s_ret (ef_op (ef_var rfl) ef_bl a_isC) ⟨rfl, back_frs⟩) fun z => by cases z
  | int i =>
    refine q_when (isN false rfl) (fun z => by cases z) fun _ => q_when (isB true false rfl) (fun z => by cases z) fun _ => q_when (isB false false rfl) (fun z => by cases z) fun _ => ?_
    refine q_when (et_B (isT (.inr rfl) (.int i) Y.ii)) (fun _ => ?_) fun z => by cases z
    exact s_ret (ef_andV (b := true) (isT (.inl rfl) (.int i) Y.ii) fun _ => ef_andV (b := true) (ef_notV (isT (.inl rfl) (.int i) Y.ib)) fun _ => ef_op (ef_var rfl) (ef_var rfl) a_eqI) ⟨by simp, back_frs⟩
  | str i =>
    refine q_when (isN false rfl) (fun z => by cases z) fun _ => q_when (isB true false rfl) (fun z => by cases z) fun _ => q_when (isB false false rfl) (fun z => by cases z) fun _ => ?_
    refine q_when (et_B (isT (.inr rfl) (.str i) Y.si)) (fun z => by cases z) fun _ => ?_
    refine q_when (et_B (isT (.inr rfl) (.str i) Y.ss)) (fun _ => ?_) fun z => by cases z
    exact s_ret (ef_andV (b := true) (isT (.inl rfl) (.str i) Y.ss) fun _ => ef_op (ef_var rfl) (ef_var rfl) a_eqS) ⟨by simp, back_frs⟩
  | lst ds =>
    obtain ⟨hz, hs⟩ := hd
    refine q_when (isN false rfl) (fun z => by cases z) fun _ => q_when (isB true false rfl) (fun z => by cases z) fun _ => q_when (isB false false rfl) (fun z => by cases z) fun _ => ?_
    refine q_when (et_B (isT (.inr rfl) (.lst ds) Y.li)) (fun z => by cases z) fun _ => ?_
    refine q_when (et_B (isT (.inr rfl) (.lst ds) Y.ls)) (fun z => by cases z) fun _ => ?_
    refine q_when (et_and (et_B (isT (.inr rfl) (.lst ds) Y.ll)) fun _ => et_not (et_B (isT (.inl rfl) (.lst ds) Y.ll))) (fun z => by cases z) fun _ => ?_
    refine q_when (et_and (b' := true) (et_B (isT (.inr rfl) (.lst ds) Y.lt)) fun z => by cases z) (fun z => by cases z) fun _ => ?_
    refine q_when (et_test (ef_op (ef_cb (ea_cons (ef_var rfl) ea_nil) a_lenL) (ef_cb (ea_cons (ef_var rfl) ea_nil) a_lenL) a_neI)) (fun z => by simp at z) fun _ => ?_
    refine s_seq (s_forR (n := (ds.length : Int)) (ea_cons (ef_cb (ea_cons (ef_var rfl) ea_nil) a_lenL) ea_nil) (by omega) (by omega) (fun i e => ∃ x, e = [some (fr G (.lst ds)), some (fr G (.lst ds)), x]) ⟨none, rfl⟩ ?_ ?_)
    · rintro i e hi ⟨x, rfl⟩
      have hi2 : i < ds.length := by omega
      have hx : ds[i]? = some ds[i] := List.getElem?_eq_getElem hi2
      refine ⟨_, ag_name, ?_⟩
      show S G _ _ [some (fr G (.lst ds)), some (fr G (.lst ds)), some (fr G (.int (i : Int)))] _
      exact s_if (et_not (et_B (ef_call (ea_cons (ef_op (ef_var rfl) (ef_var rfl) (a_ixLn hx)) (ea_cons (ef_op (ef_var rfl) (ef_var rfl) (a_ixLn hx)) ea_nil)) (use_same (hs _ (List.getElem_mem hi2)))))) (fun z => by cases z) fun _ => s_next ⟨some (fr G (.int (i : Int))), rfl⟩
    · rintro e ⟨x, rfl⟩
      exact s_ret ef_bl ⟨rfl, back_frs⟩
  | tup ds =>
    obtain ⟨hz, hs⟩ := hd
    refine q_when (isN false rfl) (fun z => by cases z) fun _ => q_when (isB true false rfl) (fun z => by cases z) fun _ => q_when (isB false false rfl) (fun z => by cases z) fun _ => ?_
    refine q_when (et_B (isT (.inr rfl) (.tup ds) Y.ti)) (fun z => by cases z) fun _ => ?_
    refine q_when (et_B (isT (.inr rfl) (.tup ds) Y.ts)) (fun z => by cases z) fun _ => ?_
    refine q_when (et_and (b' := true) (et_B (isT (.inr rfl) (.tup ds) Y.tl)) fun z => by cases z) (fun z => by cases z) fun _ => ?_
    refine q_when (et_and (et_B (isT (.inr rfl) (.tup ds) Y.tt)) fun _ => et_not (et_B (isT (.inl rfl) (.tup ds) Y.tt))) (fun z => by cases z) fun _ => ?_
    refine q_when (et_test (ef_op (ef_cb (ea_cons (ef_var rfl) ea_nil) a_lenT) (ef_cb (ea_cons (ef_var rfl) ea_nil) a_lenT) a_neI)) (fun z => by simp at z) fun _ => ?_
    refine s_seq (s_forR (n := (ds.length : Int)) (ea_cons (ef_cb (ea_cons (ef_var rfl) ea_nil) a_lenT) ea_nil) (by omega) (by omega) (fun i e => ∃ x, e = [some (fr G (.tup ds)), some (fr G (.tup ds)), x]) ⟨none, rfl⟩ ?_ ?_)
    · rintro i e hi ⟨x, rfl⟩
      have hi2 : i < ds.length := by omega
      have hx : ds[i]? = some ds[i] := List.getElem?_eq_getElem hi2
      refine ⟨_, ag_name, ?_⟩
      show S G _ _ [some (fr G (.tup ds)), some (fr G (.tup ds)), some (fr G (.int (i : Int)))] _
      exact s_if (et_not (et_B (ef_call (ea_cons (ef_op (ef_var rfl) (ef_var rfl) (a_ixTn hx)) (ea_cons (ef_op (ef_var rfl) (ef_var rfl) (a_ixTn hx)) ea_nil)) (use_same (hs _ (List.getElem_mem hi2)))))) (fun z => by cases z) fun _ => s_next ⟨some (fr G (.int (i : Int))), rfl⟩
    · rintro e ⟨x, rfl⟩
      exact s_ret ef_bl ⟨rfl, back_frs⟩
  | ins _ _ _ => exact hd.elim
  | raw _ => exact hd.elim
  | rol _ => exact hd.elim
  | ty _ => exact hd.elim
  | err _ _ _ _ => exact hd.elim
end
end K

namespace DL
open PySem L2 PySem.Spec PyProof.Rows
/-- a class with its own len at its def; with its own == -/
structure CalL (P : Program) (w : World) (K : PySem.W.Frag) (mg : Str → Option Value) (base : Heap) (k : Nat) (C : Addr) (sp : Sp) : Prop where
  ex : ∃ f fd, PySem.W.findIn K (.ref C) "__len__" = some (some (.ref f)) ∧ PySem.W.isFn K (.ref f) = true ∧ Binds K fd ["self"] [] ∧ FnOk P w K mg base CX0 k f fd ["self"] sp
structure CalE (P : Program) (w : World) (K : PySem.W.Frag) (mg : Str → Option Value) (base : Heap) (k : Nat) (C : Addr) (sp : Sp) : Prop where
  ex : ∃ f fd, OwnEq K C f ∧ Binds K fd ["self", "other"] [] ∧ FnOk P w K mg base CX0 k f fd ["self", "other"] sp
section
variable {X : Cx} {k j : Nat} {C : Addr} {sp : Sp} {E : XK}
theorem call_lenC (c : CalL X.prog X.w X.K X.mg X.base k C sp) (hx : Passes CX0 X E) (hr : Room (j + 1) X.A) (hk : k ≤ j) : CallR X (.builtin "len") (rOLen C sp E) := by
  obtain ⟨f, fd, h1, h2, h3, h4⟩ := c.ex
  exact call_lenO h1 h2 h4 h3 hx hr hk
theorem op_eqC (c : CalE X.prog X.w X.K X.mg X.base k C sp) (hx : Passes CX0 X E) (hr : Room j X.A) (hk : k ≤ j) : OpR X (compareOp .Eq) (rOEq X.K C sp E false) := by
  obtain ⟨f, fd, h1, h3, h4⟩ := c.ex
  exact op_eqO h1 h4 h3 hx hr hk
theorem op_neC (c : CalE X.prog X.w X.K X.mg X.base k C sp) (hx : Passes CX0 X E) (hr : Room (j + 1) X.A) (hk : k ≤ j) : OpR X (compareOp .NotEq) (rOEq X.K C sp E true) := by
  obtain ⟨f, fd, h1, h3, h4⟩ := c.ex
  exact op_neO h1 h4 h3 hx hr hk
end
end DL
namespace K
open PySem L2 PySem.Spec PyProof.Rows DL
local macro_rules | `(tactic| walk_at "sd") => `(tactic| first | assumption | omega | decide | (simp only [DL.dI_len, DL.lowI_len, DL.upto_len, List.length_map] at *; omega))
local macro_rules | `(tactic| walk_at "r2") => `(tactic| first | exact DL.a_addI | exact DL.a_sub | exact DL.a_lt | exact DL.a_le | exact DL.a_gt | exact DL.a_ge | exact DL.a_eqI | exact DL.a_neI | exact DL.a_eqS | exact DL.a_neS | exact DL.a_isN | exact DL.a_notN | exact DL.a_isC | exact DL.a_mod (by walk_at "sd") | exact DL.a_ixI (by walk_at "sd") (by walk_at "sd") | exact DL.a_ixJ (by walk_at "sd") (by walk_at "sd"))
local macro_rules | `(tactic| walk_at "rc") => `(tactic| first | exact DL.a_lenI | exact DL.a_lenL | exact DL.a_lenT | exact DL.a_int | exact DL.a_tupL)
local macro_rules | `(tactic| walk_at "ev") => `(tactic| first | exact DL.ef_int | exact DL.ef_bl | exact DL.ef_str | exact DL.ef_non | exact DL.ef_ty | exact DL.ef_raw | exact DL.ef_var rfl | exact DL.ea_nil | exact DL.et_yes | (refine' DL.ea_cons ?a ?b; (case a => walk_at "ev"); (case b => walk_at "ev")) | (refine' DL.et_test ?a; (case a => walk_at "ev")) | (refine' DL.et_B ?a; (case a => walk_at "ev")) | (refine' DL.et_not ?a; (case a => walk_at "ev")) | (refine' DL.et_or ?a fun _ => ?b; (case a => walk_at "ev"); (case b => walk_at "ev")) | (refine' DL.et_and ?a fun _ => ?b; (case a => walk_at "ev"); (case b => walk_at "ev")) | (refine' DL.ef_op ?a ?b ?c; (case a => walk_at "ev"); (case b => walk_at "ev"); (case c => walk_at "r2")) | (refine' DL.ef_cb ?a ?b; (case a => walk_at "ev"); (case b => walk_at "rc")) | (refine' DL.ef_cbT ?a ?b; (case a => walk_at "ev"); (case b => walk_at "rc")) | (refine' DL.ef_un ?a; (case a => walk_at "ev")) | (refine' DL.ef_fld 0 ?a ?f ?d ?c ?n; (case a => walk_at "ev"); (case f => decide +kernel); (case d => rfl); (case c => assumption); (case n => assumption)) | (refine' DL.ef_fld 1 ?a ?f ?d ?c ?n; (case a => walk_at "ev"); (case f => decide +kernel); (case d => rfl); (case c => assumption); (case n => assumption)))
section
variable {P : Program} {w : World} {G : Ct} {mg : Str → Option Value} {base : Heap} {A : Ad}
theorem flt_len (n : Nat) (p : Nat → Bool) : (flt n p).length ≤ n := by
  unfold flt
  rw [List.length_map]
  have h := List.length_filter_le p (List.range n)
  rwa [List.length_range] at h
theorem cellsD_len (m : List Int) : (cellsD m).length ≤ m.length := by unfold cellsD rootsI; rw [List.length_map]; exact flt_len _ _
abbrev st_law_shown : Stmt := top 25
theorem sc_law_shown : FnScope ["split", "many", "mine", "case", "rows", "other"] ["split", "many"] (defScope st_law_shown) := ⟨rfl, rfl, rfl, by decide +kernel, rfl, by decide +kernel, by decide +kernel⟩

def fn_shown (G : Ct) (A : Ad) : Es → Out → Prop := fun es o => ∃ m : List Int, m.length ≤ 1000 ∧ es = frs G [spD A m, .int m.length] ∧ o = .ret (lst G (dueL m)) es
theorem use_shown {m : List Int} (h : m.length ≤ 1000) : fn_shown G A (frs G [spD A m, .int m.length]) (.ret (lst G (dueL m)) (frs G [spD A m, .int m.length])) := ⟨m, h, rfl, rfl⟩
theorem ok_shown {f fd} (F : Fun G.K "_law_shown" "_law_shown" st_law_shown f fd) (T : Txt G mg A) (C_Split_cell : CalM P w G.K mg base (L2.CX P w) 4 A.Split "cell" ["self", "case"] (spOf G (fn_cell G A) 2)) (C_Split_together : CalM P w G.K mg base (L2.CX P w) 4 A.Split "together" ["self", "first", "second"] (spOf G (fn_tog G A) 3))
    (C_Split_marks : CalM P w G.K mg base CX0 1 A.Split "marks" ["self"] (spOf G (fn_marks G A) 1)) (C_Split_cells : CalM P w G.K mg base CX0 5 A.Split "cells" ["self"] (spOf G (fn_cells G A) 1)) (C_Split___len : CalL P w G.K mg base 6 A.Split (spOf G (fn_len G A) 1)) :
    FnOk P w G.K mg base CX0 8 f fd ["split", "many"] (spOf G (fn_shown G A) 2) := by
  refine ok_of (N := ["split", "many", "mine", "case", "rows", "other"]) F sc_law_shown fun cdv A' outer s H E hr => ⟨_, (pss_cons (ps_setLc (i := 2) (own := [("case", 3)]) (g := gName 3) (tt := tYes) rfl sc_law_shown.nd rfl rfl (sw_true rfl rfl rfl (by decide +kernel)) (pi_range1 (by rfl) T.b_range (pa_cons (pv 1) pa_nil)) (blkOk_by (by first | decide +kernel | kernel_rfl)) (fun _ _ _ _ _ => pg_name (i := 3) sc_law_shown.nd rfl (by first | exact Or.inl rfl | exact Or.inr rfl)) (fun _ _ _ _ _ => pts_nil) (fun _ _ _ _ _ => (pe_calM C_Split_cell hr (by first | decide | exact Nat.le_refl _) L2.passL (pv 0) (pa_cons (pv 3) pa_nil)))) (pss_cons (ps_setLc (i := 4) (own := [("case", 3)]) (g := gName 3) (tt := tYes) rfl sc_law_shown.nd rfl rfl (sw_true rfl rfl rfl (by decide +kernel)) (pi_range1 (by rfl) T.b_range (pa_cons (pv 1) pa_nil)) (blkOk_by (by first | decide +kernel | kernel_rfl)) (fun _ _ _ _ _ => pg_name (i := 3) sc_law_shown.nd rfl (by first | exact Or.inl rfl | exact Or.inr rfl)) (fun _ _ _ _ _ => pts_nil) (fun _ _ _ _ _ => (pe_lc (own := [("other", 5)]) (g := gName 5) (tt := tYes) rfl sc_law_shown.nd (pi_range1 (by rfl) T.b_range (pa_cons (pv 1) pa_nil)) (blkOk_by (by first | decide +kernel | kernel_rfl)) (fun _ _ _ _ _ => pg_name (i := 5) sc_law_shown.nd rfl (by first | exact Or.inl rfl | exact Or.inr rfl)) (fun _ _ _ _ _ => pts_nil) (fun _ _ _ _ _ => (pe_calM C_Split_together hr (by first | decide | exact Nat.le_refl _) L2.passL (pv 0) (pa_cons (pv 3) (pa_cons (pv 5) pa_nil))))))) (pss_one (ps_ret (pe_lst (pa_cons (pe_fldK G.K rfl (pv 0) rfl) (pa_cons (pe_callB (call_lenC C_Split___len pass0 hr (by decide)) (by rfl) T.b_len PySem.boot_len (pa_cons (pv 0) pa_nil)) (pa_cons (pe_calM0 C_Split_marks hr (by first | decide | exact Nat.le_refl _) pass0 (pv 0)) (pa_cons (pe_calM0 C_Split_cells hr (by first | decide | exact Nat.le_refl _) pass0 (pv 0)) (pa_cons (pv 2) (pa_cons (pv 4) pa_nil))))))))))), ?_⟩
  have cl := T.cl
  have na0 := T.na0
  rintro Ex es o ⟨m, hz, rfl, rfl⟩
  show S G _ _ [some (fr G (spD A m)), some (fr G (.int m.length)), none, none, none, none] _
  have h1 := lc_Rm (G := G) (j := 3) (n := m.length) (tas := tCons (tVar 1) tNil) (te := tMeth A.Split "cell" (spOf G (fn_cell G A) 2) [] (fun _ _ _ => False) (tVar 0) (tCons (tVar 3) tNil)) (es := [some (fr G (spD A m)), some (fr G (.int m.length)), none, none, none, none])
    (fun c => .lst (dI (cellI m c))) (by walk_at "ev") (by omega) rfl fun i hi => ef_lst (eo_meth (ef_var rfl) (by decide +kernel) (ea_cons (ef_var rfl) ea_nil) (use_cell hz ⟨Int.natCast_nonneg i, by omega⟩))
  refine q_asg (ef_lst h1) ?_
  show S G _ _ [some (fr G (spD A m)), some (fr G (.int m.length)), some (fr G (.lst (mineD m))), none, none, none] _
  have h2 := lc_Rm (G := G) (j := 3) (n := m.length) (tas := tCons (tVar 1) tNil) (te := tLc (iRng1 (tCons (tVar 1) tNil)) (gName 5) tYes (tMeth A.Split "together" (spOf G (fn_tog G A) 3) [] (fun _ _ _ => False) (tVar 0) (tCons (tVar 3) (tCons (tVar 5) tNil))) [5]) (es := [some (fr G (spD A m)), some (fr G (.int m.length)), some (fr G (.lst (mineD m))), none, none, none])
    (fun c => .lst ((List.range m.length).map fun o : Nat => .bl (decide (gi m c = gi m o)))) (by walk_at "ev") (by omega) rfl fun c hc => ef_lst (lc_Rm (G := G) (j := 5) (n := m.length) (fun o => .bl (decide (gi m c = gi m o))) (by walk_at "ev") (by omega) rfl fun o ho =>
      ef_meth (ef_var rfl) (by decide +kernel) (ea_cons (ef_var rfl) (ea_cons (ef_var rfl) ea_nil)) (use_tog hz ⟨Int.natCast_nonneg c, by omega⟩ ⟨Int.natCast_nonneg o, by omega⟩))
  refine q_asg (ef_lst h2) ?_
  have hl : 0 ≤ ((cellsD m).length : Int) ∧ ((cellsD m).length : Int) < 2 ^ 62 := by have := cellsD_len m; omega
  refine s_retO (eo_lst (ea_cons (ef_size cl na0 (ef_var rfl)) (ea_cons (ef_olen (m := ((cellsD m).length : Int)) (ea_cons (ef_var rfl) ea_nil) ⟨m, hz, rfl, rfl⟩ hl) (ea_cons (ef_lst (eo_meth (ef_var rfl) (by decide +kernel) ea_nil use_marks)) (ea_cons (ef_lst (eo_flat (eo_meth (ef_var rfl) (by decide +kernel) ea_nil (use_cells hz)))) (ea_cons (ef_var rfl) (ea_cons (ef_var rfl) ea_nil))))))) ⟨?_, back_frs⟩
  rw [cellsL_D]
  rfl
abbrev st_law_spoil : Stmt := top 26
theorem sc_law_spoil : FnScope ["split", "place", "row", "cell"] ["split", "place"] (defScope st_law_spoil) := ⟨rfl, rfl, rfl, by decide +kernel, rfl, by decide +kernel, by decide +kernel⟩

def fn_spoil (G : Ct) (A : Ad) : Es → Out → Prop := fun es o => ∃ (m : List Int) (k : Nat), m.length ≤ 1000 ∧ k < m.length ∧ m.getD 0 0 = 0 ∧ es = frs G [spD A m, .int (k : Int)] ∧ o = .ret (fr G .non) es
theorem cellsL_ne {m : List Int} (h : 0 < m.length) (h0 : m.getD 0 0 = 0) : ∃ ds r, cellsL m = ds :: r ∧ ds.length ≤ m.length := by
  cases hc : cellsL m with
  | nil =>
    have hm : dI (cellI m ((0 : Nat) : Int)) ∈ cellsL m := by
      unfold cellsL gotL
      exact List.mem_map.mpr ⟨0, List.mem_filter.mpr ⟨List.mem_range.mpr h, by simpa using h0⟩, rfl⟩
    rw [hc] at hm
    cases hm
  | cons ds r =>
    refine ⟨ds, r, rfl, ?_⟩
    have hm : ds ∈ cellsL m := by rw [hc]; exact List.mem_cons_self
    unfold cellsL gotL at hm
    obtain ⟨c, _, rfl⟩ := List.mem_map.mp hm
    rw [dI_len]
    exact flt_len _ _
theorem ok_spoil {f fd} (F : Fun G.K "_law_spoil" "_law_spoil" st_law_spoil f fd) (T : Txt G mg A) (C_Split_cell : CalM P w G.K mg base (L2.CX P w) 4 A.Split "cell" ["self", "case"] (spOf G (fn_cell G A) 2)) (C_Split_marks : CalM P w G.K mg base CX0 1 A.Split "marks" ["self"] (spOf G (fn_marks G A) 1))
    (C_Split_cells : CalM P w G.K mg base CX0 5 A.Split "cells" ["self"] (spOf G (fn_cells G A) 1)) : FnOk P w G.K mg base CX0 6 f fd ["split", "place"] (spOf G (fn_spoil G A) 2) := by
  refine ok_of (N := ["split", "place", "row", "cell"]) F sc_law_spoil fun cdv A' outer s H E hr => ⟨_, (pss_cons (ps_set (i := 2) sc_law_spoil.nd rfl (by first | exact Or.inl rfl | exact Or.inr rfl) (pe_calM0 C_Split_marks hr (by first | decide | exact Nat.le_refl _) pass0 (pv 0))) (pss_cons (ps_asg (pe_un un_negA pe_int) (pg_sub (pv 2) (pv 1) set_list)) (pss_cons (ps_expr (pe_bmK G.K rfl PySem.F.plainAttrs_list PySem.F.slot_list_append PySem.F.type_list_append mt_append (pv 2) (pa_cons pe_int pa_nil))) (pss_cons (ps_set (i := 2) sc_law_spoil.nd rfl (by first | exact Or.inl rfl | exact Or.inr rfl) (pe_calM0 C_Split_cells hr (by first | decide | exact Nat.le_refl _) pass0 (pv 0))) (pss_cons (ps_set (i := 3) sc_law_spoil.nd rfl (by first | exact Or.inl rfl | exact Or.inr rfl) (pe_ix (ix_seqK G.K rfl) (pv 2) pe_int (fun _ _ => rfl))) (pss_cons (ps_expr (pe_bmK G.K rfl PySem.F.plainAttrs_list PySem.F.slot_list_append PySem.F.type_list_append mt_append (pv 3) (pa_cons pe_int pa_nil))) (pss_cons (ps_expr (pe_bm0K G.K rfl PySem.F.plainAttrs_list PySem.F.slot_list_reverse PySem.F.type_list_reverse mt_reverse (pv 2))) (pss_cons (ps_expr (pe_bm0K G.K rfl PySem.F.plainAttrs_list PySem.F.slot_list_pop PySem.F.type_list_pop mt_pop (pv 2))) (pss_cons (ps_set (i := 3) sc_law_spoil.nd rfl (by first | exact Or.inl rfl | exact Or.inr rfl) (pe_calM C_Split_cell hr (by first | decide | exact Nat.le_refl _) L2.passL (pv 0) (pa_cons (pv 1) pa_nil))) (pss_one (ps_expr (pe_bm0K G.K rfl PySem.F.plainAttrs_list PySem.F.slot_list_clear PySem.F.type_list_clear mt_clear (pv 3))))))))))))), ?_⟩
  rintro Ex es o ⟨m, k, hz, hk, h0, rfl, rfl⟩
  obtain ⟨ds, r, hc, hd⟩ := cellsL_ne (by omega) h0
  show S G _ _ [some (fr G (spD A m)), some (fr G (.int (k : Int))), none, none] _
  refine q_asgO (eo_meth (ef_var rfl) (by decide +kernel) ea_nil use_marks) ?_
  show S G _ _ [some (fr G (spD A m)), some (fr G (.int (k : Int))), some (lst G (dI m)), none] _
  refine s_seq (s_setO (i := 2) (n := k) (d := .int (-5)) (ef_un ef_int) rfl (ef_var rfl) (by rw [dI_len]; exact hk) ?_)
  refine q_drop (ef_bmO (i := 2) (ea_cons ef_int ea_nil) rfl rfl (ml_append (by rw [List.length_set, dI_len]; omega))) ?_
  refine q_asgO (eo_meth (ef_var rfl) (by decide +kernel) ea_nil (use_cells hz)) ?_
  rw [hc]
  show S G _ _ [some (fr G (spD A m)), some (fr G (.int (k : Int))), some (nst G (ds :: r)), none] _
  refine q_head (i := 2) (j := 3) rfl (by decide) (by simp) fun b => ?_
  show S G _ _ [some (fr G (spD A m)), some (fr G (.int (k : Int))), some (lst G (.raw b :: r.map .lst)), some (lstA G b ds)] _
  refine q_drop (ef_bmA (i := 3) rfl (ea_cons ef_int ea_nil) rfl (ml_append (by omega))) ?_
  refine q_drop (ef_bmO0 (i := 2) rfl ml_reverse) ?_
  refine q_drop (ef_bmO0 (i := 2) (z := .raw b) rfl (ml_pop (by simp))) ?_
  refine q_asgO (eo_meth (ef_var rfl) (by decide +kernel) (ea_cons (ef_var rfl) ea_nil) (use_cell hz ⟨Int.natCast_nonneg k, by omega⟩)) ?_
  exact s_drop (ef_bmO0 (i := 3) rfl ml_clear) ⟨rfl, back_frs⟩
end
end K

namespace DL
open PySem L2 PySem.Spec PyProof.Rows
/-- the def _law_told -/
structure TellC (P : Program) (w : World) (K : PySem.W.Frag) (mg : Str → Option Value) (base : Heap) (G : Ct) (Told : LO → D → Prop) : Prop where
  ex : ∃ (g : Addr) (st : Stmt) (Ng : List Str) (oc : Value) (od : Option Addr) (kV doc pm : Value) (an : Option Addr) (cdv ct : Value) (osl : Array (Option Value)), mg "_law_told" = some (.ref g) ∧ PySem.W.keepIn K (.ref g) = true ∧
    K.lookup g = some ⟨oc, od, .func (PySem.W.fnOf "_law_told" "_law_told" (defArgs st) (defBody st) (defScope st) .none kV doc pm an cdv ct), osl⟩ ∧ PySem.W.codeIn K cdv "_law_told" = true ∧
    L2.Binds K (PySem.W.fnOf "_law_told" "_law_told" (defArgs st) (defBody st) (defScope st) .none kV doc pm an cdv ct) ["action"] [] ∧ FnScope Ng ["action"] (defScope st) ∧ Ng[0]? = some ("action" : Str) ∧ Vis (defScope st) "action" ∧
    ∀ (X : Cx) (q : Str), X.prog = P → X.w = w → X.K = K → X.mg = mg → X.base = base → LamX.GivesTo X Ng "_law_told" (defScope st) g cdv (defBody st) "action" q (TTd G Told)
theorem pe_lam {X : Cx} {G : Ct} {Told : LO → D → Prop} {c Pt : Addr} {T : List (Addr × Str)} {params : Arguments} {body : Expr} {scope : Scope} {t : XK → TE} {k : Nat} {p lpos pos : Pos} (L : TellC X.prog X.w X.K X.mg X.base G Told) (TB : LamX.TabB X.base X.mg c Pt) (hcode : X.env.code = .ref c)
    {Qn : Str} (hmT : (Pt, Qn ++ "<lambda>") ∈ T) (hu : ∀ p ∈ T, p.1 = Pt → p.2 = Qn ++ "<lambda>") (hq : X.env.qual = Qn) (hr : Room (k + 2) X.A) (S : LamX.LamS X.env.scope scope)
    (hbody : ∀ (A : Around) (outer : List Env) (s : Shared) (H : Hp) (E : XK) (f c' : Addr), Room k (A.deeper (LamX.lamEnv X scope s.heap.objs.size f c')) → PE (LamX.lamCx X A outer s H E scope f c') body (t E)) (hdef : defaultsOf params X.env = ([], []) := by rfl)
    (hbind : ∀ (q : Str) (cl : List (Str × Addr)) (pm cv ctv : Value), bindArgs (PySem.W.kla_fn "<lambda>" q params body scope cl pm cv ctv) ⟨[], []⟩ = pure [] := by intros; rfl) (hg : Gl X "_law_told" := by rfl) :
    PE X (.Call (.Name "_law_told" p) [.Lambda params body scope lpos] [] pos) (LamX.tLam T (TTd G Told) t) := by
  obtain ⟨g, st, Ng, oc, od, kV, doc, pm, an, cdv, ct, osl, h1, h2, h3, h4, h5, h6, h7, h8, h9⟩ := L.ex
  subst hq
  exact LamX.pe_lamcall hg h1 h2 h3 h4 h5 h6 h7 h8 (h9 X _ rfl rfl rfl rfl rfl) TB hcode hmT hu hr S hdef hbind hbody
/-- a def whose code object stands at c -/
structure FunC (K : PySem.W.Frag) (x qual : Str) (st : Stmt) (f : Addr) (fd : FuncData) (c : Addr) : Prop where
  ex : ∃ (oc : Value) (od : Option Addr) (kV doc pm : Value) (an : Option Addr) (ct : Value) (osl : Array (Option Value)), fd = PySem.W.fnOf x qual (defArgs st) (defBody st) (defScope st) .none kV doc pm an (.ref c) ct ∧ K.lookup f = some ⟨oc, od, .func fd, osl⟩ ∧ PySem.W.codeIn K (.ref c) qual = true
section
variable {G : Ct} {P : Program} {w : World} {mg : Str → Option Value} {base : Heap}
theorem okC_of {x qual : Str} {st : Stmt} {f c : Addr} {fd : FuncData} {N ps : List Str} {k : Nat} {Fn : Es → Out → Prop} (F : FunC G.K x qual st f fd c) (Sc : FnScope N ps (defScope st))
    (hb : ∀ (A : Around) (outer : List Env) (s : Shared) (H : Hp) (E : XK), Room k (A.deeper (envOfC qual (defScope st) s.heap.objs.size f (.ref c))) →
      ∃ t, PSs (cxOf CX0 P w G.K mg base N qual (defScope st) f (.ref c) A outer s H E).nox (defBody st) t ∧ ∀ Ex es o, Fn es o → Bd G Ex t (N.length - ps.length) es o) : FnOk P w G.K mg base CX0 (k + 1) f fd ps (spOf G Fn ps.length) := by
  obtain ⟨oc, od, kV, doc, pm, an, ct, osl, rfl, lk, hcd⟩ := F.ex
  refine fn_of lk hcd Sc (fun vs H Q E h => sp_len h) fun A outer s H vs Q E hr h => ?_
  obtain ⟨t, ht, hbd⟩ := hb A outer s H E hr
  obtain ⟨W, F, es, o, hn, c, hf, k⟩ := h
  exact ⟨t, ht.nox, bd_run (ps := ps) hn c (hbd _ es o hf) k⟩
end
end DL
namespace K
open PySem L2 PySem.Spec PyProof.Rows DL
local macro_rules | `(tactic| walk_at "sd") => `(tactic| first | assumption | omega | decide | (simp only [DL.dI_len, DL.lowI_len, DL.upto_len, List.length_map] at *; omega))
local macro_rules | `(tactic| walk_at "r2") => `(tactic| first | exact DL.a_addI | exact DL.a_sub | exact DL.a_lt | exact DL.a_le | exact DL.a_gt | exact DL.a_ge | exact DL.a_eqI | exact DL.a_neI | exact DL.a_eqS | exact DL.a_neS | exact DL.a_isN | exact DL.a_notN | exact DL.a_isC | exact DL.a_mod (by walk_at "sd") | exact DL.a_ixI (by walk_at "sd") (by walk_at "sd") | exact DL.a_ixJ (by walk_at "sd") (by walk_at "sd"))
local macro_rules | `(tactic| walk_at "rc") => `(tactic| first | exact DL.a_lenI | exact DL.a_lenL | exact DL.a_lenT | exact DL.a_int | exact DL.a_tupL)
local macro_rules | `(tactic| walk_at "ev") => `(tactic| first | exact DL.ef_int | exact DL.ef_bl | exact DL.ef_str | exact DL.ef_non | exact DL.ef_ty | exact DL.ef_raw | exact DL.ef_var rfl | exact DL.ea_nil | exact DL.et_yes | (refine' DL.ea_cons ?a ?b; (case a => walk_at "ev"); (case b => walk_at "ev")) | (refine' DL.et_test ?a; (case a => walk_at "ev")) | (refine' DL.et_B ?a; (case a => walk_at "ev")) | (refine' DL.et_not ?a; (case a => walk_at "ev")) | (refine' DL.et_or ?a fun _ => ?b; (case a => walk_at "ev"); (case b => walk_at "ev")) | (refine' DL.et_and ?a fun _ => ?b; (case a => walk_at "ev"); (case b => walk_at "ev")) | (refine' DL.ef_op ?a ?b ?c; (case a => walk_at "ev"); (case b => walk_at "ev"); (case c => walk_at "r2")) | (refine' DL.ef_cb ?a ?b; (case a => walk_at "ev"); (case b => walk_at "rc")) | (refine' DL.ef_cbT ?a ?b; (case a => walk_at "ev"); (case b => walk_at "rc")) | (refine' DL.ef_un ?a; (case a => walk_at "ev")) | (refine' DL.ef_fld 0 ?a ?f ?d ?c ?n; (case a => walk_at "ev"); (case f => decide +kernel); (case d => rfl); (case c => assumption); (case n => assumption)) | (refine' DL.ef_fld 1 ?a ?f ?d ?c ?n; (case a => walk_at "ev"); (case f => decide +kernel); (case d => rfl); (case c => assumption); (case n => assumption)))
section
variable {P : Program} {w : World} {G : Ct} {mg : Str → Option Value} {base : Heap} {A : Ad}
/-! ### what is told of an action -/
inductive ToldK (A : Ad) : LO → D → Prop
  | ret : ToldK A .ret (.lst [.str "no error"])
  | size (n : Int) : ToldK A (.exc A.BadSize ["size"] [.int n]) (.lst [.str "BadSize", .int n, .lst [.bl true, .bl true, .bl false]])
  | case (n : Int) : ToldK A (.exc A.UnknownCase ["case"] [.int n]) (.lst [.str "UnknownCase", .int n, .lst [.bl true, .bl true, .bl false]])
structure TxE (G : Ct) (mg : Str → Option Value) (A : Ad) : Prop extends Txt G mg A where
  xis_BadSize : XIs G.K A.BadSize
  xis_UnknownCase : XIs G.K A.UnknownCase
  xf_BadSize : XfC G.K A.BadSize
  xf_UnknownCase : XfC G.K A.UnknownCase
  no_BadSize_size : PySem.W.findIn G.K (.ref A.BadSize) "size" = some none
  no_UnknownCase_case : PySem.W.findIn G.K (.ref A.UnknownCase) "case" = some none
  m1 : PySem.W.exmOne G.K (.ref A.BadSize) (.ref A.BadSize) = some true
  m2 : PySem.W.exmOne G.K (.ref A.UnknownCase) (.ref A.BadSize) = some false
  m3 : PySem.W.exmOne G.K (.ref A.UnknownCase) (.ref A.UnknownCase) = some true
  k1 : PySem.W.kitOne G.K (.ref A.BadSize) (.ref A.ThinwallError) = some true
  k2 : PySem.W.kitOne G.K (.ref A.BadSize) (.type "ValueError") = some true
  k3 : PySem.W.kitOne G.K (.ref A.BadSize) (.ref A.UnknownCase) = some false
  k4 : PySem.W.kitOne G.K (.ref A.UnknownCase) (.ref A.ThinwallError) = some true
  k5 : PySem.W.kitOne G.K (.ref A.UnknownCase) (.type "ValueError") = some true
  k6 : PySem.W.kitOne G.K (.ref A.UnknownCase) (.ref A.SizeMismatch) = some false
abbrev st_law_told : Stmt := top 27
theorem sc_law_told : FnScope ["action", "e", "kinds"] ["action"] (defScope st_law_told) := ⟨rfl, rfl, rfl, by decide +kernel, rfl, by decide +kernel, by decide +kernel⟩

theorem told_k {X : Cx} {g : Addr} {cdg : Value} {q : Str} (T : TxE G mg A) (hK : X.K = G.K) (hM : X.mg = mg) : LamX.GivesTo X ["action", "e", "kinds"] "_law_told" (defScope st_law_told) g cdg (defBody st_law_told) "action" q (TTd G (ToldK A)) := by
  obtain ⟨K0, T0⟩ := G
  have hK : X.K = K0 := hK
  subst hK hM
  intro f c' s H Q tl act hc h
  refine ⟨_, pss_cons (ps_tryC (X := (cxOf C8.CX0 X.prog X.w X.K X.mg X.base ["action", "e", "kinds"] "_law_told" (defScope st_law_told) g cdg X.A X.stack s H C8.E0).nox)
    (tb := fun W D σ H => ∃ Ech : XK, (∀ cls d σ' H', Ech cls d H' → (σ'.length = 3 → W cls d σ' H')) ∧ σ[0]? = some (some (.ref f)) ∧ H c' = some (LamX.CodeO c' q) ∧ tl Ech H fun _ H' => D.nx σ H')
    rfl rfl sc_law_told.nd LamX.takes0 (fun W pn xe tk _ => ⟨fun pins s' σ H' D I h' => ?_⟩) (ClOk.named (i := 1) rfl rfl ⟨rfl, by decide, .inl T.g_BadSize⟩ (fun _ _ _ _ _ hz hf => (pss_cons (ps_set (i := 2) sc_law_told.nd rfl (by first | exact Or.inl rfl | exact Or.inr rfl) (pe_lst (pa_cons (pe_callB (call_isX T.xis_BadSize hz hf) (by rfl) T.b_isinstance (by decide +kernel) (pa_cons (pv 1) (pa_cons (pe_glob (v := .ref A.ThinwallError) rfl T.g_ThinwallError rfl) pa_nil))) (pa_cons (pe_callB (call_isX T.xis_BadSize hz hf) (by rfl) T.b_isinstance (by decide +kernel) (pa_cons (pv 1) (pa_cons (pe_bltn (v := .ty "ValueError") rfl T.b_ValueError (by decide +kernel) rfl) pa_nil))) (pa_cons (pe_callB (call_isX T.xis_BadSize hz hf) (by rfl) T.b_isinstance (by decide +kernel) (pa_cons (pv 1) (pa_cons (pe_glob (v := .ref A.UnknownCase) rfl T.g_UnknownCase rfl) pa_nil))) pa_nil))))) (pss_one (ps_ret (pe_lst (pa_cons pe_str (pa_cons (pe_xf T.xf_BadSize T.no_BadSize_size hz hf (pv 1)) (pa_cons (pv 2) pa_nil)))))))) (ClOk.named (i := 1) rfl rfl ⟨rfl, by decide, .inl T.g_UnknownCase⟩ (fun _ _ _ _ _ hz hf => (pss_cons (ps_set (i := 2) sc_law_told.nd rfl (by first | exact Or.inl rfl | exact Or.inr rfl) (pe_lst (pa_cons (pe_callB (call_isX T.xis_UnknownCase hz hf) (by rfl) T.b_isinstance (by decide +kernel) (pa_cons (pv 1) (pa_cons (pe_glob (v := .ref A.ThinwallError) rfl T.g_ThinwallError rfl) pa_nil))) (pa_cons (pe_callB (call_isX T.xis_UnknownCase hz hf) (by rfl) T.b_isinstance (by decide +kernel) (pa_cons (pv 1) (pa_cons (pe_bltn (v := .ty "ValueError") rfl T.b_ValueError (by decide +kernel) rfl) pa_nil))) (pa_cons (pe_callB (call_isX T.xis_UnknownCase hz hf) (by rfl) T.b_isinstance (by decide +kernel) (pa_cons (pv 1) (pa_cons (pe_glob (v := .ref A.SizeMismatch) rfl T.g_SizeMismatch rfl) pa_nil))) pa_nil))))) (pss_one (ps_ret (pe_lst (pa_cons pe_str (pa_cons (pe_xf T.xf_UnknownCase T.no_UnknownCase_case hz hf (pv 1)) (pa_cons (pv 2) pa_nil)))))))) (ClOk.bare ⟨rfl, by decide, .inl T.g_ThinwallError⟩ (fun _ _ _ _ _ hz hf => (pss_one (ps_ret (pe_lst (pa_cons pe_str pa_nil))))) ClOk.nil)))) (pss_one (ps_ret (pe_lst (pa_cons pe_str pa_nil)))), ?_⟩
  · obtain ⟨Ech, hW, h1, h2, h3⟩ := h'
    exact (pss_one (ps_expr (act (fun cls d σ H => σ.length = 3 → W cls d σ H) pn xe Ech _ _ (takes_len tk) hW))).run pins s' σ H' D I ⟨h1, h2, h3⟩
  · refine told_run (G := ⟨X.K, T0⟩) h rfl hc (fun d W F H' ht c k => ?_) fun C ns ds d W F H' dd σ' vs ht hl c iv hd k => ?_
    · cases ht
      have gv : Gives ⟨X.K, T0⟩ (tRet (tLst (tCons (tC (.str "no error")) tNil))) [none, none, none] (.lst [.str "no error"]) := s_ret (ef_lst (eo_lst (ea_cons ef_str ea_nil))) rfl
      have c2 : Cfg ⟨X.K, T0⟩ W F H' (L2.start ["action", "e", "kinds"] [.ref f]) [none, none, none] := c.slots (fun i φ e => by
        match i, e with
        | 0, e => cases e
        | 1, e => cases e
        | 2, e => cases e
        | (n + 3), e => simp at e) rfl
      exact gv.run (D := { nx := fun _ H' => Q .non H', rt := Q }) c2 k
    · have c2 : ∀ a : Addr, Cfg ⟨X.K, T0⟩ W F H' (σ'.set 1 (some (.ref a))) [none, some (fr ⟨X.K, T0⟩ (.err a dd ns ds)), none] := fun a => c.slots (fun i φ e => by match i, e with
        | 0, e => cases e
        | 1, e =>
          cases e
          exact ⟨_, .ref a, rfl, List.getElem?_set_self (by omega), is_err.mpr ⟨rfl, vs, hd, iv⟩⟩
        | 2, e => cases e
        | (n + 3), e => simp at e) (by simp [hl])
      cases ht with
      | size n =>
        refine ⟨true, T.m1, fun _ a ha => ?_, fun z => by cases z⟩
        have gv : Gives ⟨X.K, T0⟩ _ [none, some (fr ⟨X.K, T0⟩ (.err a dd ["size"] [.int n])), none] (.lst [.str "BadSize", .int n, .lst [.bl true, .bl true, .bl false]]) :=
          q_asg (i := 2) (ef_lst (eo_lst (ea_cons (ef_cb (ea_cons (ef_var (i := 1) rfl) (ea_cons ef_raw ea_nil)) (a_isX T.k1)) (ea_cons (ef_cb (ea_cons (ef_var (i := 1) rfl) (ea_cons ef_ty ea_nil)) (a_isXt T.k2)) (ea_cons (ef_cb (ea_cons (ef_var (i := 1) rfl) (ea_cons ef_raw ea_nil)) (a_isX T.k3)) ea_nil)))))
            (s_ret (ef_lst (eo_lst (ea_cons ef_str (ea_cons (ef_xf (C := A.BadSize) (f := "size") 0 (ef_var (i := 1) rfl) (by decide +kernel) rfl) (ea_cons (ef_var (i := 2) rfl) ea_nil))))) rfl)
        exact gv.run (c2 a) k
      | case n =>
        refine ⟨false, T.m2, fun z => (by cases z), fun _ => ⟨true, T.m3, fun _ a ha => ?_, fun z => by cases z⟩⟩
        have gv : Gives ⟨X.K, T0⟩ _ [none, some (fr ⟨X.K, T0⟩ (.err a dd ["case"] [.int n])), none] (.lst [.str "UnknownCase", .int n, .lst [.bl true, .bl true, .bl false]]) :=
          q_asg (i := 2) (ef_lst (eo_lst (ea_cons (ef_cb (ea_cons (ef_var (i := 1) rfl) (ea_cons ef_raw ea_nil)) (a_isX T.k4)) (ea_cons (ef_cb (ea_cons (ef_var (i := 1) rfl) (ea_cons ef_ty ea_nil)) (a_isXt T.k5)) (ea_cons (ef_cb (ea_cons (ef_var (i := 1) rfl) (ea_cons ef_raw ea_nil)) (a_isX T.k6)) ea_nil)))))
            (s_ret (ef_lst (eo_lst (ea_cons ef_str (ea_cons (ef_xf (C := A.UnknownCase) (f := "case") 0 (ef_var (i := 1) rfl) (by decide +kernel) rfl) (ea_cons (ef_var (i := 2) rfl) ea_nil))))) rfl)
        exact gv.run (c2 a) k
end
end K

namespace K
open PySem L2 PySem.Spec PyProof.Rows DL
local macro_rules | `(tactic| walk_at "sd") => `(tactic| first | assumption | omega | decide | (simp only [DL.dI_len, DL.lowI_len, DL.upto_len, List.length_map] at *; omega))
local macro_rules | `(tactic| walk_at "r2") => `(tactic| first | exact DL.a_addI | exact DL.a_sub | exact DL.a_lt | exact DL.a_le | exact DL.a_gt | exact DL.a_ge | exact DL.a_eqI | exact DL.a_neI | exact DL.a_eqS | exact DL.a_neS | exact DL.a_isN | exact DL.a_notN | exact DL.a_isC | exact DL.a_mod (by walk_at "sd") | exact DL.a_ixI (by walk_at "sd") (by walk_at "sd") | exact DL.a_ixJ (by walk_at "sd") (by walk_at "sd"))
local macro_rules | `(tactic| walk_at "rc") => `(tactic| first | exact DL.a_lenI | exact DL.a_lenL | exact DL.a_lenT | exact DL.a_int | exact DL.a_tupL)
local macro_rules | `(tactic| walk_at "ev") => `(tactic| first | exact DL.ef_int | exact DL.ef_bl | exact DL.ef_str | exact DL.ef_non | exact DL.ef_ty | exact DL.ef_raw | exact DL.ef_var rfl | exact DL.ea_nil | exact DL.et_yes | (refine' DL.ea_cons ?a ?b; (case a => walk_at "ev"); (case b => walk_at "ev")) | (refine' DL.et_test ?a; (case a => walk_at "ev")) | (refine' DL.et_B ?a; (case a => walk_at "ev")) | (refine' DL.et_not ?a; (case a => walk_at "ev")) | (refine' DL.et_or ?a fun _ => ?b; (case a => walk_at "ev"); (case b => walk_at "ev")) | (refine' DL.et_and ?a fun _ => ?b; (case a => walk_at "ev"); (case b => walk_at "ev")) | (refine' DL.ef_op ?a ?b ?c; (case a => walk_at "ev"); (case b => walk_at "ev"); (case c => walk_at "r2")) | (refine' DL.ef_cb ?a ?b; (case a => walk_at "ev"); (case b => walk_at "rc")) | (refine' DL.ef_cbT ?a ?b; (case a => walk_at "ev"); (case b => walk_at "rc")) | (refine' DL.ef_un ?a; (case a => walk_at "ev")) | (refine' DL.ef_fld 0 ?a ?f ?d ?c ?n; (case a => walk_at "ev"); (case f => decide +kernel); (case d => rfl); (case c => assumption); (case n => assumption)) | (refine' DL.ef_fld 1 ?a ?f ?d ?c ?n; (case a => walk_at "ev"); (case f => decide +kernel); (case d => rfl); (case c => assumption); (case n => assumption)))
section
variable {P : Program} {w : World} {G : Ct} {mg : Str → Option Value} {base : Heap} {A : Ad}
theorem use_initX {l : List Int} (h : ¬ Few l) (hz : l.length ≤ 1000) (a : Addr) : fn_init G A (some (insO G A.Split a [] []) :: frs G [.lst (dI l)]) (.exc A.BadSize ["size"] [.int l.length] (none :: frs G [.lst (dI l)])) := ⟨a, l, hz, rfl, .inr ⟨h, rfl⟩⟩
theorem use_init {l : List Int} (h : Few l) (a : Addr) : fn_init G A (some (insO G A.Split a [] []) :: frs G [.lst (dI l)]) (.ret (fr G .non) (some (insO G A.Split a fsS [.int l.length, .tup (dI (lowI l))]) :: frs G [.lst (dI l)])) := ⟨a, l, by unfold Few at h; omega, rfl, .inl ⟨h, rfl⟩⟩
theorem spD_low (l : List Int) : (.ins A.Split fsS [.int l.length, .tup (dI (lowI l))] : D) = spD A (lowI l) := by unfold spD; rw [lowI_len]
/-! ### what is refused -/
def refB (b : Bag) (n : Int) : Bag := ((farF ((farF b n).2.nxt n) n).2).nxt 8
def errD (x : Str) (n : Int) : D := .lst [.str x, .int n, .lst [.bl true, .bl true, .bl false]]
def esR (G : Ct) (A : Ad) (p : Addr × Addr) (b : Bag) (m : List Int) (f n b2 : Int) (k : Nat) (xs : List D) : Es :=
  [some (bagA G p b), some (fr G (spD A m)), some (fr G (.int m.length)), some (fr G (.int f)), some (fr G (.int n)), some (fr G (.int b2)), some (fr G (.int (k : Int))), some (lst G xs), none, none]
abbrev st_law_refused : Stmt := top 28
theorem sc_law_refused : FnScope ["bag", "split", "many", "far", "near", "beyond", "long", "asked", "kinds", "due"] ["bag", "split", "many"] (defScope st_law_refused) := ⟨rfl, rfl, rfl, by decide +kernel, rfl, by decide +kernel, by decide +kernel⟩

def fn_refused (G : Ct) (A : Ad) : Es → Out → Prop := fun es o => ∃ (p : Addr × Addr) (b : Bag) (m : List Int), Few m ∧ es = some (bagA G p b) :: frs G [spD A m, .int m.length] ∧ o = .ret (fr G (.bl true)) (some (bagA G p (refB b m.length)) :: frs G [spD A m, .int m.length])
theorem ok_refused {f fd c Pt} {Tl : List (Addr × Str)} (F : FunC G.K "_law_refused" "_law_refused" st_law_refused f fd c) (T : TxE G mg A) (TB : LamX.TabB base mg c Pt) (hmT : (Pt, ("_law_refused" : Str) ++ (".<locals>." : Str) ++ ("<lambda>" : Str)) ∈ Tl) (hu : ∀ p ∈ Tl, p.1 = Pt → p.2 = ("_law_refused" : Str) ++ (".<locals>." : Str) ++ ("<lambda>" : Str)) (hT : G.T = TabMap Tl)
    (C__law_far : Cal P w G.K mg base CX0 2 "_law_far" ["bag", "many"] (spOf G (fn_far G) 2)) (C__law_take : Cal P w G.K mg base CX0 1 "_law_take" ["bag", "many"] (spOf G (fn_take G) 2)) (C__law_told : TellC P w G.K mg base G (ToldK A))
    (C_Split_cell : CalM P w G.K mg base (L2.CX P w) 4 A.Split "cell" ["self", "case"] (spOf G (fn_cell G A) 2)) (C_Split_together : CalM P w G.K mg base (L2.CX P w) 4 A.Split "together" ["self", "first", "second"] (spOf G (fn_tog G A) 3))
    (C_Split : CalC P w G.K mg base (L2.CX P w) 4 "Split" A.Split ["self", "marks"] (spOf G (fn_init G A) 2)) (C__law_same : Cal P w G.K mg base CX0 4 "_law_same" ["actual", "due"] (spOf G (fn_same G 4) 2)) :
    FnOk P w G.K mg base CX0 9 f fd ["bag", "split", "many"] (spOf G (fn_refused G A) 3) := by
  refine okC_of (N := ["bag", "split", "many", "far", "near", "beyond", "long", "asked", "kinds", "due"]) F sc_law_refused fun A' outer s H E hr => ⟨_, (pss_cons (ps_set (i := 3) sc_law_refused.nd rfl (by first | exact Or.inl rfl | exact Or.inr rfl) (pe_cal C__law_far hr (by first | decide | exact Nat.le_refl _) pass0 (pa_cons (pv 0) (pa_cons (pv 2) pa_nil)))) (pss_cons (ps_set (i := 4) sc_law_refused.nd rfl (by first | exact Or.inl rfl | exact Or.inr rfl) (pe_cal C__law_take hr (by first | decide | exact Nat.le_refl _) pass0 (pa_cons (pv 0) (pa_cons (pv 2) pa_nil)))) (pss_cons (ps_set (i := 5) sc_law_refused.nd rfl (by first | exact Or.inl rfl | exact Or.inr rfl) (pe_cal C__law_far hr (by first | decide | exact Nat.le_refl _) pass0 (pa_cons (pv 0) (pa_cons (pv 2) pa_nil)))) (pss_cons (ps_set (i := 6) sc_law_refused.nd rfl (by first | exact Or.inl rfl | exact Or.inr rfl) (pe_op op_addA pe_int (pe_cal C__law_take hr (by first | decide | exact Nat.le_refl _) pass0 (pa_cons (pv 0) (pa_cons pe_int pa_nil))))) (pss_cons (ps_set (i := 7) sc_law_refused.nd rfl (by first | exact Or.inl rfl | exact Or.inr rfl) (pe_lst pa_nil)) (pss_cons (ps_expr (pe_bmK G.K rfl PySem.F.plainAttrs_list PySem.F.slot_list_append PySem.F.type_list_append mt_append (pv 7) (pa_cons (pe_lam C__law_told TB (by rfl) hmT hu (by rfl) hr (LamX.lamS_by (by first | decide +kernel | kernel_rfl)) (fun _ _ _ _ E2 _ _ hr2 => (pe_calM C_Split_cell hr2 (by first | decide | exact Nat.le_refl _) (passes_call (takes_of rfl rfl rfl rfl) fun _ _ _ _ h => h) (pv 1) (pa_cons (pv 3) pa_nil)))) pa_nil))) (pss_cons (ps_expr (pe_bmK G.K rfl PySem.F.plainAttrs_list PySem.F.slot_list_append PySem.F.type_list_append mt_append (pv 7) (pa_cons (pe_lam C__law_told TB (by rfl) hmT hu (by rfl) hr (LamX.lamS_by (by first | decide +kernel | kernel_rfl)) (fun _ _ _ _ E2 _ _ hr2 => (pe_calM C_Split_together hr2 (by first | decide | exact Nat.le_refl _) (passes_call (takes_of rfl rfl rfl rfl) fun _ _ _ _ h => h) (pv 1) (pa_cons (pv 3) (pa_cons (pv 4) pa_nil))))) pa_nil))) (pss_cons (ps_expr (pe_bmK G.K rfl PySem.F.plainAttrs_list PySem.F.slot_list_append PySem.F.type_list_append mt_append (pv 7) (pa_cons (pe_lam C__law_told TB (by rfl) hmT hu (by rfl) hr (LamX.lamS_by (by first | decide +kernel | kernel_rfl)) (fun _ _ _ _ E2 _ _ hr2 => (pe_calM C_Split_together hr2 (by first | decide | exact Nat.le_refl _) (passes_call (takes_of rfl rfl rfl rfl) fun _ _ _ _ h => h) (pv 1) (pa_cons (pv 4) (pa_cons (pv 3) pa_nil))))) pa_nil))) (pss_cons (ps_expr (pe_bmK G.K rfl PySem.F.plainAttrs_list PySem.F.slot_list_append PySem.F.type_list_append mt_append (pv 7) (pa_cons (pe_lam C__law_told TB (by rfl) hmT hu (by rfl) hr (LamX.lamS_by (by first | decide +kernel | kernel_rfl)) (fun _ _ _ _ E2 _ _ hr2 => (pe_calM C_Split_together hr2 (by first | decide | exact Nat.le_refl _) (passes_call (takes_of rfl rfl rfl rfl) fun _ _ _ _ h => h) (pv 1) (pa_cons (pv 3) (pa_cons (pv 5) pa_nil))))) pa_nil))) (pss_cons (ps_expr (pe_bmK G.K rfl PySem.F.plainAttrs_list PySem.F.slot_list_append PySem.F.type_list_append mt_append (pv 7) (pa_cons (pe_lam C__law_told TB (by rfl) hmT hu (by rfl) hr (LamX.lamS_by (by first | decide +kernel | kernel_rfl)) (fun _ _ _ _ E2 _ _ hr2 => (pe_calC C_Split hr2 (by first | decide | exact Nat.le_refl _) (passes_call (takes_of rfl rfl rfl rfl) fun _ _ _ _ h => h) (pa_cons (pe_lst pa_nil) pa_nil)))) pa_nil))) (pss_cons (ps_expr (pe_bmK G.K rfl PySem.F.plainAttrs_list PySem.F.slot_list_append PySem.F.type_list_append mt_append (pv 7) (pa_cons (pe_lam C__law_told TB (by rfl) hmT hu (by rfl) hr (LamX.lamS_by (by first | decide +kernel | kernel_rfl)) (fun _ _ _ _ E2 _ _ hr2 => (pe_calC C_Split hr2 (by first | decide | exact Nat.le_refl _) (passes_call (takes_of rfl rfl rfl rfl) fun _ _ _ _ h => h) (pa_cons (pe_op op_mulA (pe_lst (pa_cons (pv 4) pa_nil)) (pv 6)) pa_nil)))) pa_nil))) (pss_cons (ps_expr (pe_bmK G.K rfl PySem.F.plainAttrs_list PySem.F.slot_list_append PySem.F.type_list_append mt_append (pv 7) (pa_cons (pe_lam C__law_told TB (by rfl) hmT hu (by rfl) hr (LamX.lamS_by (by first | decide +kernel | kernel_rfl)) (fun _ _ _ _ E2 _ _ hr2 => (pe_calC C_Split hr2 (by first | decide | exact Nat.le_refl _) (passes_call (takes_of rfl rfl rfl rfl) fun _ _ _ _ h => h) (pa_cons (pe_listRg rfl (by rfl) T.b_list (prg_1 (by rfl) T.b_range (pv 6))) pa_nil)))) pa_nil))) (pss_cons (ps_expr (pe_bmK G.K rfl PySem.F.plainAttrs_list PySem.F.slot_list_append PySem.F.type_list_append mt_append (pv 7) (pa_cons (pe_lam C__law_told TB (by rfl) hmT hu (by rfl) hr (LamX.lamS_by (by first | decide +kernel | kernel_rfl)) (fun _ _ _ _ E2 _ _ hr2 => (pe_calM C_Split_cell hr2 (by first | decide | exact Nat.le_refl _) (passes_call (takes_of rfl rfl rfl rfl) fun _ _ _ _ h => h) (pv 1) (pa_cons (pv 4) pa_nil)))) pa_nil))) (pss_cons (ps_set (i := 8) sc_law_refused.nd rfl (by first | exact Or.inl rfl | exact Or.inr rfl) (pe_lst (pa_cons pe_bl (pa_cons pe_bl (pa_cons pe_bl pa_nil))))) (pss_cons (ps_set (i := 9) sc_law_refused.nd rfl (by first | exact Or.inl rfl | exact Or.inr rfl) (pe_lst (pa_cons (pe_lst (pa_cons pe_str (pa_cons (pv 3) (pa_cons (pv 8) pa_nil)))) (pa_cons (pe_lst (pa_cons pe_str (pa_cons (pv 3) (pa_cons (pv 8) pa_nil)))) (pa_cons (pe_lst (pa_cons pe_str (pa_cons (pv 3) (pa_cons (pv 8) pa_nil)))) pa_nil))))) (pss_cons (ps_set (i := 9) sc_law_refused.nd rfl (by first | exact Or.inl rfl | exact Or.inr rfl) (pe_op op_addA (pv 9) (pe_lst (pa_cons (pe_lst (pa_cons pe_str (pa_cons (pv 3) (pa_cons (pv 8) pa_nil)))) (pa_cons (pe_lst (pa_cons pe_str (pa_cons pe_int (pa_cons (pv 8) pa_nil)))) (pa_cons (pe_lst (pa_cons pe_str (pa_cons (pv 6) (pa_cons (pv 8) pa_nil)))) pa_nil)))))) (pss_cons (ps_set (i := 9) sc_law_refused.nd rfl (by first | exact Or.inl rfl | exact Or.inr rfl) (pe_op op_addA (pv 9) (pe_lst (pa_cons (pe_lst (pa_cons pe_str (pa_cons (pv 6) (pa_cons (pv 8) pa_nil)))) (pa_cons (pe_lst (pa_cons pe_str pa_nil)) pa_nil))))) (pss_one (ps_ret (pe_cal C__law_same hr (by first | decide | exact Nat.le_refl _) pass0 (pa_cons (pv 7) (pa_cons (pv 9) pa_nil)))))))))))))))))))))), ?_⟩
  rintro Ex es o ⟨p, b, m, hm, rfl, rfl⟩
  have hz : m.length ≤ 1000 := by unfold Few at hm; omega
  have hp : 0 < (m.length : Int) := by unfold Few at hm; omega
  have hlg : ((m.length : Int)).natAbs.log2 < 9000 := Nat.lt_trans (few_log hz) (by decide)
  show S G _ _ [some (bagA G p b), some (fr G (spD A m)), some (fr G (.int m.length)), none, none, none, none, none, none, none] _
  refine q_asg (ef_callO (i := 0) rfl (ea_cons (ef_var rfl) ea_nil) rfl (use_far hp hlg) fixed_bagA fixed_bagA) ?_
  refine q_asg (ef_take (i := 0) hp hlg rfl (ea_cons (ef_var rfl) ea_nil) rfl) ?_
  refine q_asg (ef_callO (i := 0) rfl (ea_cons (ef_var rfl) ea_nil) rfl (use_far hp hlg) fixed_bagA fixed_bagA) ?_
  refine q_asg (ef_op ef_int (ef_takeC (i := 0) (m := 8) (by decide) (by decide +kernel) rfl) a_addI) ?_
  refine q_asgO (eo_lst ea_nil) ?_
  have hF := farF_out b hp (by omega)
  have hN := (farF b m.length).2.dig_lt hp
  have hB := farF_out ((farF b m.length).2.nxt m.length) hp (by omega)
  have hL := (farF ((farF b m.length).2.nxt m.length) m.length).2.dig_lt (m := 8) (by decide)
  generalize hb4 : (farF ((farF b m.length).2.nxt m.length) m.length).2 = b4 at hL
  have hr4 : refB b m.length = b4.nxt 8 := by unfold refB; rw [hb4]
  rw [hr4]
  generalize (farF ((farF b m.length).2.nxt m.length) m.length).1 = B at hB
  generalize (farF b m.length).2.dig m.length = N at hN
  generalize (farF b m.length).1 = F1 at hF
  obtain ⟨k, hk⟩ := Int.eq_ofNat_of_zero_le (show 0 ≤ 13 + b4.dig 8 by omega)
  have hk2 : 13 ≤ k ∧ k ≤ 20 := by omega
  show S G Ex _ [some (bagA G p (b4.nxt 8)), some (fr G (spD A m)), some (fr G (.int m.length)), some (fr G (.int F1)), some (fr G (.int N)), some (fr G (.int B)), some (fr G (.int (13 + b4.dig 8))), some (lst G []), none, none] _
  rw [hk]
  have hFl := log_41 hF.2
  have hBl := log_41 hB.2
  have app : ∀ (xs : List D) (d : D) (te : TE) (u : TS) (P' : Po), xs.length < 100 → EF G te (esR G A p (b4.nxt 8) m F1 N B k xs) d (esR G A p (b4.nxt 8) m F1 N B k xs) → S G Ex u (esR G A p (b4.nxt 8) m F1 N B k (xs ++ [d])) P' →
      S G Ex (tSeq (tDrop (tBM G.K "list" rAppend (tVar 7) (tCons te tNil))) u) (esR G A p (b4.nxt 8) m F1 N B k xs) P' := fun xs d te u P' hx he hs => q_drop (ef_bmO (i := 7) (ea_cons he ea_nil) rfl rfl (ml_append (by omega))) hs
  have v : ∀ (xs : List D) (i : Nat) (d : D), (esR G A p (b4.nxt 8) m F1 N B k xs)[i]? = some (some (fr G d)) → EF G (tVar i) (esR G A p (b4.nxt 8) m F1 N B k xs) d (esR G A p (b4.nxt 8) m F1 N B k xs) := fun xs i d h => ef_var h
  show S G Ex _ (esR G A p (b4.nxt 8) m F1 N B k []) _
  refine app _ (errD "UnknownCase" F1) _ _ _ (by simp) (ef_toldX hT (.case F1) fun E2 => ex_meth (v _ 1 _ rfl) (by decide +kernel) (ea_cons (v _ 3 _ rfl) ea_nil) (use_cellX hz hF.1 hFl)) ?_
  refine app _ (errD "UnknownCase" F1) _ _ _ (by simp) (ef_toldX hT (.case F1) fun E2 => ex_meth (v _ 1 _ rfl) (by decide +kernel) (ea_cons (v _ 3 _ rfl) (ea_cons (v _ 4 _ rfl) ea_nil)) (use_togX1 hz hF.1 hFl)) ?_
  refine app _ (errD "UnknownCase" F1) _ _ _ (by simp) (ef_toldX hT (.case F1) fun E2 => ex_meth (v _ 1 _ rfl) (by decide +kernel) (ea_cons (v _ 4 _ rfl) (ea_cons (v _ 3 _ rfl) ea_nil)) (use_togX2 hz hN hF.1 hFl)) ?_
  refine app _ (errD "UnknownCase" F1) _ _ _ (by simp) (ef_toldX hT (.case F1) fun E2 => ex_meth (v _ 1 _ rfl) (by decide +kernel) (ea_cons (v _ 3 _ rfl) (ea_cons (v _ 5 _ rfl) ea_nil)) (use_togX1 hz hF.1 hFl)) ?_
  refine app _ (errD "BadSize" 0) _ _ _ (by simp) (ef_toldX hT (.size 0) fun E2 => ex_make (ea_cons (ef_lst (eo_lst ea_nil)) ea_nil) (use_initX (l := []) (by simp [Few]) (by simp))) ?_
  have e6 : (List.replicate ((k : Int)).toNat [D.int N]).flatten = dI (List.replicate k N) := by
    rw [Int.toNat_natCast]
    unfold dI
    rw [List.map_replicate]
    clear app v hk hk2
    induction k with
    | zero => rfl
    | succ k ih => rw [List.replicate_succ, List.flatten_cons, List.replicate_succ, ih]; rfl
  have o6 := use_initX (G := G) (A := A) (l := List.replicate k N) (by unfold Few; rw [List.length_replicate]; omega) (by rw [List.length_replicate]; omega)
  rw [List.length_replicate] at o6
  refine app _ (errD "BadSize" k) _ _ _ (by simp) (ef_toldX hT (.size k) fun E2 => ex_make (ea_cons (ef_lst (e6 ▸ eo_op (ef_lst (eo_lst (ea_cons (v _ 4 _ rfl) ea_nil))) (v _ 6 _ rfl) (a_rep (by omega) (by omega) (by simp; omega)))) ea_nil) o6) ?_
  have o7 := use_initX (G := G) (A := A) (l := upto k) (by unfold Few; rw [upto_len, Int.toNat_natCast]; omega) (by rw [upto_len, Int.toNat_natCast]; omega)
  rw [upto_len, Int.toNat_natCast] at o7
  refine app _ (errD "BadSize" k) _ _ _ (by simp) (ef_toldX hT (.size k) fun E2 => ex_make (ea_cons (ef_lst (eo_listRg (v _ 6 _ rfl) (by omega) (by omega))) ea_nil) o7) ?_
  refine app _ (.lst [.str "no error"]) _ _ _ (by simp) (ef_toldR hT .ret fun E2 => eo_meth (v _ 1 _ rfl) (by decide +kernel) (ea_cons (v _ 4 _ rfl) ea_nil) (use_cell hz hN)) ?_
  let k3 : D := .lst [.bl true, .bl true, .bl false]
  let ask : List D := [errD "UnknownCase" F1, errD "UnknownCase" F1, errD "UnknownCase" F1, errD "UnknownCase" F1, errD "BadSize" 0, errD "BadSize" k, errD "BadSize" k, .lst [.str "no error"]]
  show S G Ex _ [some (bagA G p (b4.nxt 8)), some (fr G (spD A m)), some (fr G (.int m.length)), some (fr G (.int F1)), some (fr G (.int N)), some (fr G (.int B)), some (fr G (.int (k : Int))), some (lst G ask), none, none] _
  refine s_freeze (i := 7) rfl ?_
  show S G Ex _ [some (bagA G p (b4.nxt 8)), some (fr G (spD A m)), some (fr G (.int m.length)), some (fr G (.int F1)), some (fr G (.int N)), some (fr G (.int B)), some (fr G (.int (k : Int))), some (fr G (.lst ask)), none, none] _
  refine q_asg (ef_lst (eo_lst (ea_cons ef_bl (ea_cons ef_bl (ea_cons ef_bl ea_nil))))) ?_
  show S G Ex _ [some (bagA G p (b4.nxt 8)), some (fr G (spD A m)), some (fr G (.int m.length)), some (fr G (.int F1)), some (fr G (.int N)), some (fr G (.int B)), some (fr G (.int (k : Int))), some (fr G (.lst ask)), some (fr G k3), none] _
  have row : ∀ (es : Es) (x : Str) (t : TE) (n : Int), es[8]? = some (some (fr G k3)) → EF G t es (.int n) es → EF G (tLst (tCons (tC (.str x)) (tCons t (tCons (tVar 8) tNil)))) es (errD x n) es := fun es x t n h ht => ef_lst (eo_lst (ea_cons ef_str (ea_cons ht (ea_cons (ef_var h) ea_nil))))
  refine q_asg (ef_lst (eo_lst (ea_cons (row _ _ _ F1 rfl (ef_var rfl)) (ea_cons (row _ _ _ F1 rfl (ef_var rfl)) (ea_cons (row _ _ _ F1 rfl (ef_var rfl)) ea_nil))))) ?_
  refine q_asg (ef_lst (eo_op (ef_var rfl) (ef_lst (eo_lst (ea_cons (row _ _ _ F1 rfl (ef_var rfl)) (ea_cons (row _ _ _ 0 rfl ef_int) (ea_cons (row _ _ _ k rfl (ef_var rfl)) ea_nil))))) (a_cat (by simp)))) ?_
  refine q_asg (ef_lst (eo_op (ef_var rfl) (ef_lst (eo_lst (ea_cons (row _ _ _ k rfl (ef_var rfl)) (ea_cons (ef_lst (eo_lst (ea_cons ef_str ea_nil))) ea_nil)))) (a_cat (by simp)))) ?_
  have okA : okS 4 (.lst ask) := by
    refine ⟨by simp [ask], fun x hx => ?_⟩
    have hE : ∀ (x : Str) (n : Int), okS 3 (errD x n) := fun x n => ⟨by simp, fun y hy => by
      simp only [List.mem_cons, List.not_mem_nil, or_false] at hy
      rcases hy with rfl | rfl | rfl
      · trivial
      · trivial
      · exact ⟨by simp, fun z hz => by
          simp only [List.mem_cons, List.not_mem_nil, or_false] at hz
          rcases hz with rfl | rfl | rfl <;> trivial⟩⟩
    simp only [ask, List.mem_cons, List.not_mem_nil, or_false] at hx
    rcases hx with rfl | rfl | rfl | rfl | rfl | rfl | rfl | rfl
    · exact hE _ _
    · exact hE _ _
    · exact hE _ _
    · exact hE _ _
    · exact hE _ _
    · exact hE _ _
    · exact hE _ _
    · exact ⟨by simp, fun y hy => by
        simp only [List.mem_cons, List.not_mem_nil, or_false] at hy
        subst hy
        trivial⟩
  exact s_ret (ef_call (Fn := fn_same G 4) (ds := [.lst ask, .lst ask]) (ea_cons (ef_var rfl) (ea_cons (ef_var rfl) ea_nil)) (use_same okA)) ⟨rfl, back_self fixed_bagA fixed_bagA rfl⟩
end
end K

namespace DL
open PySem L2 PySem.Spec PyProof.Rows
variable {G : Ct}
/-! ### a list of our own lent to a def -/
theorem ef_callB {es : Es} {i n : Nat} {xs ds : List D} {z : D} {Fn : Es → Out → Prop} {E : XK} {eo : Es} {tas : TA} (hi : es[i]? = some (some (lst G xs))) (ha : EA G tas es ds es) (hf : Fn (frs G (.lst xs :: ds)) (.ret (fr G z) eo)) (hl : LF z) (hn : ds.length + 1 = n := by rfl) :
    EF G (tCall (spOf G Fn n) [] E (tCons (tVar i) tas)) es z (es.set i (some (lst G xs))) := fun W F H σ Q c k => by
  obtain ⟨v0, m0, e0, _⟩ := c.take hi
  refine ⟨v0, e0, ha W F H σ _ c fun vs W1 H1 s1 c1 i1 => ?_⟩
  show spOf G Fn n ((v0 :: vs) ++ []) H1 Q E
  rw [List.append_nil]
  obtain ⟨v, m, e1, hm, dm, sm, ct⟩ := c1.take hi
  rw [e0] at e1
  cases e1
  obtain ⟨b, ws, rfl, iw, rfl⟩ := hm.lst
  obtain ⟨F1, d1, b1, back⟩ := ct.enterP dm
  have wb : W1 b = none := by
    obtain ⟨ms, q⟩ := b1
    rcases q.dFW b with e | e
    · rw [un_none, one_same] at e; cases e.1
    · exact e
  obtain ⟨b2, s3⟩ := b1.freeze d1
  have il : IsL G (upd W1 b (.lst ws)) (.lst xs :: ds) (.ref b :: vs) := IsL.cons (is_lst.mpr ⟨b, ws, rfl, upd_same, iw.mono s3⟩) (i1.mono s3)
  refine ⟨_, F1, _, _, by simp [← i1.len, hn], b2.params il, hf, fun v m W' H' s dr hr c' => ?_⟩
  have c3 := (c'.lose dr).bare
  have hb : W' b = some (.lst ws) := s _ _ upd_same
  obtain ⟨c6, d6⟩ := c3.unfreeze hb
  have s6 : Same W1 (rmv W' b) := fun x o e => by
    have n : x ≠ b := fun z => by rw [z, wb] at e; cases e
    rw [rmv_ne n]
    exact s _ _ (s3 _ _ e)
  obtain ⟨d7, c7⟩ := back (one b (.lst ws)) _ H' s6 d6 c6
  have c8 := c7.give (i := i) (φ := lst G xs) d7 e0 (hold_lst (iw.mono s6))
  rw [List.set_set] at c8
  exact k v _ H' (s1.trans s6) c8 (Is.unlist hb hl hr.fr)
theorem lfs_ints : ∀ l : List Int, LFs (dI l)
  | [] => by unfold dI; simp [LFs]
  | n :: l => by
    show LFs (D.int n :: dI l)
    unfold LFs
    exact ⟨by simp [LF], lfs_ints l⟩
theorem q_mid {Ex : XK} {t u : TS} {es : Es} {P : Po} (I : Es → Prop) (h : S G Ex t es { P with nx := I }) (k : ∀ e, I e → S G Ex u e P) : S G Ex (tSeq t u) es P := s_seq (h.imp k (fun _ _ q => q) (fun _ q => q) (fun _ q => q) (fun _ _ _ _ q => q))
theorem dI_set {l : List Int} {i : Nat} {v : Int} : (dI l).set i (.int v) = dI (l.set i v) := by unfold dI; rw [List.map_set]
end DL
namespace K
open PySem L2 PySem.Spec PyProof.Rows DL
local macro_rules | `(tactic| walk_at "sd") => `(tactic| first | assumption | omega | decide | (simp only [DL.dI_len, DL.lowI_len, DL.upto_len, List.length_map] at *; omega))
local macro_rules | `(tactic| walk_at "r2") => `(tactic| first | exact DL.a_addI | exact DL.a_sub | exact DL.a_lt | exact DL.a_le | exact DL.a_gt | exact DL.a_ge | exact DL.a_eqI | exact DL.a_neI | exact DL.a_eqS | exact DL.a_neS | exact DL.a_isN | exact DL.a_notN | exact DL.a_isC | exact DL.a_mod (by walk_at "sd") | exact DL.a_ixI (by walk_at "sd") (by walk_at "sd") | exact DL.a_ixJ (by walk_at "sd") (by walk_at "sd"))
local macro_rules | `(tactic| walk_at "rc") => `(tactic| first | exact DL.a_lenI | exact DL.a_lenL | exact DL.a_lenT | exact DL.a_int | exact DL.a_tupL)
local macro_rules | `(tactic| walk_at "ev") => `(tactic| first | exact DL.ef_int | exact DL.ef_bl | exact DL.ef_str | exact DL.ef_non | exact DL.ef_ty | exact DL.ef_raw | exact DL.ef_var rfl | exact DL.ea_nil | exact DL.et_yes | (refine' DL.ea_cons ?a ?b; (case a => walk_at "ev"); (case b => walk_at "ev")) | (refine' DL.et_test ?a; (case a => walk_at "ev")) | (refine' DL.et_B ?a; (case a => walk_at "ev")) | (refine' DL.et_not ?a; (case a => walk_at "ev")) | (refine' DL.et_or ?a fun _ => ?b; (case a => walk_at "ev"); (case b => walk_at "ev")) | (refine' DL.et_and ?a fun _ => ?b; (case a => walk_at "ev"); (case b => walk_at "ev")) | (refine' DL.ef_op ?a ?b ?c; (case a => walk_at "ev"); (case b => walk_at "ev"); (case c => walk_at "r2")) | (refine' DL.ef_cb ?a ?b; (case a => walk_at "ev"); (case b => walk_at "rc")) | (refine' DL.ef_cbT ?a ?b; (case a => walk_at "ev"); (case b => walk_at "rc")) | (refine' DL.ef_un ?a; (case a => walk_at "ev")) | (refine' DL.ef_fld 0 ?a ?f ?d ?c ?n; (case a => walk_at "ev"); (case f => decide +kernel); (case d => rfl); (case c => assumption); (case n => assumption)) | (refine' DL.ef_fld 1 ?a ?f ?d ?c ?n; (case a => walk_at "ev"); (case f => decide +kernel); (case d => rfl); (case c => assumption); (case n => assumption)))
section
variable {P : Program} {w : World} {G : Ct} {mg : Str → Option Value} {base : Heap} {A : Ad}
/-! ### what is equal -/
structure NF (K : PySem.W.Frag) (A : Ad) : Prop where
  s : PySem.W.notFirst K A.Split (.ref A.Split) = true
  i : PySem.W.notFirst K A.Split (.type "int") = true
  t : PySem.W.notFirst K A.Split (.type "str") = true
  l : PySem.W.notFirst K A.Split (.type "list") = true
  u : PySem.W.notFirst K A.Split (.type "tuple") = true
theorem use_eq1 {m m' : List Int} (hz : m.length ≤ 1000) (hz' : m'.length ≤ 1000) : fn_eq G A (frs G [spD A m, spD A m']) (.ret (fr G (.bl (decide (m = m')))) (frs G [spD A m, spD A m'])) := ⟨m, _, hz, rfl, .inl ⟨m', hz', rfl, rfl⟩⟩
theorem use_eq2 {m : List Int} {d : D} (hz : m.length ≤ 1000) (hd : NoSp d) : fn_eq G A (frs G [spD A m, d]) (.ret (fr G (.bl false)) (frs G [spD A m, d])) := ⟨m, d, hz, rfl, .inr ⟨hd, rfl⟩⟩
theorem okS_bl {n : Nat} {b : Bool} : okS (n + 1) (.bl b) := trivial
abbrev st_law_equal : Stmt := top 29
theorem sc_law_equal : FnScope ["split", "low", "lists", "marks", "other", "same", "thing"] ["split", "low", "lists"] (defScope st_law_equal) := ⟨rfl, rfl, rfl, by decide +kernel, rfl, by decide +kernel, by decide +kernel⟩

def fn_equal (G : Ct) (A : Ad) : Es → Out → Prop := fun es o => ∃ (m : List Int) (ls : List (List Int)), Few m ∧ ls.length ≤ 100 ∧ (∀ l ∈ ls, Few l) ∧ es = frs G [spD A m, .lst (dI m), .lst (ls.map fun l => .lst (dI l))] ∧ o = .ret (fr G (.bl true)) es
theorem ok_equal {f fd} (F : Fun G.K "_law_equal" "_law_equal" st_law_equal f fd) (T : Txt G mg A) (Y : KSp G.K A) (N : NF G.K A) (C_Split : CalC P w G.K mg base (L2.CX P w) 4 "Split" A.Split ["self", "marks"] (spOf G (fn_init G A) 2))
    (C__law_low : Cal P w G.K mg base CX0 1 "_law_low" ["marks"] (spOf G (fn_low G) 1)) (C__law_same : Cal P w G.K mg base CX0 4 "_law_same" ["actual", "due"] (spOf G (fn_same G 4) 2)) (C_Split___eq : CalE P w G.K mg base 1 A.Split (spOf G (fn_eq G A) 2)) :
    FnOk P w G.K mg base CX0 8 f fd ["split", "low", "lists"] (spOf G (fn_equal G A) 3) := by
  refine ok_of (N := ["split", "low", "lists", "marks", "other", "same", "thing"]) F sc_law_equal fun cdv A' outer s H E hr => ⟨_, (pss_cons (ps_for PassesOwn.never rfl (pi_listK G.K rfl (pv 2)) (pg_name (i := 3) sc_law_equal.nd rfl (by first | exact Or.inl rfl | exact Or.inr rfl)) (pss_cons (ps_set (i := 4) sc_law_equal.nd rfl (by first | exact Or.inl rfl | exact Or.inr rfl) (pe_calC C_Split hr (by first | decide | exact Nat.le_refl _) L2.passL (pa_cons (pe_callTy (call_listK G.K rfl) (by rfl) T.b_list (by decide +kernel) (pa_cons (pv 3) pa_nil)) pa_nil))) (pss_cons (ps_set (i := 5) sc_law_equal.nd rfl (by first | exact Or.inl rfl | exact Or.inr rfl) (pe_cmpR (op_eqK G.K rfl hr.units) (pe_cal C__law_low hr (by first | decide | exact Nat.le_refl _) pass0 (pa_cons (pv 3) pa_nil)) (pv 1) (nomark _))) (pss_cons (ps_if (PW.pt (pw_or (pt_not (pt_val (pe_cal C__law_same hr (by first | decide | exact Nat.le_refl _) pass0 (pa_cons (pe_cmpR (op_eqC C_Split___eq pass0 hr (by decide)) (pv 0) (pv 4) (nomark _)) (pa_cons (pv 5) pa_nil))))) (pw_or1 (pt_not (pt_val (pe_cal C__law_same hr (by first | decide | exact Nat.le_refl _) pass0 (pa_cons (pe_cmpR (op_neC C_Split___eq pass0 hr (by decide)) (pv 0) (pv 4) (nomark _)) (pa_cons (pe_not (pv 5)) pa_nil)))))))) (pss_one (ps_ret pe_bl)) pss_nil) (pss_one (ps_if (PW.pt (pw_or (pt_not (pt_val (pe_cal C__law_same hr (by first | decide | exact Nat.le_refl _) pass0 (pa_cons (pe_cmpR (op_eqC C_Split___eq pass0 hr (by decide)) (pv 4) (pv 0) (nomark _)) (pa_cons (pv 5) pa_nil))))) (pw_or1 (pt_not (pt_val (pe_cal C__law_same hr (by first | decide | exact Nat.le_refl _) pass0 (pa_cons (pe_cmpR (op_neC C_Split___eq pass0 hr (by decide)) (pv 4) (pv 0) (nomark _)) (pa_cons (pe_not (pv 5)) pa_nil)))))))) (pss_one (ps_ret pe_bl)) pss_nil)))))) (pss_cons (ps_for PassesOwn.never rfl (pi_listK G.K rfl (pe_lst (pa_cons (pe_callTy (call_listK G.K rfl) (by rfl) T.b_list (by decide +kernel) (pa_cons (pv 1) pa_nil)) (pa_cons (pe_callTy (call_tupK G.K rfl) (by rfl) T.b_tuple (by decide +kernel) (pa_cons (pv 1) pa_nil)) (pa_cons (pe_callB (call_lenK G.K rfl) (by rfl) T.b_len PySem.boot_len (pa_cons (pv 1) pa_nil)) (pa_cons pe_str pa_nil)))))) (pg_name (i := 6) sc_law_equal.nd rfl (by first | exact Or.inl rfl | exact Or.inr rfl)) (pss_one (ps_if (PW.pt (pw_or (pt_not (pt_val (pe_cal C__law_same hr (by first | decide | exact Nat.le_refl _) pass0 (pa_cons (pe_cmpR (op_eqC C_Split___eq pass0 hr (by decide)) (pv 0) (pv 6) (nomark _)) (pa_cons pe_bl pa_nil))))) (pw_or1 (pt_not (pt_val (pe_cal C__law_same hr (by first | decide | exact Nat.le_refl _) pass0 (pa_cons (pe_cmpR (op_neC C_Split___eq pass0 hr (by decide)) (pv 0) (pv 6) (nomark _)) (pa_cons pe_bl pa_nil)))))))) (pss_one (ps_ret pe_bl)) pss_nil))) (pss_one (ps_ret pe_bl)))), ?_⟩
  rintro Ex es o ⟨m, ls, hm, hls, hl, rfl, rfl⟩
  have hz : m.length ≤ 1000 := by unfold Few at hm; omega
  let L : List D := ls.map fun l => .lst (dI l)
  show S G _ _ [some (fr G (spD A m)), some (fr G (.lst (dI m))), some (fr G (.lst L)), none, none, none, none] _
  refine s_seq (s_forL (xs := L) (ef_var rfl) (fun i e => ∃ x3 x4 x5, e = [some (fr G (spD A m)), some (fr G (.lst (dI m))), some (fr G (.lst L)), x3, x4, x5, none]) ⟨none, none, none, rfl⟩ ?_ ?_)
  · rintro i x e hx ⟨x3, x4, x5, rfl⟩
    obtain ⟨l, hml, rfl⟩ : ∃ l ∈ ls, x = .lst (dI l) := by
      simp only [L, List.getElem?_map] at hx
      cases q : ls[i]? with
      | none => rw [q] at hx; cases hx
      | some l => rw [q] at hx; cases hx; exact ⟨l, List.mem_of_getElem? q, rfl⟩
    have hf := hl l hml
    have hz2 : l.length ≤ 1000 := by unfold Few at hf; omega
    have hz3 : (lowI l).length ≤ 1000 := by rw [lowI_len]; exact hz2
    refine ⟨_, ag_name, ?_⟩
    show S G _ _ [some (fr G (spD A m)), some (fr G (.lst (dI m))), some (fr G (.lst L)), some (fr G (.lst (dI l))), x4, x5, none] _
    refine q_asg ((ef_make (ea_cons (ef_lst (eo_cb (ea_cons (ef_var rfl) ea_nil) a_listL)) ea_nil) (use_init hf)).to (spD_low l)) ?_
    refine q_asg ((ef_op (ef_lst (eo_call (ea_cons (ef_var rfl) ea_nil) (use_low hz2))) (ef_var rfl) (a_eqLL (by omega) (by omega))).to (d' := .bl (decide (m = lowI l))) (by congr 1; exact decide_eq_decide.mpr eq_comm)) ?_
    show S G _ _ [some (fr G (spD A m)), some (fr G (.lst (dI m))), some (fr G (.lst L)), some (fr G (.lst (dI l))), some (fr G (spD A (lowI l))), some (fr G (.bl (decide (m = lowI l)))), none] _
    have e2 : decide (lowI l = m) = decide (m = lowI l) := decide_eq_decide.mpr eq_comm
    refine q_when (b := !true || !true) (et_or (et_not (et_B (ef_call (Fn := fn_same G 4) (ds := [.bl (decide (m = lowI l)), .bl (decide (m = lowI l))]) (ea_cons (ef_oeq (neg := false) (ef_var rfl) (ef_var rfl) (.ins Y.ty _ _) N.s (use_eq1 hz hz3)) (ea_cons (ef_var rfl) ea_nil)) (use_same okS_bl))))
      fun _ => et_not (et_B (ef_call (Fn := fn_same G 4) (ds := [.bl (!decide (m = lowI l)), .bl (!decide (m = lowI l))]) (ea_cons (ef_oeq (neg := true) (ef_var rfl) (ef_var rfl) (.ins Y.ty _ _) N.s (use_eq1 hz hz3)) (ea_cons (ef_notV (ef_var rfl)) ea_nil)) (use_same okS_bl)))) (fun z => by cases z) fun _ => ?_
    refine s_if (b := !true || !true) (et_or (et_not (et_B (ef_call (Fn := fn_same G 4) (ds := [.bl (decide (m = lowI l)), .bl (decide (m = lowI l))]) (ea_cons ((ef_oeq (neg := false) (ef_var rfl) (ef_var rfl) (.ins Y.ty _ _) N.s (use_eq1 hz3 hz)).to (by rw [e2]; rfl)) (ea_cons (ef_var rfl) ea_nil)) (use_same okS_bl))))
      fun _ => et_not (et_B (ef_call (Fn := fn_same G 4) (ds := [.bl (!decide (m = lowI l)), .bl (!decide (m = lowI l))]) (ea_cons ((ef_oeq (neg := true) (ef_var rfl) (ef_var rfl) (.ins Y.ty _ _) N.s (use_eq1 hz3 hz)).to (by rw [e2]; rfl)) (ea_cons (ef_notV (ef_var rfl)) ea_nil)) (use_same okS_bl)))) (fun z => by cases z) fun _ => s_next ⟨_, _, _, rfl⟩
  · rintro e ⟨x3, x4, x5, rfl⟩
    let M : List D := [.lst (dI m), .tup (dI m), .int m.length, .str "0"]
    refine s_seq (s_forL (xs := M) (ef_lst (eo_lst (ea_cons (ef_lst (eo_cb (ea_cons (ef_var rfl) ea_nil) a_listL)) (ea_cons (ef_cbT (ea_cons (ef_var rfl) ea_nil) a_tupL) (ea_cons (ef_cb (ea_cons (ef_var rfl) ea_nil) a_lenI) (ea_cons ef_str ea_nil)))) (by show 4 ≤ 100000; decide))) (fun i e => ∃ x6, e = [some (fr G (spD A m)), some (fr G (.lst (dI m))), some (fr G (.lst L)), x3, x4, x5, x6]) ⟨none, rfl⟩ ?_ ?_)
    · rintro i x e hx ⟨x6, rfl⟩
      obtain ⟨t, hn, ht, hq⟩ : ∃ t, NoSp x ∧ TyD G.K x t ∧ PySem.W.notFirst G.K A.Split t = true := by
        match i, hx with
        | 0, hx => cases hx; exact ⟨_, .lst _, .lst _, N.l⟩
        | 1, hx => cases hx; exact ⟨_, .tup _, .tup _, N.u⟩
        | 2, hx => cases hx; exact ⟨_, .int _, .int _, N.i⟩
        | 3, hx => cases hx; exact ⟨_, .str _, .str _, N.t⟩
        | (k + 4), hx => simp [M] at hx
      refine ⟨_, ag_name, ?_⟩
      show S G _ _ [some (fr G (spD A m)), some (fr G (.lst (dI m))), some (fr G (.lst L)), x3, x4, x5, some (fr G x)] _
      refine s_if (b := !true || !true) (et_or (et_not (et_B (ef_call (Fn := fn_same G 4) (ds := [.bl false, .bl false]) (ea_cons (ef_oeq (neg := false) (ef_var rfl) (ef_var (i := 6) rfl) ht hq (use_eq2 hz hn)) (ea_cons ef_bl ea_nil)) (use_same okS_bl))))
        fun _ => et_not (et_B (ef_call (Fn := fn_same G 4) (ds := [.bl true, .bl true]) (ea_cons (ef_oeq (neg := true) (ef_var rfl) (ef_var (i := 6) rfl) ht hq (use_eq2 hz hn)) (ea_cons ef_bl ea_nil)) (use_same okS_bl)))) (fun z => by cases z) fun _ => s_next ⟨_, rfl⟩
    · rintro e ⟨x6, rfl⟩
      exact s_ret ef_bl ⟨rfl, back_frs⟩
end
end K

namespace K
open PySem L2 PySem.Spec PyProof.Rows DL
local macro_rules | `(tactic| walk_at "sd") => `(tactic| first | assumption | omega | decide | (simp only [DL.dI_len, DL.lowI_len, DL.upto_len, List.length_map] at *; omega))
local macro_rules | `(tactic| walk_at "r2") => `(tactic| first | exact DL.a_addI | exact DL.a_sub | exact DL.a_lt | exact DL.a_le | exact DL.a_gt | exact DL.a_ge | exact DL.a_eqI | exact DL.a_neI | exact DL.a_eqS | exact DL.a_neS | exact DL.a_isN | exact DL.a_notN | exact DL.a_isC | exact DL.a_mod (by walk_at "sd") | exact DL.a_ixI (by walk_at "sd") (by walk_at "sd") | exact DL.a_ixJ (by walk_at "sd") (by walk_at "sd"))
local macro_rules | `(tactic| walk_at "rc") => `(tactic| first | exact DL.a_lenI | exact DL.a_lenL | exact DL.a_lenT | exact DL.a_int | exact DL.a_tupL)
local macro_rules | `(tactic| walk_at "ev") => `(tactic| first | exact DL.ef_int | exact DL.ef_bl | exact DL.ef_str | exact DL.ef_non | exact DL.ef_ty | exact DL.ef_raw | exact DL.ef_var rfl | exact DL.ea_nil | exact DL.et_yes | (refine' DL.ea_cons ?a ?b; (case a => walk_at "ev"); (case b => walk_at "ev")) | (refine' DL.et_test ?a; (case a => walk_at "ev")) | (refine' DL.et_B ?a; (case a => walk_at "ev")) | (refine' DL.et_not ?a; (case a => walk_at "ev")) | (refine' DL.et_or ?a fun _ => ?b; (case a => walk_at "ev"); (case b => walk_at "ev")) | (refine' DL.et_and ?a fun _ => ?b; (case a => walk_at "ev"); (case b => walk_at "ev")) | (refine' DL.ef_op ?a ?b ?c; (case a => walk_at "ev"); (case b => walk_at "ev"); (case c => walk_at "r2")) | (refine' DL.ef_cb ?a ?b; (case a => walk_at "ev"); (case b => walk_at "rc")) | (refine' DL.ef_cbT ?a ?b; (case a => walk_at "ev"); (case b => walk_at "rc")) | (refine' DL.ef_un ?a; (case a => walk_at "ev")) | (refine' DL.ef_fld 0 ?a ?f ?d ?c ?n; (case a => walk_at "ev"); (case f => decide +kernel); (case d => rfl); (case c => assumption); (case n => assumption)) | (refine' DL.ef_fld 1 ?a ?f ?d ?c ?n; (case a => walk_at "ev"); (case f => decide +kernel); (case d => rfl); (case c => assumption); (case n => assumption)))
section
variable {P : Program} {w : World} {G : Ct} {mg : Str → Option Value} {base : Heap} {A : Ad}
/-! ### the law -/
def itN : Nat → Bag → Bag
  | 0, b => b
  | i + 1, b => (numF (itN i b)).2
def itT (m : Int) : Nat → Bag → Bag
  | 0, b => b
  | i + 1, b => (itT m i b).nxt m
theorem dI_ofR (f : Nat → Int) (n : Nat) : got (fun _ => true) (fun i => D.int (f i)) n = dI ((List.range n).map f) := by rw [got_map, dI_map]
theorem okS_ints {n : Nat} {l : List Int} (h : l.length ≤ 100000) : okS (n + 2) (.lst (dI l)) := ⟨by rw [dI_len]; exact h, fun x hx => by
  unfold dI at hx
  obtain ⟨k, _, rfl⟩ := List.mem_map.mp hx
  trivial⟩
theorem okS_due {m : List Int} (h : m.length ≤ 1000) : okS 4 (.lst (dueL m)) := by
  have hc : ∀ (c : Int), okS 2 (.lst (dI (cellI m c))) := fun c => okS_ints (n := 0) (by have := flt_len m.length fun i => decide (m.getD i 0 = gi m c); unfold cellI; omega)
  refine ⟨by simp [dueL], fun x hx => ?_⟩
  simp only [dueL, List.mem_cons, List.not_mem_nil, or_false] at hx
  rcases hx with rfl | rfl | rfl | rfl | rfl | rfl
  · trivial
  · trivial
  · exact okS_ints (n := 1) (by omega)
  · refine ⟨by have := cellsD_len m; omega, fun y hy => ?_⟩
    obtain ⟨c, _, rfl⟩ := List.mem_map.mp hy
    exact hc c
  · refine ⟨by unfold mineD; rw [List.length_map, List.length_range]; omega, fun y hy => ?_⟩
    obtain ⟨c, _, rfl⟩ := List.mem_map.mp hy
    exact hc c
  · refine ⟨by unfold rowsD; rw [List.length_map, List.length_range]; omega, fun y hy => ?_⟩
    obtain ⟨c, _, rfl⟩ := List.mem_map.mp hy
    refine ⟨by rw [List.length_map, List.length_range]; omega, fun z hz => ?_⟩
    obtain ⟨o, _, rfl⟩ := List.mem_map.mp hz
    trivial
theorem lowI_zero {l : List Int} (h : 0 < l.length) : (lowI l).getD 0 0 = 0 := by
  rw [lowI_get h, idxOf_new h (by simp)]
  rfl
abbrev st_law : Stmt := top 30
theorem sc_law : FnScope ["script", "bag", "many", "pool", "k", "marks", "low", "place", "bent", "base", "named", "mark", "sized", "held", "split", "other"] ["script"] (defScope st_law) := ⟨rfl, rfl, rfl, by decide +kernel, rfl, by decide +kernel, by decide +kernel⟩

def fn_law (G : Ct) : Es → Out → Prop := fun es o => ∃ l : List Int, es = frs G [.rol (dI l)] ∧ o = .ret (fr G (.bl true)) es
theorem ok_law {f fd} (F : Fun G.K "law" "law" st_law f fd) (T : Txt G mg A)
    (C__law_start : Cal P w G.K mg base CX0 1 "_law_start" ["script"] (spOf G (fn_start G) 1)) (C__law_take : Cal P w G.K mg base CX0 1 "_law_take" ["bag", "many"] (spOf G (fn_take G) 2)) (C__law_number : Cal P w G.K mg base CX0 2 "_law_number" ["bag"] (spOf G (fn_number G) 1))
    (C__law_low : Cal P w G.K mg base CX0 1 "_law_low" ["marks"] (spOf G (fn_low G) 1)) (C_Split : CalC P w G.K mg base (L2.CX P w) 4 "Split" A.Split ["self", "marks"] (spOf G (fn_init G A) 2)) (C__law_same : Cal P w G.K mg base CX0 4 "_law_same" ["actual", "due"] (spOf G (fn_same G 4) 2))
    (C__law_shown : Cal P w G.K mg base CX0 8 "_law_shown" ["split", "many"] (spOf G (fn_shown G A) 2)) (C__law_due : Cal P w G.K mg base CX0 2 "_law_due" ["low"] (spOf G (fn_due G) 1)) (C__law_spoil : Cal P w G.K mg base CX0 6 "_law_spoil" ["split", "place"] (spOf G (fn_spoil G A) 2))
    (C__law_refused : Cal P w G.K mg base CX0 9 "_law_refused" ["bag", "split", "many"] (spOf G (fn_refused G A) 3)) (C__law_equal : Cal P w G.K mg base CX0 8 "_law_equal" ["split", "low", "lists"] (spOf G (fn_equal G A) 3)) :
    FnOk P w G.K mg base CX0 10 f fd ["script"] (spOf G (fn_law G) 1) := by
  refine ok_of (N := ["script", "bag", "many", "pool", "k", "marks", "low", "place", "bent", "base", "named", "mark", "sized", "held", "split", "other"]) F sc_law fun cdv A' outer s H E hr => ⟨_, (pss_cons (ps_set (i := 1) sc_law.nd rfl (by first | exact Or.inl rfl | exact Or.inr rfl) (pe_cal C__law_start hr (by first | decide | exact Nat.le_refl _) pass0 (pa_cons (pv 0) pa_nil))) (pss_cons (ps_set (i := 2) sc_law.nd rfl (by first | exact Or.inl rfl | exact Or.inr rfl) (pe_op op_addA pe_int (pe_cal C__law_take hr (by first | decide | exact Nat.le_refl _) pass0 (pa_cons (pv 1) (pa_cons pe_int pa_nil))))) (pss_cons (ps_if (pt_cmpR (op_eqK G.K rfl hr.units) (pe_cal C__law_take hr (by first | decide | exact Nat.le_refl _) pass0 (pa_cons (pv 1) (pa_cons pe_int pa_nil))) pe_int (nomark _)) (pss_one (ps_set (i := 2) sc_law.nd rfl (by first | exact Or.inl rfl | exact Or.inr rfl) pe_int)) pss_nil) (pss_cons (ps_set (i := 3) sc_law.nd rfl (by first | exact Or.inl rfl | exact Or.inr rfl) (pe_lc (own := [("k", 4)]) (g := gName 4) (tt := tYes) rfl sc_law.nd (pi_range1 (by rfl) T.b_range (pa_cons (pe_op op_addA pe_int (pe_cal C__law_take hr (by first | decide | exact Nat.le_refl _) pass0 (pa_cons (pv 1) (pa_cons (pv 2) pa_nil)))) pa_nil)) (blkOk_by (by first | decide +kernel | kernel_rfl)) (fun _ _ _ _ _ => pg_name (i := 4) sc_law.nd rfl (by first | exact Or.inl rfl | exact Or.inr rfl)) (fun _ _ _ _ _ => pts_nil) (fun _ _ _ _ _ => (pe_cal C__law_number hr (by first | decide | exact Nat.le_refl _) pass0 (pa_cons (pv 1) pa_nil))))) (pss_cons (ps_setLc (i := 5) (own := [("k", 4)]) (g := gName 4) (tt := tYes) rfl sc_law.nd rfl rfl (sw_true rfl rfl rfl (by decide +kernel)) (pi_range1 (by rfl) T.b_range (pa_cons (pv 2) pa_nil)) (blkOk_by (by first | decide +kernel | kernel_rfl)) (fun _ _ _ _ _ => pg_name (i := 4) sc_law.nd rfl (by first | exact Or.inl rfl | exact Or.inr rfl)) (fun _ _ _ _ _ => pts_nil) (fun _ _ _ _ _ => (pe_ix (ix_seqK G.K rfl) (pv 3) (pe_cal C__law_take hr (by first | decide | exact Nat.le_refl _) pass0 (pa_cons (pv 1) (pa_cons (pe_callB (call_lenK G.K rfl) (by rfl) T.b_len PySem.boot_len (pa_cons (pv 3) pa_nil)) pa_nil))) (fun _ _ => rfl)))) (pss_cons (ps_set (i := 6) sc_law.nd rfl (by first | exact Or.inl rfl | exact Or.inr rfl) (pe_cal C__law_low hr (by first | decide | exact Nat.le_refl _) pass0 (pa_cons (pv 5) pa_nil))) (pss_cons (ps_set (i := 7) sc_law.nd rfl (by first | exact Or.inl rfl | exact Or.inr rfl) (pe_cal C__law_take hr (by first | decide | exact Nat.le_refl _) pass0 (pa_cons (pv 1) (pa_cons (pv 2) pa_nil)))) (pss_cons (ps_set (i := 8) sc_law.nd rfl (by first | exact Or.inl rfl | exact Or.inr rfl) (pe_callTy (call_listK G.K rfl) (by rfl) T.b_list (by decide +kernel) (pa_cons (pv 6) pa_nil))) (pss_cons (ps_asg (pe_cal C__law_take hr (by first | decide | exact Nat.le_refl _) pass0 (pa_cons (pv 1) (pa_cons (pe_op op_addA (pv 2) pe_int) pa_nil))) (pg_sub (pv 8) (pv 7) set_list)) (pss_cons (ps_set (i := 9) sc_law.nd rfl (by first | exact Or.inl rfl | exact Or.inr rfl) (pe_cal C__law_take hr (by first | decide | exact Nat.le_refl _) pass0 (pa_cons (pv 1) (pa_cons pe_int pa_nil)))) (pss_cons (ps_setLc (i := 10) (own := [("mark", 11)]) (g := gName 11) (tt := tYes) rfl sc_law.nd rfl rfl (sw_true rfl rfl rfl (by decide +kernel)) (pi_listK G.K rfl (pv 6)) (blkOk_by (by first | decide +kernel | kernel_rfl)) (fun _ _ _ _ _ => pg_name (i := 11) sc_law.nd rfl (by first | exact Or.inl rfl | exact Or.inr rfl)) (fun _ _ _ _ _ => pts_nil) (fun _ _ _ _ _ => (pe_op op_subA (pv 9) (pe_op op_mulA pe_int (pv 11))))) (pss_cons (ps_set (i := 12) sc_law.nd rfl (by first | exact Or.inl rfl | exact Or.inr rfl) (pe_op op_addA (pv 6) (pe_lst (pa_cons (pe_cal C__law_take hr (by first | decide | exact Nat.le_refl _) pass0 (pa_cons (pv 1) (pa_cons (pe_op op_addA (pv 2) pe_int) pa_nil))) pa_nil)))) (pss_cons (ps_if (PW.pt (pw_or (pt_cmpR (op_eqK G.K rfl hr.units) (pv 2) pe_int (nomark _)) (pw_or1 (PW.pt (pw_and (pt_cmpR op_gtA (pv 2) pe_int (nomark _)) (pw_and1 (pt_cmpR op_ltA (pv 9) pe_int (nomark _)))))))) (pss_one (ps_set (i := 12) sc_law.nd rfl (by first | exact Or.inl rfl | exact Or.inr rfl) (pe_slice (sl_listK G.K rfl) (pv 6) (po_some pe_int) po_none))) pss_nil) (pss_cons (ps_set (i := 13) sc_law.nd rfl (by first | exact Or.inl rfl | exact Or.inr rfl) (pe_callTy (call_listK G.K rfl) (by rfl) T.b_list (by decide +kernel) (pa_cons (pv 5) pa_nil))) (pss_cons (ps_set (i := 14) sc_law.nd rfl (by first | exact Or.inl rfl | exact Or.inr rfl) (pe_calC C_Split hr (by first | decide | exact Nat.le_refl _) L2.passL (pa_cons (pv 13) pa_nil))) (pss_cons (ps_if (PW.pt (pw_or (pt_not (pt_val (pe_cal C__law_same hr (by first | decide | exact Nat.le_refl _) pass0 (pa_cons (pv 13) (pa_cons (pv 5) pa_nil))))) (pw_or1 (pt_not (pt_val (pe_cal C__law_same hr (by first | decide | exact Nat.le_refl _) pass0 (pa_cons (pe_cal C__law_shown hr (by first | decide | exact Nat.le_refl _) pass0 (pa_cons (pv 14) (pa_cons (pv 2) pa_nil))) (pa_cons (pe_cal C__law_due hr (by first | decide | exact Nat.le_refl _) pass0 (pa_cons (pv 6) pa_nil)) pa_nil)))))))) (pss_one (ps_ret pe_bl)) pss_nil) (pss_cons (ps_asg (pe_ix (ix_seqK G.K rfl) (pv 5) (pe_op op_modA (pe_op op_addA (pv 7) pe_int) (pv 2)) (fun _ _ => rfl)) (pg_sub (pv 13) (pv 7) set_list)) (pss_cons (ps_expr (pe_bm0K G.K rfl PySem.F.plainAttrs_list PySem.F.slot_list_reverse PySem.F.type_list_reverse mt_reverse (pv 13))) (pss_cons (ps_expr (pe_bmK G.K rfl PySem.F.plainAttrs_list PySem.F.slot_list_append PySem.F.type_list_append mt_append (pv 13) (pa_cons pe_int pa_nil))) (pss_cons (ps_set (i := 15) sc_law.nd rfl (by first | exact Or.inl rfl | exact Or.inr rfl) (pe_calC C_Split hr (by first | decide | exact Nat.le_refl _) L2.passL (pa_cons (pe_callTy (call_listK G.K rfl) (by rfl) T.b_list (by decide +kernel) (pa_cons (pv 8) pa_nil)) pa_nil))) (pss_cons (ps_if (pt_not (pt_val (pe_cal C__law_same hr (by first | decide | exact Nat.le_refl _) pass0 (pa_cons (pe_cal C__law_shown hr (by first | decide | exact Nat.le_refl _) pass0 (pa_cons (pv 14) (pa_cons (pv 2) pa_nil))) (pa_cons (pe_cal C__law_due hr (by first | decide | exact Nat.le_refl _) pass0 (pa_cons (pv 6) pa_nil)) pa_nil))))) (pss_one (ps_ret pe_bl)) pss_nil) (pss_cons (ps_expr (pe_cal C__law_spoil hr (by first | decide | exact Nat.le_refl _) pass0 (pa_cons (pv 14) (pa_cons (pv 7) pa_nil)))) (pss_cons (ps_if (pt_not (pt_val (pe_cal C__law_refused hr (by first | decide | exact Nat.le_refl _) pass0 (pa_cons (pv 1) (pa_cons (pv 14) (pa_cons (pv 2) pa_nil)))))) (pss_one (ps_ret pe_bl)) pss_nil) (pss_cons (ps_if (pt_not (pt_val (pe_cal C__law_equal hr (by first | decide | exact Nat.le_refl _) pass0 (pa_cons (pv 14) (pa_cons (pv 6) (pa_cons (pe_lst (pa_cons (pv 10) (pa_cons (pv 8) (pa_cons (pv 12) (pa_cons (pv 5) pa_nil))))) pa_nil)))))) (pss_one (ps_ret pe_bl)) pss_nil) (pss_cons (ps_if (pt_not (pt_val (pe_cal C__law_same hr (by first | decide | exact Nat.le_refl _) pass0 (pa_cons (pe_cal C__law_shown hr (by first | decide | exact Nat.le_refl _) pass0 (pa_cons (pv 15) (pa_cons (pv 2) pa_nil))) (pa_cons (pe_cal C__law_due hr (by first | decide | exact Nat.le_refl _) pass0 (pa_cons (pe_cal C__law_low hr (by first | decide | exact Nat.le_refl _) pass0 (pa_cons (pv 8) pa_nil)) pa_nil)) pa_nil))))) (pss_one (ps_ret pe_bl)) pss_nil) (pss_one (ps_ret (pe_cal C__law_same hr (by first | decide | exact Nat.le_refl _) pass0 (pa_cons (pe_cal C__law_shown hr (by first | decide | exact Nat.le_refl _) pass0 (pa_cons (pv 14) (pa_cons (pv 2) pa_nil))) (pa_cons (pe_cal C__law_due hr (by first | decide | exact Nat.le_refl _) pass0 (pa_cons (pv 6) pa_nil)) pa_nil)))))))))))))))))))))))))))))), ?_⟩
  rintro Ex es o ⟨l, rfl, rfl⟩
  show S G _ _ [some (fr G (.rol (dI l))), none, none, none, none, none, none, none, none, none, none, none, none, none, none, none] _
  let S0 : Option Ent := some (fr G (.rol (dI l)))
  refine q_asgO (eo_call (Fn := fn_start G) (ea_cons (ef_var rfl) ea_nil) ⟨l, rfl, rfl⟩) ?_
  refine s_open (i := 1) (ψ := fun p => bagA G p (bag0 4959 l)) rfl fun p => ?_
  show S G _ _ [S0, some (bagA G p (bag0 4959 l)), none, none, none, none, none, none, none, none, none, none, none, none, none, none] _
  generalize bag0 4959 l = b
  refine q_asg (ef_op ef_int (ef_takeC (i := 1) (m := 12) (by decide) (by decide +kernel) rfl) a_addI) ?_
  have h12 := b.dig_lt (m := 12) (by decide)
  obtain ⟨n0, hn0⟩ := Int.eq_ofNat_of_zero_le (show 0 ≤ 1 + b.dig 12 by omega)
  show S G _ _ [S0, some (bagA G p (b.nxt 12)), some (fr G (.int (1 + b.dig 12))), none, none, none, none, none, none, none, none, none, none, none, none, none] _
  rw [hn0]
  have hn1 : 1 ≤ n0 ∧ n0 ≤ 12 := by omega
  clear hn0 h12
  generalize b.nxt 12 = b
  refine q_mid (fun e => ∃ (n : Nat) (b : Bag), (1 ≤ n ∧ n ≤ 12) ∧ e = [S0, some (bagA G p b), some (fr G (.int (n : Int))), none, none, none, none, none, none, none, none, none, none, none, none, none]) ?_ ?_
  · refine s_if (et_test (ef_op (ef_takeC (i := 1) (m := 6) (by decide) (by decide +kernel) rfl) ef_int a_eqI)) (fun _ => s_asg (d := .int ((12 : Nat) : Int)) ef_int ⟨12, _, by omega, rfl⟩) fun _ => s_next ⟨n0, _, hn1, rfl⟩
  rintro e ⟨n, b, hn, rfl⟩
  clear hn1
  have hp : 0 < (n : Int) := by omega
  have hlg : ((n : Nat) : Int).natAbs.log2 < 9000 := Nat.lt_trans (few_log (by omega)) (by decide)
  have hlg1 : ((n : Nat) + 1 : Int).natAbs.log2 < 9000 := Nat.lt_trans (few_log (n := n + 1) (by omega)) (by decide)
  -- the pool
  have hd := b.dig_lt hp
  obtain ⟨q, hq⟩ := Int.eq_ofNat_of_zero_le (show 0 ≤ 1 + b.dig n by omega)
  have hq1 : 1 ≤ q ∧ q ≤ 12 := by omega
  have h4 := eo_lcR (G := G) (n := ((q : Nat) : Int)) (j := 4) (tas := tCons (tOp rAddA (tC (.int 1)) (tCall (spOf G (fn_take G) 2) [] E0 (tCons (tVar 1) (tCons (tVar 2) tNil)))) tNil) (tt := tYes) (te := tCall (spOf G (fn_number G) 1) [] E0 (tCons (tVar 1) tNil))
    (es := [S0, some (bagA G p b), some (fr G (.int (n : Int))), none, none, none, none, none, none, none, none, none, none, none, none, none])
    (fun i => [S0, some (bagA G p (itN i (b.nxt n))), some (fr G (.int (n : Int))), none, none, none, none, none, none, none, none, none, none, none, none, none]) (fun _ => true) (fun i => .int (numF (itN i (b.nxt n))).1)
    (ea_cons ((ef_op ef_int (ef_take (i := 1) hp hlg rfl (ea_cons (ef_var rfl) ea_nil) rfl) a_addI).to (by rw [hq])) ea_nil) (by omega) (by omega) rfl
    fun i hi => ⟨rfl, et_yes, fun _ => ⟨ef_callO (Fn := fn_number G) (i := 1) (ds := []) rfl ea_nil rfl use_number fixed_bagA fixed_bagA, rfl⟩, fun z => by cases z⟩
  rw [dI_ofR] at h4
  refine q_asg (ef_lst h4) ?_
  rw [Int.toNat_natCast]
  generalize hpl : (List.range q).map (fun i => (numF (itN i (b.nxt n))).1) = pl
  have hpl2 : pl.length = q := by rw [← hpl, List.length_map, List.length_range]
  show S G _ _ [S0, some (bagA G p (itN q (b.nxt n))), some (fr G (.int (n : Int))), some (fr G (.lst (dI pl))), none, none, none, none, none, none, none, none, none, none, none, none] _
  generalize itN q (b.nxt n) = b
  have hpp : 0 < (pl.length : Int) := by omega
  have hpl3 : ((pl.length : Nat) : Int).natAbs.log2 < 9000 := Nat.lt_trans (few_log (by omega)) (by decide)
  -- the marks
  have h5 := eo_lcR (G := G) (n := ((n : Nat) : Int)) (j := 4) (tas := tCons (tVar 2) tNil) (tt := tYes) (te := tOp (rIx G.K) (tVar 3) (tCall (spOf G (fn_take G) 2) [] E0 (tCons (tVar 1) (tCons (tCB (rLenA G.K) (tCons (tVar 3) tNil)) tNil))))
    (es := [S0, some (bagA G p b), some (fr G (.int (n : Int))), some (fr G (.lst (dI pl))), none, none, none, none, none, none, none, none, none, none, none, none])
    (fun i => [S0, some (bagA G p (itT pl.length i b)), some (fr G (.int (n : Int))), some (fr G (.lst (dI pl))), none, none, none, none, none, none, none, none, none, none, none, none]) (fun _ => true) (fun i => .int (gi pl ((itT pl.length i b).dig pl.length)))
    (ea_cons (ef_var rfl) ea_nil) (by omega) (by omega) rfl
    fun i hi => ⟨rfl, et_yes, fun _ => ⟨ef_op (ef_var rfl) (ef_take (i := 1) hpp hpl3 rfl (ea_cons (ef_cb (ea_cons (ef_var rfl) ea_nil) a_lenI) ea_nil) rfl) (a_ixI (Bag.dig_lt _ hpp).1 (Bag.dig_lt _ hpp).2), rfl⟩, fun z => by cases z⟩
  rw [dI_ofR] at h5
  refine q_asg (ef_lst h5) ?_
  rw [Int.toNat_natCast]
  generalize hmk : (List.range n).map (fun i => gi pl ((itT pl.length i b).dig pl.length)) = mk
  have hmk2 : mk.length = n := by rw [← hmk, List.length_map, List.length_range]
  show S G _ _ [S0, some (bagA G p (itT pl.length n b)), some (fr G (.int (n : Int))), some (fr G (.lst (dI pl))), none, some (fr G (.lst (dI mk))), none, none, none, none, none, none, none, none, none, none] _
  generalize itT pl.length n b = b
  have fmk : Few mk := by unfold Few; omega
  refine q_asg (ef_lst (eo_call (ea_cons (ef_var rfl) ea_nil) (use_low (l := mk) (by omega)))) ?_
  have hm0 : (lowI mk).getD 0 0 = 0 := lowI_zero (by omega)
  have hm2 : (lowI mk).length = n := by rw [lowI_len]; exact hmk2
  have hmake := fun (es : Es) (h : es[13]? = some (some (lst G (dI mk)))) => (ef_makeB (G := G) (E := fun _ _ _ => False) (Ci := A.Split) (nsi := fsS) (i := 13) h (use_init (A := A) fmk) ⟨by simp [LF], ⟨by unfold LF; exact lfs_ints _, trivial⟩⟩).to (spD_low mk)
  generalize hm : lowI mk = m at hm0 hm2 hmake
  show S G _ _ [S0, some (bagA G p b), some (fr G (.int (n : Int))), some (fr G (.lst (dI pl))), none, some (fr G (.lst (dI mk))), some (fr G (.lst (dI m))), none, none, none, none, none, none, none, none, none] _
  -- the place
  refine q_asg (ef_take (i := 1) hp hlg rfl (ea_cons (ef_var rfl) ea_nil) rfl) ?_
  have hpl4 := b.dig_lt hp
  obtain ⟨k, hk⟩ := Int.eq_ofNat_of_zero_le hpl4.1
  rw [hk] at hpl4
  show S G _ _ [S0, some (bagA G p (b.nxt n)), some (fr G (.int (n : Int))), some (fr G (.lst (dI pl))), none, some (fr G (.lst (dI mk))), some (fr G (.lst (dI m))), some (fr G (.int (b.dig n))), none, none, none, none, none, none, none, none] _
  rw [hk]
  clear hk
  generalize b.nxt n = b
  have hkn : k < n := by omega
  refine q_asgO (eo_cb (ea_cons (ef_var rfl) ea_nil) a_listL) ?_
  refine s_seq (s_setO (i := 8) (n := k) (ef_take (i := 1) (m := (n : Int) + 1) (by omega) hlg1 rfl (ea_cons (ef_op (ef_var rfl) ef_int a_addI) ea_nil) rfl) rfl (ef_var rfl) (by rw [dI_len]; omega) ?_)
  rw [dI_set]
  refine s_freeze (i := 8) rfl ?_
  generalize hbt : m.set k (b.dig ((n : Int) + 1)) = bt
  have hbt2 : bt.length = n := by rw [← hbt, List.length_set]; exact hm2
  have fbt : Few bt := by unfold Few; omega
  show S G _ _ [S0, some (bagA G p (b.nxt ((n : Int) + 1))), some (fr G (.int (n : Int))), some (fr G (.lst (dI pl))), none, some (fr G (.lst (dI mk))), some (fr G (.lst (dI m))), some (fr G (.int (k : Int))), some (fr G (.lst (dI bt))), none, none, none, none, none, none, none] _
  generalize b.nxt ((n : Int) + 1) = b
  refine q_asg (ef_takeC (i := 1) (m := 50) (by decide) (by decide +kernel) rfl) ?_
  generalize hbs : b.dig 50 = bs
  show S G _ _ [S0, some (bagA G p (b.nxt 50)), some (fr G (.int (n : Int))), some (fr G (.lst (dI pl))), none, some (fr G (.lst (dI mk))), some (fr G (.lst (dI m))), some (fr G (.int (k : Int))), some (fr G (.lst (dI bt))), some (fr G (.int bs)), none, none, none, none, none, none] _
  generalize b.nxt 50 = b
  have h10 := lc_Im (G := G) (j := 11) (tl := tVar 6) (te := tOp rSub' (tVar 9) (tOp rMulA (tC (.int 3)) (tVar 11))) (l := m) (es := [S0, some (bagA G p b), some (fr G (.int (n : Int))), some (fr G (.lst (dI pl))), none, some (fr G (.lst (dI mk))), some (fr G (.lst (dI m))), some (fr G (.int (k : Int))), some (fr G (.lst (dI bt))), some (fr G (.int bs)), none, none, none, none, none, none])
    (fun x => .int (bs - 3 * x)) (ef_var rfl) (by omega) rfl fun x _ => ef_op (ef_var rfl) (ef_op ef_int (ef_var rfl) (a_mulC (cmul_l (by decide)))) a_sub
  rw [dI_map] at h10
  refine q_asg (ef_lst h10) ?_
  generalize hnm : m.map (fun x => bs - 3 * x) = nm
  have hnm2 : nm.length = n := by rw [← hnm, List.length_map]; exact hm2
  have fnm : Few nm := by unfold Few; omega
  show S G _ _ [S0, some (bagA G p b), some (fr G (.int (n : Int))), some (fr G (.lst (dI pl))), none, some (fr G (.lst (dI mk))), some (fr G (.lst (dI m))), some (fr G (.int (k : Int))), some (fr G (.lst (dI bt))), some (fr G (.int bs)), some (fr G (.lst (dI nm))), none, none, none, none, none] _
  refine q_asg (ef_lst (eo_op (ef_var rfl) (ef_lst (eo_lst (ea_cons (ef_take (i := 1) (m := (n : Int) + 1) (by omega) hlg1 rfl (ea_cons (ef_op (ef_var rfl) ef_int a_addI) ea_nil) rfl) ea_nil))) (a_cat (by rw [dI_len]; simp; omega)))) ?_
  rw [dI_one, dI_app]
  generalize hsz : m ++ [b.dig ((n : Int) + 1)] = sz0
  have hsz2 : sz0.length = n + 1 := by rw [← hsz, List.length_append, hm2]; rfl
  show S G _ _ [S0, some (bagA G p (b.nxt ((n : Int) + 1))), some (fr G (.int (n : Int))), some (fr G (.lst (dI pl))), none, some (fr G (.lst (dI mk))), some (fr G (.lst (dI m))), some (fr G (.int (k : Int))), some (fr G (.lst (dI bt))), some (fr G (.int bs)), some (fr G (.lst (dI nm))), none, some (fr G (.lst (dI sz0))), none, none, none] _
  generalize b.nxt ((n : Int) + 1) = b
  refine q_mid (fun e => ∃ sz : List Int, Few sz ∧ e = [S0, some (bagA G p b), some (fr G (.int (n : Int))), some (fr G (.lst (dI pl))), none, some (fr G (.lst (dI mk))), some (fr G (.lst (dI m))), some (fr G (.int (k : Int))), some (fr G (.lst (dI bt))), some (fr G (.int bs)), some (fr G (.lst (dI nm))), none, some (fr G (.lst (dI sz))), none, none, none]) ?_ ?_
  · refine s_if (et_or (et_test (ef_op (ef_var rfl) ef_int a_eqI)) fun _ => et_and (et_test (ef_op (ef_var rfl) ef_int a_gt)) fun _ => et_test (ef_op (ef_var rfl) ef_int a_lt)) (fun h => ?_) fun h => s_next ⟨sz0, ?_, rfl⟩
    · refine s_asg (ef_lst (eo_sliceL (ef_var rfl) (epo_some (n := 1) ef_int) epo_none)) ⟨cutD m (some 1) none, ?_, by rw [cut_dI]; rfl⟩
      have e1 : (cutD m (some 1) none).length = n - 1 := by
        unfold DL.cutD
        rw [show (1 : Int) = ((1 : Nat) : Int) from rfl, HT.sIx_nat, HT.sIx_none, List.length_take, List.length_drop, hm2]
        omega
      have : 1 < n := by
        simp at h
        omega
      unfold Few
      omega
    · have : n < 12 := by
        simp at h
        omega
      unfold Few
      omega
  rintro e ⟨sz, fsz, rfl⟩
  refine q_asgO (eo_cb (ea_cons (ef_var rfl) ea_nil) a_listL) ?_
  show S G _ _ [S0, some (bagA G p b), some (fr G (.int (n : Int))), some (fr G (.lst (dI pl))), none, some (fr G (.lst (dI mk))), some (fr G (.lst (dI m))), some (fr G (.int (k : Int))), some (fr G (.lst (dI bt))), some (fr G (.int bs)), some (fr G (.lst (dI nm))), none, some (fr G (.lst (dI sz))), some (lst G (dI mk)), none, none] _
  refine q_asg (hmake _ rfl) ?_
  show S G _ _ [S0, some (bagA G p b), some (fr G (.int (n : Int))), some (fr G (.lst (dI pl))), none, some (fr G (.lst (dI mk))), some (fr G (.lst (dI m))), some (fr G (.int (k : Int))), some (fr G (.lst (dI bt))), some (fr G (.int bs)), some (fr G (.lst (dI nm))), none, some (fr G (.lst (dI sz))), some (lst G (dI mk)), some (fr G (spD A m)), none] _
  have shown : ∀ (es : Es) (i : Nat) (x : List Int), x.length = n → es[i]? = some (some (fr G (spD A x))) → es[2]? = some (some (fr G (.int (n : Int)))) → EF G (tCall (spOf G (fn_shown G A) 2) [] E0 (tCons (tVar i) (tCons (tVar 2) tNil))) es (.lst (dueL x)) es := fun es i x hx h1 h2 => by
    have h2' : es[2]? = some (some (fr G (.int (x.length : Int)))) := by rw [hx]; exact h2
    exact ef_lst (eo_call (ea_cons (ef_var h1) (ea_cons (ef_var h2') ea_nil)) (use_shown (by omega)))
  have both : ∀ (es : Es), es[14]? = some (some (fr G (spD A m))) → es[2]? = some (some (fr G (.int (n : Int)))) → es[6]? = some (some (fr G (.lst (dI m)))) →
      EF G (tCall (spOf G (fn_same G 4) 2) [] E0 (tCons (tCall (spOf G (fn_shown G A) 2) [] E0 (tCons (tVar 14) (tCons (tVar 2) tNil))) (tCons (tCall (spOf G (fn_due G) 1) [] E0 (tCons (tVar 6) tNil)) tNil))) es (.bl true) es := fun es h1 h2 h3 =>
    ef_call (Fn := fn_same G 4) (ds := [.lst (dueL m), .lst (dueL m)]) (ea_cons (shown es 14 m hm2 h1 h2) (ea_cons (ef_lst (eo_call (ea_cons (ef_var h3) ea_nil) (use_due (by omega)))) ea_nil)) (use_same (okS_due (by omega)))
  refine q_when (b := !true || !true) (et_or (et_not (et_B (ef_callB (Fn := fn_same G 4) (i := 13) (xs := dI mk) (ds := [.lst (dI mk)]) rfl (ea_cons (ef_var rfl) ea_nil) (use_same (okS_ints (n := 2) (by omega))) (by simp [LF])))) fun _ => et_not (et_B (both _ rfl rfl rfl))) (fun z => by cases z) fun _ => ?_
  show S G _ _ [S0, some (bagA G p b), some (fr G (.int (n : Int))), some (fr G (.lst (dI pl))), none, some (fr G (.lst (dI mk))), some (fr G (.lst (dI m))), some (fr G (.int (k : Int))), some (fr G (.lst (dI bt))), some (fr G (.int bs)), some (fr G (.lst (dI nm))), none, some (fr G (.lst (dI sz))), some (lst G (dI mk)), some (fr G (spD A m)), none] _
  refine s_seq (s_setO (i := 13) (n := k) (ef_op (ef_var rfl) (ef_op (ef_op (ef_var rfl) ef_int a_addI) (ef_var rfl) (a_mod hp)) (a_ixI (Int.emod_nonneg _ (by omega)) (by rw [hmk2]; exact Int.emod_lt_of_pos _ hp))) rfl (ef_var rfl) (by rw [dI_len]; omega) ?_)
  refine q_drop (ef_bmO0 (i := 13) rfl ml_reverse) ?_
  refine q_drop (ef_bmO (i := 13) (ea_cons ef_int ea_nil) rfl rfl (ml_append (by rw [List.length_reverse, List.length_set, dI_len]; omega))) ?_
  refine s_forget 13 ?_
  show S G _ _ [S0, some (bagA G p b), some (fr G (.int (n : Int))), some (fr G (.lst (dI pl))), none, some (fr G (.lst (dI mk))), some (fr G (.lst (dI m))), some (fr G (.int (k : Int))), some (fr G (.lst (dI bt))), some (fr G (.int bs)), some (fr G (.lst (dI nm))), none, some (fr G (.lst (dI sz))), none, some (fr G (spD A m)), none] _
  refine q_asg ((ef_make (ea_cons (ef_lst (eo_cb (ea_cons (ef_var rfl) ea_nil) a_listL)) ea_nil) (use_init fbt)).to (spD_low bt)) ?_
  show S G _ _ [S0, some (bagA G p b), some (fr G (.int (n : Int))), some (fr G (.lst (dI pl))), none, some (fr G (.lst (dI mk))), some (fr G (.lst (dI m))), some (fr G (.int (k : Int))), some (fr G (.lst (dI bt))), some (fr G (.int bs)), some (fr G (.lst (dI nm))), none, some (fr G (.lst (dI sz))), none, some (fr G (spD A m)), some (fr G (spD A (lowI bt)))] _
  refine q_when (b := !true) (et_not (et_B (both _ rfl rfl rfl))) (fun z => by cases z) fun _ => ?_
  refine q_drop (ef_call (Fn := fn_spoil G A) (ds := [spD A m, .int (k : Int)]) (z := .non) (ea_cons (ef_var rfl) (ea_cons (ef_var rfl) ea_nil)) ⟨m, k, by omega, by omega, hm0, rfl, rfl⟩) ?_
  have fm : Few m := by unfold Few; omega
  have refused : ∀ (es : Es), es[1]? = some (some (bagA G p b)) → es[14]? = some (some (fr G (spD A m))) → es[2]? = some (some (fr G (.int (n : Int)))) →
      EF G (tCall (spOf G (fn_refused G A) 3) [] E0 (tCons (tVar 1) (tCons (tVar 14) (tCons (tVar 2) tNil)))) es (.bl true) (es.set 1 (some (bagA G p (refB b m.length)))) := fun es h1 h2 h3 => by
    have h3' : es[2]? = some (some (fr G (.int (m.length : Int)))) := by rw [hm2]; exact h3
    exact ef_callO (Fn := fn_refused G A) (i := 1) (ds := [spD A m, .int m.length]) h1 (ea_cons (ef_var h2) (ea_cons (ef_var h3') ea_nil)) h1 ⟨p, b, m, fm, rfl, rfl⟩ fixed_bagA fixed_bagA
  refine q_when (b := !true) (et_not (et_B (refused _ rfl rfl rfl))) (fun z => by cases z) fun _ => ?_
  show S G _ _ [S0, some (bagA G p (refB b m.length)), some (fr G (.int (n : Int))), some (fr G (.lst (dI pl))), none, some (fr G (.lst (dI mk))), some (fr G (.lst (dI m))), some (fr G (.int (k : Int))), some (fr G (.lst (dI bt))), some (fr G (.int bs)), some (fr G (.lst (dI nm))), none, some (fr G (.lst (dI sz))), none, some (fr G (spD A m)), some (fr G (spD A (lowI bt)))] _
  refine q_when (b := !true) (et_not (et_B (ef_call (Fn := fn_equal G A) (ds := [spD A m, .lst (dI m), .lst ([nm, bt, sz, mk].map fun l => .lst (dI l))]) (ea_cons (ef_var rfl) (ea_cons (ef_var rfl) (ea_cons (ef_lst (eo_lst (ea_cons (ef_var rfl) (ea_cons (ef_var rfl) (ea_cons (ef_var rfl) (ea_cons (ef_var rfl) ea_nil)))) (by show 4 ≤ 100000; decide))) ea_nil)))
    ⟨m, [nm, bt, sz, mk], fm, by simp, fun l hl => by
      simp only [List.mem_cons, List.not_mem_nil, or_false] at hl
      rcases hl with rfl | rfl | rfl | rfl
      · exact fnm
      · exact fbt
      · exact fsz
      · exact fmk, rfl, rfl⟩))) (fun z => by cases z) fun _ => ?_
  have lb : (lowI bt).length = n := by rw [lowI_len]; exact hbt2
  refine q_when (b := !true) (et_not (et_B (ef_call (Fn := fn_same G 4) (ds := [.lst (dueL (lowI bt)), .lst (dueL (lowI bt))]) (ea_cons (shown _ 15 (lowI bt) lb rfl rfl) (ea_cons (ef_lst (eo_call (ea_cons (ef_lst (eo_call (ea_cons (ef_var rfl) ea_nil) (use_low (l := bt) (by omega)))) ea_nil) (use_due (by omega)))) ea_nil)) (use_same (okS_due (by omega)))))) (fun z => by cases z) fun _ => ?_
  exact s_ret (both _ rfl rfl rfl) ⟨rfl, back_frs⟩
end
end K

namespace K
open PySem L2 PySem.Spec PyProof.Rows DL
section
variable {P : Program} {w : World} {G : Ct} {mg : Str → Option Value} {base : Heap} {A : Ad}
/-! ### the errors -/
abbrev st_BadSize___init : Stmt := inClass (top 3) 0
abbrev st_UnknownCase___init : Stmt := inClass (top 4) 0
theorem xcal_size {fI cc cda : Addr} {fd : FuncData} (T : XInit P G.K mg A.BadSize fI cc cda "BadSize.__init__" (defArgs st_BadSize___init) (defBody st_BadSize___init) (defScope st_BadSize___init) fd) (hx : mg "BadSize" = some (.ref A.BadSize)) (hf : PySem.W.findIn G.K (.ref A.BadSize) "size" = some none) : XCal P w G.K mg base "BadSize" A.BadSize ["size"] := by
  refine ⟨fI, fd, hx, T.oex, T.iC, T.tI, ?_, ?_⟩
  · obtain ⟨oc, od, kV, doc, pm, ct, an, osl, _, rfl⟩ := T.fn
    exact .all fun us hl => match us, hl with | [_, _], _ => rfl
  · refine xi1 (f := "size") T (NdefX.nscope_by (by decide +kernel)) rfl rfl rfl hf (by decide) (by decide) (fun A' outer s H E => pe_joined (.cons pe_str (.cons (pe_fmt (pv 1)) (.cons pe_str .nil)))) fun σ H v hv ha Q k => js_ok (fun t ht => ?_) (by decide) fun out => k out
    simp only [List.mem_cons, List.not_mem_nil, or_false] at ht
    rcases ht with rfl | rfl | rfl
    · exact gs_c (by decide)
    · exact gs_fmt hv ha
    · exact gs_c (by decide)
theorem xcal_case {fI cc cda : Addr} {fd : FuncData} (T : XInit P G.K mg A.UnknownCase fI cc cda "UnknownCase.__init__" (defArgs st_UnknownCase___init) (defBody st_UnknownCase___init) (defScope st_UnknownCase___init) fd) (hx : mg "UnknownCase" = some (.ref A.UnknownCase)) (hf : PySem.W.findIn G.K (.ref A.UnknownCase) "case" = some none) : XCal P w G.K mg base "UnknownCase" A.UnknownCase ["case"] := by
  refine ⟨fI, fd, hx, T.oex, T.iC, T.tI, ?_, ?_⟩
  · obtain ⟨oc, od, kV, doc, pm, ct, an, osl, _, rfl⟩ := T.fn
    exact .all fun us hl => match us, hl with | [_, _], _ => rfl
  · refine xi1 (f := "case") T (NdefX.nscope_by (by decide +kernel)) rfl rfl rfl hf (by decide) (by decide) (fun A' outer s H E => pe_joined (.cons pe_str (.cons (pe_fmt (pv 1)) .nil))) fun σ H v hv ha Q k => js_ok (fun t ht => ?_) (by decide) fun out => k out
    simp only [List.mem_cons, List.not_mem_nil, or_false] at ht
    rcases ht with rfl | rfl
    · exact gs_c (by decide)
    · exact gs_fmt hv ha
/-! ### the beginning -/
theorem law_starts {K : PySem.W.Frag} {T : List (Addr × Str)} {H : Hp} {a : Addr} {ns : List Int} (hS : SqL K H a (ns.map V.int)) (ht : ∀ p ∈ T, H p.1 = some (.tbl #[])) : spOf ⟨K, TabMap T⟩ (fn_law ⟨K, TabMap T⟩) 1 [.ref a] H (fun v _ => v = .bl true) fun _ _ _ => False := by
  have tb : NdefX.TabsN (TabMap T) H := tabs_to fun p hp => LamX.TabS.nil (ht p hp)
  have go : ∀ W : Hp, Same W H → NT W → SqL K W a (ns.map V.int) → spOf ⟨K, TabMap T⟩ (fn_law ⟨K, TabMap T⟩) 1 [.ref a] H (fun v _ => v = .bl true) fun _ _ _ => False := fun W s nt hs => by
    have c : Cfg ⟨K, TabMap T⟩ W emp H [] [] := ⟨fun _ => emp, ⟨fun i φ e => by simp at e, fun _ _ _ => dis_emp, fun _ => dis_emp, fun _ => dis_emp, dis_emp, s, same_emp, fun _ => same_emp, tb, ⟨nt, nt_emp, fun _ => nt_emp⟩, rfl⟩⟩
    exact ⟨W, emp, frs ⟨K, TabMap T⟩ [.rol (dI ns)], _, rfl, c.params (IsL.one (is_rol.mpr ⟨a, _, rfl, hs, isL_ints⟩)), ⟨ns, rfl, rfl⟩, fun v m W' H' _ _ hm _ => is_bl.mp hm.fr⟩
  rcases hS with (h | ⟨o, h⟩) | h
  · exact go (one a (.lst (ns.map V.int))) (same_one h) (nt_one fun ps z => by cases z) (.inl (.inl one_same))
  · exact go (one a (.frz o (.lst (ns.map V.int)))) (same_one h) (nt_one fun ps z => by cases z) (.inl (.inr ⟨o, one_same⟩))
  · exact go emp same_emp nt_emp (.inr h)
end
end K

namespace K
open PySem L2 PySem.Spec PyProof.Rows DL
theorem all_mk {l : PySem.W.OpenLaw} {w : World} {K : PySem.W.Frag} {h : Heap} {mg : Str → Option Value} {fa : Addr} (X : K.In h) (G0 : h.Ns mainGlobals mg) (hfa : mg "law" = some (.ref fa))
    {cSplit cBadSize cUnknownCase cSizeMismatch cThinwallError cR pR f1 f2 f3 f4 f5 f6 f7 f8 f9 f10 f11 f12 f13 f14 f15 f16 f17 f30 f31 f32 f33 f34 f35 f36 nnBadSize fiBadSize ccBadSize caBadSize nnUnknownCase fiUnknownCase ccUnknownCase caUnknownCase : Addr} {od1 an1 od2 an2 od3 an3 od4 an4 od5 an5 od6 an6 od7 an7 od8 an8 od9 an9 od10 an10 od11 an11 od12 an12 od13 an13 od14 an14 od15 an15 od16 an16 od17 an17 od30 an30 od31 an31 od32 an32 od33 an33 od34 an34 od35 an35 od36 an36 ddBadSize odBadSize anBadSize cldBadSize cddBadSize ddUnknownCase odUnknownCase anUnknownCase cldUnknownCase cddUnknownCase dR : Option Addr} {sl1 sl2 sl3 sl4 sl5 sl6 sl7 sl8 sl9 sl10 sl11 sl12 sl13 sl14 sl15 sl16 sl17 sl30 sl31 sl32 sl33 sl34 sl35 sl36 slBadSize csBadSize ccsBadSize slUnknownCase csUnknownCase ccsUnknownCase sR : Array (Option Value)} {oc1 kV1 dc1 pm1 ct1 cd1 oc2 kV2 dc2 pm2 ct2 cd2 oc3 kV3 dc3 pm3 ct3 cd3 oc4 kV4 dc4 pm4 ct4 cd4 oc5 kV5 dc5 pm5 ct5 cd5 oc6 kV6 dc6 pm6 ct6 cd6 oc7 kV7 dc7 pm7 ct7 cd7 oc8 kV8 dc8 pm8 ct8 cd8 oc9 kV9 dc9 pm9 ct9 cd9 oc10 kV10 dc10 pm10 ct10 cd10 oc11 kV11 dc11 pm11 ct11 cd11 oc12 kV12 dc12 pm12 ct12 cd12 oc13 kV13 dc13 pm13 ct13 cd13 oc14 kV14 dc14 pm14 ct14 cd14 oc15 kV15 dc15 pm15 ct15 oc16 kV16 dc16 pm16 ct16 cd16 oc17 kV17 dc17 pm17 ct17 cd17 oc30 kV30 dc30 pm30 ct30 cd30 oc31 kV31 dc31 pm31 ct31 cd31 oc32 kV32 dc32 pm32 ct32 cd32 oc33 kV33 dc33 pm33 ct33 cd33 oc34 kV34 dc34 pm34 ct34 cd34 oc35 kV35 dc35 pm35 ct35 cd35 oc36 kV36 dc36 pm36 ct36 cd36 ocBadSize kVBadSize dcBadSize pmBadSize ctBadSize cellBadSize cclBadSize ocUnknownCase kVUnknownCase dcUnknownCase pmUnknownCase ctUnknownCase cellUnknownCase cclUnknownCase eR : Value} {tk0 tfBadSize tfUnknownCase : Tok}
    {nmBadSize qnBadSize flBadSize nmUnknownCase qnUnknownCase flUnknownCase : Str} {snBadSize : List Str} {bsBadSize : List Value} {sbBadSize : List Value} {vsBadSize : Array Value} {snUnknownCase : List Str} {bsUnknownCase : List Value} {sbUnknownCase : List Value} {vsUnknownCase : Array Value} {vR : Array Value} {abBadSize abUnknownCase : Bool} {clBadSize clUnknownCase : Option Bool} {m0BadSize m1BadSize m2BadSize m3BadSize m5BadSize m0UnknownCase m1UnknownCase m2UnknownCase m3UnknownCase m5UnknownCase : Option Value}
    (gThinwallError : PySem.W.nsIn K mainGlobals "ThinwallError" = some (some (.ref cThinwallError)))
    (gSizeMismatch : PySem.W.nsIn K mainGlobals "SizeMismatch" = some (some (.ref cSizeMismatch)))
    (gUnknownCase : PySem.W.nsIn K mainGlobals "UnknownCase" = some (some (.ref cUnknownCase)))
    (gBadSize : PySem.W.nsIn K mainGlobals "BadSize" = some (some (.ref cBadSize)))
    (gSplit : PySem.W.nsIn K mainGlobals "Split" = some (some (.ref cSplit)))
    (a1 : PySem.W.nsIn K mainGlobals "least_marks" = some (some (.ref f1)))
    (l1 : K.lookup f1 = some ⟨oc1, od1, .func (PySem.W.fnOf "least_marks" "least_marks" (defArgs st_least_marks) (defBody st_least_marks) (defScope st_least_marks) .none kV1 dc1 pm1 an1 cd1 ct1), sl1⟩)
    (c1 : PySem.W.codeIn K cd1 "least_marks" = true)
    (k1 : PySem.W.keepIn K (.ref f1) = true)
    (a2 : PySem.W.nsIn K mainGlobals "check_size" = some (some (.ref f2)))
    (l2 : K.lookup f2 = some ⟨oc2, od2, .func (PySem.W.fnOf "check_size" "check_size" (defArgs st_check_size) (defBody st_check_size) (defScope st_check_size) .none kV2 dc2 pm2 an2 cd2 ct2), sl2⟩)
    (c2 : PySem.W.codeIn K cd2 "check_size" = true)
    (k2 : PySem.W.keepIn K (.ref f2) = true)
    (a3 : PySem.W.nsIn K mainGlobals "check_within" = some (some (.ref f3)))
    (l3 : K.lookup f3 = some ⟨oc3, od3, .func (PySem.W.fnOf "check_within" "check_within" (defArgs st_check_within) (defBody st_check_within) (defScope st_check_within) .none kV3 dc3 pm3 an3 cd3 ct3), sl3⟩)
    (c3 : PySem.W.codeIn K cd3 "check_within" = true)
    (k3 : PySem.W.keepIn K (.ref f3) = true)
    (a4 : PySem.W.nsIn K mainGlobals "_law_start" = some (some (.ref f4)))
    (l4 : K.lookup f4 = some ⟨oc4, od4, .func (PySem.W.fnOf "_law_start" "_law_start" (defArgs st_law_start) (defBody st_law_start) (defScope st_law_start) .none kV4 dc4 pm4 an4 cd4 ct4), sl4⟩)
    (c4 : PySem.W.codeIn K cd4 "_law_start" = true)
    (k4 : PySem.W.keepIn K (.ref f4) = true)
    (a5 : PySem.W.nsIn K mainGlobals "_law_take" = some (some (.ref f5)))
    (l5 : K.lookup f5 = some ⟨oc5, od5, .func (PySem.W.fnOf "_law_take" "_law_take" (defArgs st_law_take) (defBody st_law_take) (defScope st_law_take) .none kV5 dc5 pm5 an5 cd5 ct5), sl5⟩)
    (c5 : PySem.W.codeIn K cd5 "_law_take" = true)
    (k5 : PySem.W.keepIn K (.ref f5) = true)
    (a6 : PySem.W.nsIn K mainGlobals "_law_same" = some (some (.ref f6)))
    (l6 : K.lookup f6 = some ⟨oc6, od6, .func (PySem.W.fnOf "_law_same" "_law_same" (defArgs st_law_same) (defBody st_law_same) (defScope st_law_same) .none kV6 dc6 pm6 an6 cd6 ct6), sl6⟩)
    (c6 : PySem.W.codeIn K cd6 "_law_same" = true)
    (k6 : PySem.W.keepIn K (.ref f6) = true)
    (a7 : PySem.W.nsIn K mainGlobals "_law_number" = some (some (.ref f7)))
    (l7 : K.lookup f7 = some ⟨oc7, od7, .func (PySem.W.fnOf "_law_number" "_law_number" (defArgs st_law_number) (defBody st_law_number) (defScope st_law_number) .none kV7 dc7 pm7 an7 cd7 ct7), sl7⟩)
    (c7 : PySem.W.codeIn K cd7 "_law_number" = true)
    (k7 : PySem.W.keepIn K (.ref f7) = true)
    (a8 : PySem.W.nsIn K mainGlobals "_law_far" = some (some (.ref f8)))
    (l8 : K.lookup f8 = some ⟨oc8, od8, .func (PySem.W.fnOf "_law_far" "_law_far" (defArgs st_law_far) (defBody st_law_far) (defScope st_law_far) .none kV8 dc8 pm8 an8 cd8 ct8), sl8⟩)
    (c8 : PySem.W.codeIn K cd8 "_law_far" = true)
    (k8 : PySem.W.keepIn K (.ref f8) = true)
    (a9 : PySem.W.nsIn K mainGlobals "_law_low" = some (some (.ref f9)))
    (l9 : K.lookup f9 = some ⟨oc9, od9, .func (PySem.W.fnOf "_law_low" "_law_low" (defArgs st_law_low) (defBody st_law_low) (defScope st_law_low) .none kV9 dc9 pm9 an9 cd9 ct9), sl9⟩)
    (c9 : PySem.W.codeIn K cd9 "_law_low" = true)
    (k9 : PySem.W.keepIn K (.ref f9) = true)
    (a10 : PySem.W.nsIn K mainGlobals "_law_cells" = some (some (.ref f10)))
    (l10 : K.lookup f10 = some ⟨oc10, od10, .func (PySem.W.fnOf "_law_cells" "_law_cells" (defArgs st_law_cells) (defBody st_law_cells) (defScope st_law_cells) .none kV10 dc10 pm10 an10 cd10 ct10), sl10⟩)
    (c10 : PySem.W.codeIn K cd10 "_law_cells" = true)
    (k10 : PySem.W.keepIn K (.ref f10) = true)
    (a11 : PySem.W.nsIn K mainGlobals "_law_due" = some (some (.ref f11)))
    (l11 : K.lookup f11 = some ⟨oc11, od11, .func (PySem.W.fnOf "_law_due" "_law_due" (defArgs st_law_due) (defBody st_law_due) (defScope st_law_due) .none kV11 dc11 pm11 an11 cd11 ct11), sl11⟩)
    (c11 : PySem.W.codeIn K cd11 "_law_due" = true)
    (k11 : PySem.W.keepIn K (.ref f11) = true)
    (a12 : PySem.W.nsIn K mainGlobals "_law_shown" = some (some (.ref f12)))
    (l12 : K.lookup f12 = some ⟨oc12, od12, .func (PySem.W.fnOf "_law_shown" "_law_shown" (defArgs st_law_shown) (defBody st_law_shown) (defScope st_law_shown) .none kV12 dc12 pm12 an12 cd12 ct12), sl12⟩)
    (c12 : PySem.W.codeIn K cd12 "_law_shown" = true)
    (k12 : PySem.W.keepIn K (.ref f12) = true)
    (a13 : PySem.W.nsIn K mainGlobals "_law_spoil" = some (some (.ref f13)))
    (l13 : K.lookup f13 = some ⟨oc13, od13, .func (PySem.W.fnOf "_law_spoil" "_law_spoil" (defArgs st_law_spoil) (defBody st_law_spoil) (defScope st_law_spoil) .none kV13 dc13 pm13 an13 cd13 ct13), sl13⟩)
    (c13 : PySem.W.codeIn K cd13 "_law_spoil" = true)
    (k13 : PySem.W.keepIn K (.ref f13) = true)
    (a14 : PySem.W.nsIn K mainGlobals "_law_told" = some (some (.ref f14)))
    (l14 : K.lookup f14 = some ⟨oc14, od14, .func (PySem.W.fnOf "_law_told" "_law_told" (defArgs st_law_told) (defBody st_law_told) (defScope st_law_told) .none kV14 dc14 pm14 an14 cd14 ct14), sl14⟩)
    (c14 : PySem.W.codeIn K cd14 "_law_told" = true)
    (k14 : PySem.W.keepIn K (.ref f14) = true)
    (a15 : PySem.W.nsIn K mainGlobals "_law_refused" = some (some (.ref f15)))
    (l15 : K.lookup f15 = some ⟨oc15, od15, .func (PySem.W.fnOf "_law_refused" "_law_refused" (defArgs st_law_refused) (defBody st_law_refused) (defScope st_law_refused) .none kV15 dc15 pm15 an15 (.ref cR) ct15), sl15⟩)
    (c15 : PySem.W.codeIn K (.ref cR) "_law_refused" = true)
    (k15 : PySem.W.keepIn K (.ref f15) = true)
    (a16 : PySem.W.nsIn K mainGlobals "_law_equal" = some (some (.ref f16)))
    (l16 : K.lookup f16 = some ⟨oc16, od16, .func (PySem.W.fnOf "_law_equal" "_law_equal" (defArgs st_law_equal) (defBody st_law_equal) (defScope st_law_equal) .none kV16 dc16 pm16 an16 cd16 ct16), sl16⟩)
    (c16 : PySem.W.codeIn K cd16 "_law_equal" = true)
    (k16 : PySem.W.keepIn K (.ref f16) = true)
    (a17 : PySem.W.nsIn K mainGlobals "law" = some (some (.ref f17)))
    (l17 : K.lookup f17 = some ⟨oc17, od17, .func (PySem.W.fnOf "law" "law" (defArgs st_law) (defBody st_law) (defScope st_law) .none kV17 dc17 pm17 an17 cd17 ct17), sl17⟩)
    (c17 : PySem.W.codeIn K cd17 "law" = true)
    (k17 : PySem.W.keepIn K (.ref f17) = true)
    (a30 : PySem.W.findIn K (.ref cSplit) "__init__" = some (some (.ref f30)))
    (i30 : PySem.W.isFn K (.ref f30) = true)
    (l30 : K.lookup f30 = some ⟨oc30, od30, .func (PySem.W.fnOf "__init__" "Split.__init__" (defArgs st_Split___init) (defBody st_Split___init) (defScope st_Split___init) .none kV30 dc30 pm30 an30 cd30 ct30), sl30⟩)
    (c30 : PySem.W.codeIn K cd30 "Split.__init__" = true)
    (k30 : PySem.W.keepIn K (.ref f30) = true)
    (a31 : PySem.W.findIn K (.ref cSplit) "marks" = some (some (.ref f31)))
    (i31 : PySem.W.isFn K (.ref f31) = true)
    (l31 : K.lookup f31 = some ⟨oc31, od31, .func (PySem.W.fnOf "marks" "Split.marks" (defArgs st_Split_marks) (defBody st_Split_marks) (defScope st_Split_marks) .none kV31 dc31 pm31 an31 cd31 ct31), sl31⟩)
    (c31 : PySem.W.codeIn K cd31 "Split.marks" = true)
    (k31 : PySem.W.keepIn K (.ref f31) = true)
    (a32 : PySem.W.findIn K (.ref cSplit) "cell" = some (some (.ref f32)))
    (i32 : PySem.W.isFn K (.ref f32) = true)
    (l32 : K.lookup f32 = some ⟨oc32, od32, .func (PySem.W.fnOf "cell" "Split.cell" (defArgs st_Split_cell) (defBody st_Split_cell) (defScope st_Split_cell) .none kV32 dc32 pm32 an32 cd32 ct32), sl32⟩)
    (c32 : PySem.W.codeIn K cd32 "Split.cell" = true)
    (k32 : PySem.W.keepIn K (.ref f32) = true)
    (a33 : PySem.W.findIn K (.ref cSplit) "together" = some (some (.ref f33)))
    (i33 : PySem.W.isFn K (.ref f33) = true)
    (l33 : K.lookup f33 = some ⟨oc33, od33, .func (PySem.W.fnOf "together" "Split.together" (defArgs st_Split_together) (defBody st_Split_together) (defScope st_Split_together) .none kV33 dc33 pm33 an33 cd33 ct33), sl33⟩)
    (c33 : PySem.W.codeIn K cd33 "Split.together" = true)
    (k33 : PySem.W.keepIn K (.ref f33) = true)
    (a34 : PySem.W.findIn K (.ref cSplit) "cells" = some (some (.ref f34)))
    (i34 : PySem.W.isFn K (.ref f34) = true)
    (l34 : K.lookup f34 = some ⟨oc34, od34, .func (PySem.W.fnOf "cells" "Split.cells" (defArgs st_Split_cells) (defBody st_Split_cells) (defScope st_Split_cells) .none kV34 dc34 pm34 an34 cd34 ct34), sl34⟩)
    (c34 : PySem.W.codeIn K cd34 "Split.cells" = true)
    (k34 : PySem.W.keepIn K (.ref f34) = true)
    (a35 : PySem.W.findIn K (.ref cSplit) "__len__" = some (some (.ref f35)))
    (i35 : PySem.W.isFn K (.ref f35) = true)
    (l35 : K.lookup f35 = some ⟨oc35, od35, .func (PySem.W.fnOf "__len__" "Split.__len__" (defArgs st_Split___len) (defBody st_Split___len) (defScope st_Split___len) .none kV35 dc35 pm35 an35 cd35 ct35), sl35⟩)
    (c35 : PySem.W.codeIn K cd35 "Split.__len__" = true)
    (k35 : PySem.W.keepIn K (.ref f35) = true)
    (a36 : PySem.W.findIn K (.ref cSplit) "__eq__" = some (some (.ref f36)))
    (i36 : PySem.W.isFn K (.ref f36) = true)
    (l36 : K.lookup f36 = some ⟨oc36, od36, .func (PySem.W.fnOf "__eq__" "Split.__eq__" (defArgs st_Split___eq) (defBody st_Split___eq) (defScope st_Split___eq) .none kV36 dc36 pm36 an36 cd36 ct36), sl36⟩)
    (c36 : PySem.W.codeIn K cd36 "Split.__eq__" = true)
    (k36 : PySem.W.keepIn K (.ref f36) = true)
    (b_len : PySem.W.nsIn K mainGlobals "len" = some none)
    (b_range : PySem.W.nsIn K mainGlobals "range" = some none)
    (b_enumerate : PySem.W.nsIn K mainGlobals "enumerate" = some none)
    (b_list : PySem.W.nsIn K mainGlobals "list" = some none)
    (b_tuple : PySem.W.nsIn K mainGlobals "tuple" = some none)
    (b_int : PySem.W.nsIn K mainGlobals "int" = some none)
    (b_str : PySem.W.nsIn K mainGlobals "str" = some none)
    (b_bool : PySem.W.nsIn K mainGlobals "bool" = some none)
    (b_isinstance : PySem.W.nsIn K mainGlobals "isinstance" = some none)
    (b_ValueError : PySem.W.nsIn K mainGlobals "ValueError" = some none)
    (b_super : PySem.W.nsIn K mainGlobals "super" = some none)
    (pg : PySem.W.plainGet K cSplit Str.empty = true)
    (hd : PySem.W.hasDictIn K cSplit = true)
    (po : PySem.W.plainOver K cSplit = true)
    (sa : PySem.W.findIn K (.ref cSplit) "__setattr__" = some (some (.builtin "object.__setattr__")))
    (na0 : PySem.W.findIn K (.ref cSplit) "size" = some none)
    (na1 : PySem.W.findIn K (.ref cSplit) "_marks" = some none)
    (rd : PySem.W.readsIn K cSplit (.type "type") = true)
    (mga : PySem.W.specialIn K (.ref cSplit) "__getattribute__" = some (some (.builtin "type.__getattribute__")))
    (most : PySem.W.findCls K (.ref cSplit) (.type "type") "MOST" = some (.val (.int 12 tk0)))
    (mk : PySem.W.makesIn K cSplit = true)
    (kc : PySem.W.keepIn K (.ref cSplit) = true)
    (cla : PySem.W.findIn K (.ref cSplit) "__class__" = some (some (.builtin "object.__class__")))
    (cln : PySem.W.specialIn K (.builtin "object.__class__") "__get__" = some (some (.builtin "getset_descriptor.__get__")))
    (clt : PySem.W.takesIn K (.builtin "object.__class__") = some true)
    (clm : PySem.W.mroIn K cSplit (.type "object") = some true)
    (eqn : PySem.W.findIn K (.ref cSplit) "__ne__" = some (some (.builtin "object.__ne__")))
    (y_ii : PySem.W.kitOne K (.type "int") (.type "int") = some true)
    (y_ib : PySem.W.kitOne K (.type "int") (.type "bool") = some false)
    (y_si : PySem.W.kitOne K (.type "str") (.type "int") = some false)
    (y_ss : PySem.W.kitOne K (.type "str") (.type "str") = some true)
    (y_li : PySem.W.kitOne K (.type "list") (.type "int") = some false)
    (y_ls : PySem.W.kitOne K (.type "list") (.type "str") = some false)
    (y_ll : PySem.W.kitOne K (.type "list") (.type "list") = some true)
    (y_lt : PySem.W.kitOne K (.type "list") (.type "tuple") = some false)
    (y_ti : PySem.W.kitOne K (.type "tuple") (.type "int") = some false)
    (y_ts : PySem.W.kitOne K (.type "tuple") (.type "str") = some false)
    (y_tl : PySem.W.kitOne K (.type "tuple") (.type "list") = some false)
    (y_tt : PySem.W.kitOne K (.type "tuple") (.type "tuple") = some true)
    (p_ss : PySem.W.kitOne K (.ref cSplit) (.ref cSplit) = some true)
    (p_si : PySem.W.kitOne K (.type "int") (.ref cSplit) = some false)
    (p_sr : PySem.W.kitOne K (.type "str") (.ref cSplit) = some false)
    (p_sl : PySem.W.kitOne K (.type "list") (.ref cSplit) = some false)
    (p_st : PySem.W.kitOne K (.type "tuple") (.ref cSplit) = some false)
    (n_s : PySem.W.notFirst K cSplit (.ref cSplit) = true)
    (n_i : PySem.W.notFirst K cSplit (.type "int") = true)
    (n_t : PySem.W.notFirst K cSplit (.type "str") = true)
    (n_l : PySem.W.notFirst K cSplit (.type "list") = true)
    (n_u : PySem.W.notFirst K cSplit (.type "tuple") = true)
    (xBadSize : K.lookup cBadSize = some (excClassObj nmBadSize qnBadSize cBadSize nnBadSize bsBadSize [.ref cThinwallError, .type "ValueError", .type "Exception", .type "BaseException", .type "object"] true snBadSize sbBadSize abBadSize clBadSize ddBadSize m0BadSize m1BadSize m2BadSize m3BadSize m5BadSize "ValueError.__new__"))
    (saBadSize : PySem.W.findIn K (.ref cBadSize) "__setattr__" = some (some (.builtin "object.__setattr__")))
    (gaBadSize : PySem.W.findIn K (.ref cBadSize) "__getattribute__" = some (some (.builtin "BaseException.__getattribute__")))
    (ggBadSize : PySem.W.findIn K (.ref cBadSize) "__getattr__" = some none)
    (nfBadSize : PySem.W.findIn K (.ref cBadSize) "size" = some none)
    (inBadSize : PySem.W.findIn K (.ref cBadSize) "__init__" = some (some (.ref fiBadSize)))
    (tiBadSize : PySem.W.typeIn K (.ref fiBadSize) = some (.type "function"))
    (exBadSize : PySem.W.subIn K (.ref cBadSize) (.type "BaseException") = some true)
    (veBadSize : PySem.W.subIn K (.ref cBadSize) (.type "ValueError") = some true)
    (tyBadSize : PySem.W.typeIn K (.ref cBadSize) = some (.type "type"))
    (keBadSize : PySem.W.keepIn K (.ref cBadSize) = true)
    (hdBadSize : PySem.W.hasDictIn K cBadSize = true)
    (isBadSize : (PySem.W.clsIn K cBadSize).isSome = true)
    (suBadSize : PySem.W.mroIn K cBadSize (.ref cBadSize) = some true)
    (moBadSize : PySem.W.mroIn K cBadSize (.type "object") = some true)
    (acBadSize : PySem.W.findIn K (.ref cBadSize) "__class__" = some (some (.builtin "object.__class__")))
    (siBadSize : PySem.W.ks_superIn K cBadSize cBadSize "__init__" = some (some (.builtin "ValueError.__init__")))
    (lfBadSize : K.lookup fiBadSize = some ⟨ocBadSize, odBadSize, .func (PySem.W.ksFn "__init__" "BadSize.__init__" (defArgs st_BadSize___init) (defBody st_BadSize___init) (defScope st_BadSize___init) .none kVBadSize dcBadSize pmBadSize anBadSize (.ref caBadSize) ctBadSize ccBadSize), slBadSize⟩)
    (cdBadSize : PySem.W.codeIn K (.ref caBadSize) "BadSize.__init__" = true)
    (ceBadSize : K.lookup ccBadSize = some ⟨cellBadSize, cldBadSize, .cell (some (.ref cBadSize)), csBadSize⟩)
    (coBadSize : K.lookup caBadSize = some ⟨cclBadSize, cddBadSize, .fields vsBadSize, ccsBadSize⟩)
    (cfBadSize : vsBadSize[2]? = some (.str flBadSize tfBadSize))
    (cgBadSize : ((l.prog.main.file : Str) == flBadSize) = true)
    (xUnknownCase : K.lookup cUnknownCase = some (excClassObj nmUnknownCase qnUnknownCase cUnknownCase nnUnknownCase bsUnknownCase [.ref cThinwallError, .type "ValueError", .type "Exception", .type "BaseException", .type "object"] true snUnknownCase sbUnknownCase abUnknownCase clUnknownCase ddUnknownCase m0UnknownCase m1UnknownCase m2UnknownCase m3UnknownCase m5UnknownCase "ValueError.__new__"))
    (saUnknownCase : PySem.W.findIn K (.ref cUnknownCase) "__setattr__" = some (some (.builtin "object.__setattr__")))
    (gaUnknownCase : PySem.W.findIn K (.ref cUnknownCase) "__getattribute__" = some (some (.builtin "BaseException.__getattribute__")))
    (ggUnknownCase : PySem.W.findIn K (.ref cUnknownCase) "__getattr__" = some none)
    (nfUnknownCase : PySem.W.findIn K (.ref cUnknownCase) "case" = some none)
    (inUnknownCase : PySem.W.findIn K (.ref cUnknownCase) "__init__" = some (some (.ref fiUnknownCase)))
    (tiUnknownCase : PySem.W.typeIn K (.ref fiUnknownCase) = some (.type "function"))
    (exUnknownCase : PySem.W.subIn K (.ref cUnknownCase) (.type "BaseException") = some true)
    (veUnknownCase : PySem.W.subIn K (.ref cUnknownCase) (.type "ValueError") = some true)
    (tyUnknownCase : PySem.W.typeIn K (.ref cUnknownCase) = some (.type "type"))
    (keUnknownCase : PySem.W.keepIn K (.ref cUnknownCase) = true)
    (hdUnknownCase : PySem.W.hasDictIn K cUnknownCase = true)
    (isUnknownCase : (PySem.W.clsIn K cUnknownCase).isSome = true)
    (suUnknownCase : PySem.W.mroIn K cUnknownCase (.ref cUnknownCase) = some true)
    (moUnknownCase : PySem.W.mroIn K cUnknownCase (.type "object") = some true)
    (acUnknownCase : PySem.W.findIn K (.ref cUnknownCase) "__class__" = some (some (.builtin "object.__class__")))
    (siUnknownCase : PySem.W.ks_superIn K cUnknownCase cUnknownCase "__init__" = some (some (.builtin "ValueError.__init__")))
    (lfUnknownCase : K.lookup fiUnknownCase = some ⟨ocUnknownCase, odUnknownCase, .func (PySem.W.ksFn "__init__" "UnknownCase.__init__" (defArgs st_UnknownCase___init) (defBody st_UnknownCase___init) (defScope st_UnknownCase___init) .none kVUnknownCase dcUnknownCase pmUnknownCase anUnknownCase (.ref caUnknownCase) ctUnknownCase ccUnknownCase), slUnknownCase⟩)
    (cdUnknownCase : PySem.W.codeIn K (.ref caUnknownCase) "UnknownCase.__init__" = true)
    (ceUnknownCase : K.lookup ccUnknownCase = some ⟨cellUnknownCase, cldUnknownCase, .cell (some (.ref cUnknownCase)), csUnknownCase⟩)
    (coUnknownCase : K.lookup caUnknownCase = some ⟨cclUnknownCase, cddUnknownCase, .fields vsUnknownCase, ccsUnknownCase⟩)
    (cfUnknownCase : vsUnknownCase[2]? = some (.str flUnknownCase tfUnknownCase))
    (cgUnknownCase : ((l.prog.main.file : Str) == flUnknownCase) = true)
    (tp : PySem.W.nsIn K PySem.cStatics "thirdparty.any" = some none)
    (ht : (l.prog.main.scope.names.lookup ("super" : Str)).isSome = false)
    (e_m1 : PySem.W.exmOne K (.ref cBadSize) (.ref cBadSize) = some true)
    (e_m2 : PySem.W.exmOne K (.ref cUnknownCase) (.ref cBadSize) = some false)
    (e_m3 : PySem.W.exmOne K (.ref cUnknownCase) (.ref cUnknownCase) = some true)
    (e_k1 : PySem.W.kitOne K (.ref cBadSize) (.ref cThinwallError) = some true)
    (e_k2 : PySem.W.kitOne K (.ref cBadSize) (.type "ValueError") = some true)
    (e_k3 : PySem.W.kitOne K (.ref cBadSize) (.ref cUnknownCase) = some false)
    (e_k4 : PySem.W.kitOne K (.ref cUnknownCase) (.ref cThinwallError) = some true)
    (e_k5 : PySem.W.kitOne K (.ref cUnknownCase) (.type "ValueError") = some true)
    (e_k6 : PySem.W.kitOne K (.ref cUnknownCase) (.ref cSizeMismatch) = some false)
    (tb : K.lookup cR = some ⟨eR, dR, .fields vR, sR⟩)
    (tp2 : vR[11]? = some (.ref pR))
    (ch : PySem.W.codeHdIn K cR pR = true)
    (np : K.lookup pR = none)
    (hT : h.get? pR = some { cls := .none, data := .fields #[] }) : LamX.LawAtS l w K CX0 10 63 "script" mg fa h := by
  have e := hfa.symm.trans (PySem.W.mg_of X G0 a17)
  cases e
  let q : Str := ("_law_refused" : Str) ++ (".<locals>." : Str) ++ ("<lambda>" : Str)
  have T : TxE ⟨K, TabMap [(pR, q)]⟩ mg ⟨cSplit, cBadSize, cUnknownCase, cSizeMismatch, cThinwallError⟩ :=
    { b_len := PySem.W.mg_none_of X G0 b_len, b_range := PySem.W.mg_none_of X G0 b_range, b_enumerate := PySem.W.mg_none_of X G0 b_enumerate, b_list := PySem.W.mg_none_of X G0 b_list, b_tuple := PySem.W.mg_none_of X G0 b_tuple, b_int := PySem.W.mg_none_of X G0 b_int, b_str := PySem.W.mg_none_of X G0 b_str, b_bool := PySem.W.mg_none_of X G0 b_bool, b_isinstance := PySem.W.mg_none_of X G0 b_isinstance, b_ValueError := PySem.W.mg_none_of X G0 b_ValueError, g_Split := PySem.W.mg_of X G0 gSplit, g_BadSize := PySem.W.mg_of X G0 gBadSize, g_UnknownCase := PySem.W.mg_of X G0 gUnknownCase, g_SizeMismatch := PySem.W.mg_of X G0 gSizeMismatch, g_ThinwallError := PySem.W.mg_of X G0 gThinwallError,
      cl := ⟨pg, hd, po, sa⟩, na0 := na0, na1 := na1, most := ⟨.type "type", _, ⟨rd, mga⟩, ⟨most, ⟨_, rfl⟩⟩⟩,
      xis_BadSize := ⟨isBadSize, gaBadSize, ggBadSize, exBadSize, acBadSize, cln, clt, moBadSize⟩, xf_BadSize := ⟨gaBadSize, ggBadSize, exBadSize, hdBadSize⟩,
      xis_UnknownCase := ⟨isUnknownCase, gaUnknownCase, ggUnknownCase, exUnknownCase, acUnknownCase, cln, clt, moUnknownCase⟩, xf_UnknownCase := ⟨gaUnknownCase, ggUnknownCase, exUnknownCase, hdUnknownCase⟩,
      no_BadSize_size := nfBadSize, no_UnknownCase_case := nfUnknownCase, m1 := e_m1, m2 := e_m2, m3 := e_m3, k1 := e_k1, k2 := e_k2, k3 := e_k3, k4 := e_k4, k5 := e_k5, k6 := e_k6 }
  have T0 := T.toTxt
  have Y : KTy (⟨K, TabMap [(pR, q)]⟩ : Ct).K := ⟨y_ii, y_ib, y_si, y_ss, y_li, y_ls, y_ll, y_lt, y_ti, y_ts, y_tl, y_tt⟩
  have S : KSp (⟨K, TabMap [(pR, q)]⟩ : Ct).K ⟨cSplit, cBadSize, cUnknownCase, cSizeMismatch, cThinwallError⟩ := ⟨⟨⟨pg, hd, po, sa⟩, cla, cln, clt, clm⟩, p_ss, p_si, p_sr, p_sl, p_st⟩
  have NN : NF (⟨K, TabMap [(pR, q)]⟩ : Ct).K ⟨cSplit, cBadSize, cUnknownCase, cSizeMismatch, cThinwallError⟩ := ⟨n_s, n_i, n_t, n_l, n_u⟩
  have hq : ∀ p ∈ [(pR, q)], p = (pR, q) := fun p hp => by simpa using hp
  have F1 := fun_mk (st := st_least_marks) l1 c1 k1
  have F2 := fun_mk (st := st_check_size) l2 c2 k2
  have F3 := fun_mk (st := st_check_within) l3 c3 k3
  have F4 := fun_mk (st := st_law_start) l4 c4 k4
  have F5 := fun_mk (st := st_law_take) l5 c5 k5
  have F6 := fun_mk (st := st_law_same) l6 c6 k6
  have F7 := fun_mk (st := st_law_number) l7 c7 k7
  have F8 := fun_mk (st := st_law_far) l8 c8 k8
  have F9 := fun_mk (st := st_law_low) l9 c9 k9
  have F10 := fun_mk (st := st_law_cells) l10 c10 k10
  have F11 := fun_mk (st := st_law_due) l11 c11 k11
  have F12 := fun_mk (st := st_law_shown) l12 c12 k12
  have F13 := fun_mk (st := st_law_spoil) l13 c13 k13
  have F14 := fun_mk (st := st_law_told) l14 c14 k14
  have F15 := fun_mk (st := st_law_refused) l15 c15 k15
  have F16 := fun_mk (st := st_law_equal) l16 c16 k16
  have F17 := fun_mk (st := st_law) l17 c17 k17
  have F30 := fun_mk (st := st_Split___init) l30 c30 k30
  have F31 := fun_mk (st := st_Split_marks) l31 c31 k31
  have F32 := fun_mk (st := st_Split_cell) l32 c32 k32
  have F33 := fun_mk (st := st_Split_together) l33 c33 k33
  have F34 := fun_mk (st := st_Split_cells) l34 c34 k34
  have F35 := fun_mk (st := st_Split___len) l35 c35 k35
  have F36 := fun_mk (st := st_Split___eq) l36 c36 k36
  have B1 := F1.binds (ps := ["marks"]) fun _ _ _ _ _ _ us hl => match us, hl with | [_], _ => rfl
  have B2 := F2.binds (ps := ["size"]) fun _ _ _ _ _ _ us hl => match us, hl with | [_], _ => rfl
  have B3 := F3.binds (ps := ["size", "case"]) fun _ _ _ _ _ _ us hl => match us, hl with | [_, _], _ => rfl
  have B4 := F4.binds (ps := ["script"]) fun _ _ _ _ _ _ us hl => match us, hl with | [_], _ => rfl
  have B5 := F5.binds (ps := ["bag", "many"]) fun _ _ _ _ _ _ us hl => match us, hl with | [_, _], _ => rfl
  have B6 := F6.binds (ps := ["actual", "due"]) fun _ _ _ _ _ _ us hl => match us, hl with | [_, _], _ => rfl
  have B7 := F7.binds (ps := ["bag"]) fun _ _ _ _ _ _ us hl => match us, hl with | [_], _ => rfl
  have B8 := F8.binds (ps := ["bag", "many"]) fun _ _ _ _ _ _ us hl => match us, hl with | [_, _], _ => rfl
  have B9 := F9.binds (ps := ["marks"]) fun _ _ _ _ _ _ us hl => match us, hl with | [_], _ => rfl
  have B10 := F10.binds (ps := ["low"]) fun _ _ _ _ _ _ us hl => match us, hl with | [_], _ => rfl
  have B11 := F11.binds (ps := ["low"]) fun _ _ _ _ _ _ us hl => match us, hl with | [_], _ => rfl
  have B12 := F12.binds (ps := ["split", "many"]) fun _ _ _ _ _ _ us hl => match us, hl with | [_, _], _ => rfl
  have B13 := F13.binds (ps := ["split", "place"]) fun _ _ _ _ _ _ us hl => match us, hl with | [_, _], _ => rfl
  have B14 := F14.binds (ps := ["action"]) fun _ _ _ _ _ _ us hl => match us, hl with | [_], _ => rfl
  have B15 := F15.binds (ps := ["bag", "split", "many"]) fun _ _ _ _ _ _ us hl => match us, hl with | [_, _, _], _ => rfl
  have B16 := F16.binds (ps := ["split", "low", "lists"]) fun _ _ _ _ _ _ us hl => match us, hl with | [_, _, _], _ => rfl
  have B17 := F17.binds (ps := ["script"]) fun _ _ _ _ _ _ us hl => match us, hl with | [_], _ => rfl
  have B30 := F30.binds (ps := ["self", "marks"]) fun _ _ _ _ _ _ us hl => match us, hl with | [_, _], _ => rfl
  have B31 := F31.binds (ps := ["self"]) fun _ _ _ _ _ _ us hl => match us, hl with | [_], _ => rfl
  have B32 := F32.binds (ps := ["self", "case"]) fun _ _ _ _ _ _ us hl => match us, hl with | [_, _], _ => rfl
  have B33 := F33.binds (ps := ["self", "first", "second"]) fun _ _ _ _ _ _ us hl => match us, hl with | [_, _, _], _ => rfl
  have B34 := F34.binds (ps := ["self"]) fun _ _ _ _ _ _ us hl => match us, hl with | [_], _ => rfl
  have B35 := F35.binds (ps := ["self"]) fun _ _ _ _ _ _ us hl => match us, hl with | [_], _ => rfl
  have B36 := F36.binds (ps := ["self", "other"]) fun _ _ _ _ _ _ us hl => match us, hl with | [_, _], _ => rfl
  refine ⟨PySem.W.fnOf "law" "law" (defArgs st_law) (defBody st_law) (defScope st_law) .none kV17 dc17 pm17 an17 cd17 ct17, [(cR, pR)], spOf ⟨K, TabMap [(pR, q)]⟩ (fn_law ⟨K, TabMap [(pR, q)]⟩) 1, fun p hp => ?_, fun p hp => ?_, fun p hp => ?_, fun s u => .of_eq rfl, fun H a ns _ _ ht hS => law_starts hS fun p hp => ?_, fun base Xb Gb TBs => ?_⟩
  · simp only [List.mem_singleton] at hp; subst hp; exact hT
  · simp only [List.mem_singleton] at hp; subst hp; exact np
  · simp only [List.mem_singleton] at hp; subst hp; exact PySem.W.codeHd_of_K X ch
  · rw [hq p hp]; exact ht (cR, pR) (List.mem_singleton.mpr rfl)
  have XIBadSize : XInit l.prog K mg cBadSize fiBadSize ccBadSize caBadSize "BadSize.__init__" (defArgs st_BadSize___init) (defBody st_BadSize___init) (defScope st_BadSize___init) _ :=
    { oex := ⟨⟨_, _, _, _, _, _, _, _, _, _, _, _, _, _, _, xBadSize, by rfl⟩, saBadSize, exBadSize, tyBadSize, keBadSize⟩, iC := inBadSize, tI := tiBadSize, code := ⟨_, _, _, _, _, _, coBadSize, cfBadSize, cgBadSize⟩, cell := ⟨_, _, _, ceBadSize⟩, sub := suBadSize, nsup := PySem.W.mg_none_of X G0 b_super, tp := tp, sin := siBadSize, sVE := veBadSize, fn := ⟨_, _, _, _, _, _, _, _, lfBadSize, rfl⟩, cd := cdBadSize, htop := ht }
  have X_BadSize : XCal l.prog w K mg base "BadSize" cBadSize ["size"] := xcal_size (G := ⟨K, TabMap [(pR, q)]⟩) (A := ⟨cSplit, cBadSize, cUnknownCase, cSizeMismatch, cThinwallError⟩) XIBadSize (PySem.W.mg_of X G0 gBadSize) nfBadSize
  have XIUnknownCase : XInit l.prog K mg cUnknownCase fiUnknownCase ccUnknownCase caUnknownCase "UnknownCase.__init__" (defArgs st_UnknownCase___init) (defBody st_UnknownCase___init) (defScope st_UnknownCase___init) _ :=
    { oex := ⟨⟨_, _, _, _, _, _, _, _, _, _, _, _, _, _, _, xUnknownCase, by rfl⟩, saUnknownCase, exUnknownCase, tyUnknownCase, keUnknownCase⟩, iC := inUnknownCase, tI := tiUnknownCase, code := ⟨_, _, _, _, _, _, coUnknownCase, cfUnknownCase, cgUnknownCase⟩, cell := ⟨_, _, _, ceUnknownCase⟩, sub := suUnknownCase, nsup := PySem.W.mg_none_of X G0 b_super, tp := tp, sin := siUnknownCase, sVE := veUnknownCase, fn := ⟨_, _, _, _, _, _, _, _, lfUnknownCase, rfl⟩, cd := cdUnknownCase, htop := ht }
  have X_UnknownCase : XCal l.prog w K mg base "UnknownCase" cUnknownCase ["case"] := xcal_case (G := ⟨K, TabMap [(pR, q)]⟩) (A := ⟨cSplit, cBadSize, cUnknownCase, cSizeMismatch, cThinwallError⟩) XIUnknownCase (PySem.W.mg_of X G0 gUnknownCase) nfUnknownCase
  have C_least_marks : Cal l.prog w K mg base CX0 1 "least_marks" ["marks"] (spOf ⟨K, TabMap [(pR, q)]⟩ (fn_least ⟨K, TabMap [(pR, q)]⟩) 1) := ⟨_, _, PySem.W.mg_of X G0 a1, k1, B1, ok_least (G := ⟨K, TabMap [(pR, q)]⟩) F1 T0⟩
  have C_check_size : Cal l.prog w K mg base (L2.CX l.prog w) 3 "check_size" ["size"] (spOf ⟨K, TabMap [(pR, q)]⟩ (fn_size ⟨K, TabMap [(pR, q)]⟩ ⟨cSplit, cBadSize, cUnknownCase, cSizeMismatch, cThinwallError⟩) 1) := ⟨_, _, PySem.W.mg_of X G0 a2, k2, B2, ok_size (G := ⟨K, TabMap [(pR, q)]⟩) F2 T0 X_BadSize⟩
  have C_check_within : Cal l.prog w K mg base (L2.CX l.prog w) 3 "check_within" ["size", "case"] (spOf ⟨K, TabMap [(pR, q)]⟩ (fn_within ⟨K, TabMap [(pR, q)]⟩ ⟨cSplit, cBadSize, cUnknownCase, cSizeMismatch, cThinwallError⟩) 2) := ⟨_, _, PySem.W.mg_of X G0 a3, k3, B3, ok_within (G := ⟨K, TabMap [(pR, q)]⟩) F3 T0 X_UnknownCase⟩
  have C_Split : CalC l.prog w K mg base (L2.CX l.prog w) 4 "Split" cSplit ["self", "marks"] (spOf ⟨K, TabMap [(pR, q)]⟩ (fn_init ⟨K, TabMap [(pR, q)]⟩ ⟨cSplit, cBadSize, cUnknownCase, cSizeMismatch, cThinwallError⟩) 2) := ⟨_, _, PySem.W.mg_of X G0 gSplit, ⟨mk, a30, i30, kc⟩, B30, ok_init (G := ⟨K, TabMap [(pR, q)]⟩) F30 T0 C_check_size C_least_marks⟩
  have C_Split_marks : CalM l.prog w K mg base CX0 1 cSplit "marks" ["self"] (spOf ⟨K, TabMap [(pR, q)]⟩ (fn_marks ⟨K, TabMap [(pR, q)]⟩ ⟨cSplit, cBadSize, cUnknownCase, cSizeMismatch, cThinwallError⟩) 1) := ⟨_, _, ⟨pg, hd, po, sa⟩, ⟨a31, i31, k31⟩, B31, ok_marks (G := ⟨K, TabMap [(pR, q)]⟩) F31 T0⟩
  have C_Split_cell : CalM l.prog w K mg base (L2.CX l.prog w) 4 cSplit "cell" ["self", "case"] (spOf ⟨K, TabMap [(pR, q)]⟩ (fn_cell ⟨K, TabMap [(pR, q)]⟩ ⟨cSplit, cBadSize, cUnknownCase, cSizeMismatch, cThinwallError⟩) 2) := ⟨_, _, ⟨pg, hd, po, sa⟩, ⟨a32, i32, k32⟩, B32, ok_cell (G := ⟨K, TabMap [(pR, q)]⟩) F32 T0 C_check_within⟩
  have C_Split_together : CalM l.prog w K mg base (L2.CX l.prog w) 4 cSplit "together" ["self", "first", "second"] (spOf ⟨K, TabMap [(pR, q)]⟩ (fn_tog ⟨K, TabMap [(pR, q)]⟩ ⟨cSplit, cBadSize, cUnknownCase, cSizeMismatch, cThinwallError⟩) 3) := ⟨_, _, ⟨pg, hd, po, sa⟩, ⟨a33, i33, k33⟩, B33, ok_tog (G := ⟨K, TabMap [(pR, q)]⟩) F33 T0 C_check_within⟩
  have C_Split_cells : CalM l.prog w K mg base CX0 5 cSplit "cells" ["self"] (spOf ⟨K, TabMap [(pR, q)]⟩ (fn_cells ⟨K, TabMap [(pR, q)]⟩ ⟨cSplit, cBadSize, cUnknownCase, cSizeMismatch, cThinwallError⟩) 1) := ⟨_, _, ⟨pg, hd, po, sa⟩, ⟨a34, i34, k34⟩, B34, ok_cells (G := ⟨K, TabMap [(pR, q)]⟩) F34 T0 C_Split_cell⟩
  have C_len : CalL l.prog w K mg base 6 cSplit (spOf ⟨K, TabMap [(pR, q)]⟩ (fn_len ⟨K, TabMap [(pR, q)]⟩ ⟨cSplit, cBadSize, cUnknownCase, cSizeMismatch, cThinwallError⟩) 1) := ⟨_, _, a35, i35, B35, ok_len (G := ⟨K, TabMap [(pR, q)]⟩) F35 T0 C_Split_cells⟩
  have C_eq : CalE l.prog w K mg base 1 cSplit (spOf ⟨K, TabMap [(pR, q)]⟩ (fn_eq ⟨K, TabMap [(pR, q)]⟩ ⟨cSplit, cBadSize, cUnknownCase, cSizeMismatch, cThinwallError⟩) 2) := ⟨_, _, ⟨a36, eqn, i36, clm⟩, B36, ok_eq (G := ⟨K, TabMap [(pR, q)]⟩) F36 T0 S⟩
  have C__law_start : Cal l.prog w K mg base CX0 1 "_law_start" ["script"] (spOf ⟨K, TabMap [(pR, q)]⟩ (fn_start ⟨K, TabMap [(pR, q)]⟩) 1) := ⟨_, _, PySem.W.mg_of X G0 a4, k4, B4, ok_start (G := ⟨K, TabMap [(pR, q)]⟩) F4 T0⟩
  have C__law_take : Cal l.prog w K mg base CX0 1 "_law_take" ["bag", "many"] (spOf ⟨K, TabMap [(pR, q)]⟩ (fn_take ⟨K, TabMap [(pR, q)]⟩) 2) := ⟨_, _, PySem.W.mg_of X G0 a5, k5, B5, ok_take (G := ⟨K, TabMap [(pR, q)]⟩) F5 T0⟩
  have C__law_number : Cal l.prog w K mg base CX0 2 "_law_number" ["bag"] (spOf ⟨K, TabMap [(pR, q)]⟩ (fn_number ⟨K, TabMap [(pR, q)]⟩) 1) := ⟨_, _, PySem.W.mg_of X G0 a7, k7, B7, ok_number (G := ⟨K, TabMap [(pR, q)]⟩) F7 T0 C__law_take⟩
  have C__law_far : Cal l.prog w K mg base CX0 2 "_law_far" ["bag", "many"] (spOf ⟨K, TabMap [(pR, q)]⟩ (fn_far ⟨K, TabMap [(pR, q)]⟩) 2) := ⟨_, _, PySem.W.mg_of X G0 a8, k8, B8, ok_far (G := ⟨K, TabMap [(pR, q)]⟩) F8 T0 C__law_take⟩
  have C__law_low : Cal l.prog w K mg base CX0 1 "_law_low" ["marks"] (spOf ⟨K, TabMap [(pR, q)]⟩ (fn_low ⟨K, TabMap [(pR, q)]⟩) 1) := ⟨_, _, PySem.W.mg_of X G0 a9, k9, B9, ok_low (G := ⟨K, TabMap [(pR, q)]⟩) F9 T0⟩
  have C__law_cells : Cal l.prog w K mg base CX0 1 "_law_cells" ["low"] (spOf ⟨K, TabMap [(pR, q)]⟩ (fn_lcells ⟨K, TabMap [(pR, q)]⟩) 1) := ⟨_, _, PySem.W.mg_of X G0 a10, k10, B10, ok_lcells (G := ⟨K, TabMap [(pR, q)]⟩) F10 T0⟩
  have C__law_due : Cal l.prog w K mg base CX0 2 "_law_due" ["low"] (spOf ⟨K, TabMap [(pR, q)]⟩ (fn_due ⟨K, TabMap [(pR, q)]⟩) 1) := ⟨_, _, PySem.W.mg_of X G0 a11, k11, B11, ok_due (G := ⟨K, TabMap [(pR, q)]⟩) F11 T0 C__law_cells⟩
  have S0 : Cal l.prog w K mg base CX0 0 "_law_same" ["actual", "due"] (spOf ⟨K, TabMap [(pR, q)]⟩ (fn_same ⟨K, TabMap [(pR, q)]⟩ 0) 2) := ⟨_, _, PySem.W.mg_of X G0 a6, k6, B6, fn_void void_same⟩
  have S1 : Cal l.prog w K mg base CX0 1 "_law_same" ["actual", "due"] (spOf ⟨K, TabMap [(pR, q)]⟩ (fn_same ⟨K, TabMap [(pR, q)]⟩ 1) 2) := ⟨_, _, PySem.W.mg_of X G0 a6, k6, B6, ok_same (G := ⟨K, TabMap [(pR, q)]⟩) T0 Y F6 S0⟩
  have S2 : Cal l.prog w K mg base CX0 2 "_law_same" ["actual", "due"] (spOf ⟨K, TabMap [(pR, q)]⟩ (fn_same ⟨K, TabMap [(pR, q)]⟩ 2) 2) := ⟨_, _, PySem.W.mg_of X G0 a6, k6, B6, ok_same (G := ⟨K, TabMap [(pR, q)]⟩) T0 Y F6 S1⟩
  have S3 : Cal l.prog w K mg base CX0 3 "_law_same" ["actual", "due"] (spOf ⟨K, TabMap [(pR, q)]⟩ (fn_same ⟨K, TabMap [(pR, q)]⟩ 3) 2) := ⟨_, _, PySem.W.mg_of X G0 a6, k6, B6, ok_same (G := ⟨K, TabMap [(pR, q)]⟩) T0 Y F6 S2⟩
  have S4 : Cal l.prog w K mg base CX0 4 "_law_same" ["actual", "due"] (spOf ⟨K, TabMap [(pR, q)]⟩ (fn_same ⟨K, TabMap [(pR, q)]⟩ 4) 2) := ⟨_, _, PySem.W.mg_of X G0 a6, k6, B6, ok_same (G := ⟨K, TabMap [(pR, q)]⟩) T0 Y F6 S3⟩
  have C__law_shown : Cal l.prog w K mg base CX0 8 "_law_shown" ["split", "many"] (spOf ⟨K, TabMap [(pR, q)]⟩ (fn_shown ⟨K, TabMap [(pR, q)]⟩ ⟨cSplit, cBadSize, cUnknownCase, cSizeMismatch, cThinwallError⟩) 2) := ⟨_, _, PySem.W.mg_of X G0 a12, k12, B12, ok_shown (G := ⟨K, TabMap [(pR, q)]⟩) F12 T0 C_Split_cell C_Split_together C_Split_marks C_Split_cells C_len⟩
  have C__law_spoil : Cal l.prog w K mg base CX0 6 "_law_spoil" ["split", "place"] (spOf ⟨K, TabMap [(pR, q)]⟩ (fn_spoil ⟨K, TabMap [(pR, q)]⟩ ⟨cSplit, cBadSize, cUnknownCase, cSizeMismatch, cThinwallError⟩) 2) := ⟨_, _, PySem.W.mg_of X G0 a13, k13, B13, ok_spoil (G := ⟨K, TabMap [(pR, q)]⟩) F13 T0 C_Split_cell C_Split_marks C_Split_cells⟩
  have C_told : TellC l.prog w K mg base ⟨K, TabMap [(pR, q)]⟩ (ToldK ⟨cSplit, cBadSize, cUnknownCase, cSizeMismatch, cThinwallError⟩) := ⟨_, st_law_told, _, _, _, _, _, _, _, _, _, _, PySem.W.mg_of X G0 a14, k14, l14, c14, B14, sc_law_told, rfl, .inl rfl, fun X0 q0 _ _ hK hM _ => told_k (G := ⟨K, TabMap [(pR, q)]⟩) T hK hM⟩
  have C__law_refused : Cal l.prog w K mg base CX0 9 "_law_refused" ["bag", "split", "many"] (spOf ⟨K, TabMap [(pR, q)]⟩ (fn_refused ⟨K, TabMap [(pR, q)]⟩ ⟨cSplit, cBadSize, cUnknownCase, cSizeMismatch, cThinwallError⟩) 3) := ⟨_, _, PySem.W.mg_of X G0 a15, k15, B15, ok_refused (G := ⟨K, TabMap [(pR, q)]⟩) (Tl := [(pR, q)]) ⟨_, _, _, _, _, _, _, _, rfl, l15, c15⟩ T (TBs (cR, pR) (List.mem_singleton.mpr rfl)) (List.mem_singleton.mpr rfl) (fun p hp _ => by rw [hq p hp]) rfl C__law_far C__law_take C_told C_Split_cell C_Split_together C_Split S4⟩
  have C__law_equal : Cal l.prog w K mg base CX0 8 "_law_equal" ["split", "low", "lists"] (spOf ⟨K, TabMap [(pR, q)]⟩ (fn_equal ⟨K, TabMap [(pR, q)]⟩ ⟨cSplit, cBadSize, cUnknownCase, cSizeMismatch, cThinwallError⟩) 3) := ⟨_, _, PySem.W.mg_of X G0 a16, k16, B16, ok_equal (G := ⟨K, TabMap [(pR, q)]⟩) F16 T0 S NN C_Split C__law_low S4 C_eq⟩
  exact ok_law (G := ⟨K, TabMap [(pR, q)]⟩) F17 T0 C__law_start C__law_take C__law_number C__law_low C_Split S4 C__law_shown C__law_due C__law_spoil C__law_refused C__law_equal
end K

open PySem PySem.W PyProof.Rows in
set_option maxRecDepth 100000 in
set_option maxHeartbeats 0 in
theorem PySem.Challenge.cw_thinwall_k00_split_tells_its_cells_holds : PySem.Challenge.rw_thinwall_k00_split_tells_its_cells.Holds := by
  w_on; o_law; k_head; (case hw => w_witness2)
  k_fill
  refine LamX.walk_ofTs (l := PySem.Challenge.rw_thinwall_k00_split_tells_its_cells) (n := 63) (k := 10) (x := "script") (CX := fun _ => L2.CX0) rfl (by decide) rfl ⟨rfl, by decide, by decide⟩ (fun w h Y => PySem.W.km_in_of Y) ?F (fun _ _ _ _ _ z => z)
  case F =>
    intro w mg fa h Y KX G hmg
    refine' K.all_mk KX G hmg ?gThinwallError ?gSizeMismatch ?gUnknownCase ?gBadSize ?gSplit ?a1 ?l1 ?c1 ?k1 ?a2 ?l2 ?c2 ?k2 ?a3 ?l3 ?c3 ?k3 ?a4 ?l4 ?c4 ?k4 ?a5 ?l5 ?c5 ?k5 ?a6 ?l6 ?c6 ?k6 ?a7 ?l7 ?c7 ?k7 ?a8 ?l8 ?c8 ?k8 ?a9 ?l9 ?c9 ?k9 ?a10 ?l10 ?c10 ?k10 ?a11 ?l11 ?c11 ?k11 ?a12 ?l12 ?c12 ?k12 ?a13 ?l13 ?c13 ?k13 ?a14 ?l14 ?c14 ?k14 ?a15 ?l15 ?c15 ?k15 ?a16 ?l16 ?c16 ?k16 ?a17 ?l17 ?c17 ?k17 ?a30 ?i30 ?l30 ?c30 ?k30 ?a31 ?i31 ?l31 ?c31 ?k31 ?a32 ?i32 ?l32 ?c32 ?k32 ?a33 ?i33 ?l33 ?c33 ?k33 ?a34 ?i34 ?l34 ?c34 ?k34 ?a35 ?i35 ?l35 ?c35 ?k35 ?a36 ?i36 ?l36 ?c36 ?k36 ?b_len ?b_range ?b_enumerate ?b_list ?b_tuple ?b_int ?b_str ?b_bool ?b_isinstance ?b_ValueError ?b_super ?pg ?hd ?po ?sa ?na0 ?na1 ?rd ?mga ?most ?mk ?kc ?cla ?cln ?clt ?clm ?eqn ?y_ii ?y_ib ?y_si ?y_ss ?y_li ?y_ls ?y_ll ?y_lt ?y_ti ?y_ts ?y_tl ?y_tt ?p_ss ?p_si ?p_sr ?p_sl ?p_st ?n_s ?n_i ?n_t ?n_l ?n_u ?xBadSize ?saBadSize ?gaBadSize ?ggBadSize ?nfBadSize ?inBadSize ?tiBadSize ?exBadSize ?veBadSize ?tyBadSize ?keBadSize ?hdBadSize ?isBadSize ?suBadSize ?moBadSize ?acBadSize ?siBadSize ?lfBadSize ?cdBadSize ?ceBadSize ?coBadSize ?cfBadSize ?cgBadSize ?xUnknownCase ?saUnknownCase ?gaUnknownCase ?ggUnknownCase ?nfUnknownCase ?inUnknownCase ?tiUnknownCase ?exUnknownCase ?veUnknownCase ?tyUnknownCase ?keUnknownCase ?hdUnknownCase ?isUnknownCase ?suUnknownCase ?moUnknownCase ?acUnknownCase ?siUnknownCase ?lfUnknownCase ?cdUnknownCase ?ceUnknownCase ?coUnknownCase ?cfUnknownCase ?cgUnknownCase ?tp ?ht ?e_m1 ?e_m2 ?e_m3 ?e_k1 ?e_k2 ?e_k3 ?e_k4 ?e_k5 ?e_k6 ?tb ?tp2 ?ch ?np ?hT
    (case gThinwallError => k_is)
    (case gSizeMismatch => k_is)
    (case gUnknownCase => k_is)
    (case gBadSize => k_is)
    (case gSplit => k_is)
    (case a1 => k_is)
    (case l1 => k_is)
    (case c1 => k_is)
    (case k1 => k_is)
    (case a2 => k_is)
    (case l2 => k_is)
    (case c2 => k_is)
    (case k2 => k_is)
    (case a3 => k_is)
    (case l3 => k_is)
    (case c3 => k_is)
    (case k3 => k_is)
    (case a4 => k_is)
    (case l4 => k_is)
    (case c4 => k_is)
    (case k4 => k_is)
    (case a5 => k_is)
    (case l5 => k_is)
    (case c5 => k_is)
    (case k5 => k_is)
    (case a6 => k_is)
    (case l6 => k_is)
    (case c6 => k_is)
    (case k6 => k_is)
    (case a7 => k_is)
    (case l7 => k_is)
    (case c7 => k_is)
    (case k7 => k_is)
    (case a8 => k_is)
    (case l8 => k_is)
    (case c8 => k_is)
    (case k8 => k_is)
    (case a9 => k_is)
    (case l9 => k_is)
    (case c9 => k_is)
    (case k9 => k_is)
    (case a10 => k_is)
    (case l10 => k_is)
    (case c10 => k_is)
    (case k10 => k_is)
    (case a11 => k_is)
    (case l11 => k_is)
    (case c11 => k_is)
    (case k11 => k_is)
    (case a12 => k_is)
    (case l12 => k_is)
    (case c12 => k_is)
    (case k12 => k_is)
    (case a13 => k_is)
    (case l13 => k_is)
    (case c13 => k_is)
    (case k13 => k_is)
    (case a14 => k_is)
    (case l14 => k_is)
    (case c14 => k_is)
    (case k14 => k_is)
    (case a15 => k_is)
    (case l15 => k_is)
    (case c15 => k_is)
    (case k15 => k_is)
    (case a16 => k_is)
    (case l16 => k_is)
    (case c16 => k_is)
    (case k16 => k_is)
    (case a17 => k_is)
    (case l17 => k_is)
    (case c17 => k_is)
    (case k17 => k_is)
    (case a30 => k_is)
    (case i30 => k_is)
    (case l30 => k_is)
    (case c30 => k_is)
    (case k30 => k_is)
    (case a31 => k_is)
    (case i31 => k_is)
    (case l31 => k_is)
    (case c31 => k_is)
    (case k31 => k_is)
    (case a32 => k_is)
    (case i32 => k_is)
    (case l32 => k_is)
    (case c32 => k_is)
    (case k32 => k_is)
    (case a33 => k_is)
    (case i33 => k_is)
    (case l33 => k_is)
    (case c33 => k_is)
    (case k33 => k_is)
    (case a34 => k_is)
    (case i34 => k_is)
    (case l34 => k_is)
    (case c34 => k_is)
    (case k34 => k_is)
    (case a35 => k_is)
    (case i35 => k_is)
    (case l35 => k_is)
    (case c35 => k_is)
    (case k35 => k_is)
    (case a36 => k_is)
    (case i36 => k_is)
    (case l36 => k_is)
    (case c36 => k_is)
    (case k36 => k_is)
    (case b_len => k_is)
    (case b_range => k_is)
    (case b_enumerate => k_is)
    (case b_list => k_is)
    (case b_tuple => k_is)
    (case b_int => k_is)
    (case b_str => k_is)
    (case b_bool => k_is)
    (case b_isinstance => k_is)
    (case b_ValueError => k_is)
    (case b_super => k_is)
    (case pg => k_is)
    (case hd => k_is)
    (case po => k_is)
    (case sa => k_is)
    (case na0 => k_is)
    (case na1 => k_is)
    (case rd => k_is)
    (case mga => k_is)
    (case most => k_is)
    (case mk => k_is)
    (case kc => k_is)
    (case cla => k_is)
    (case cln => k_is)
    (case clt => k_is)
    (case clm => k_is)
    (case eqn => k_is)
    (case y_ii => first | kernel_rfl | decide +kernel | rfl)
    (case y_ib => first | kernel_rfl | decide +kernel | rfl)
    (case y_si => first | kernel_rfl | decide +kernel | rfl)
    (case y_ss => first | kernel_rfl | decide +kernel | rfl)
    (case y_li => first | kernel_rfl | decide +kernel | rfl)
    (case y_ls => first | kernel_rfl | decide +kernel | rfl)
    (case y_ll => first | kernel_rfl | decide +kernel | rfl)
    (case y_lt => first | kernel_rfl | decide +kernel | rfl)
    (case y_ti => first | kernel_rfl | decide +kernel | rfl)
    (case y_ts => first | kernel_rfl | decide +kernel | rfl)
    (case y_tl => first | kernel_rfl | decide +kernel | rfl)
    (case y_tt => first | kernel_rfl | decide +kernel | rfl)
    (case p_ss => first | kernel_rfl | decide +kernel | rfl)
    (case p_si => first | kernel_rfl | decide +kernel | rfl)
    (case p_sr => first | kernel_rfl | decide +kernel | rfl)
    (case p_sl => first | kernel_rfl | decide +kernel | rfl)
    (case p_st => first | kernel_rfl | decide +kernel | rfl)
    (case n_s => first | kernel_rfl | decide +kernel | rfl)
    (case n_i => first | kernel_rfl | decide +kernel | rfl)
    (case n_t => first | kernel_rfl | decide +kernel | rfl)
    (case n_l => first | kernel_rfl | decide +kernel | rfl)
    (case n_u => first | kernel_rfl | decide +kernel | rfl)
    (case xBadSize => k_is)
    (case saBadSize => k_is)
    (case gaBadSize => k_is)
    (case ggBadSize => k_is)
    (case nfBadSize => k_is)
    (case inBadSize => k_is)
    (case tiBadSize => k_is)
    (case exBadSize => k_is)
    (case veBadSize => k_is)
    (case tyBadSize => k_is)
    (case keBadSize => k_is)
    (case hdBadSize => k_is)
    (case isBadSize => first | kernel_rfl | decide +kernel | rfl)
    (case suBadSize => k_is)
    (case moBadSize => k_is)
    (case acBadSize => k_is)
    (case siBadSize => first | kernel_rfl | decide +kernel | rfl)
    (case lfBadSize => k_is)
    (case cdBadSize => k_is)
    (case ceBadSize => k_is)
    (case coBadSize => k_is)
    (case cfBadSize => rfl)
    (case cgBadSize => first | rfl | decide +kernel | kernel_rfl)
    (case xUnknownCase => k_is)
    (case saUnknownCase => k_is)
    (case gaUnknownCase => k_is)
    (case ggUnknownCase => k_is)
    (case nfUnknownCase => k_is)
    (case inUnknownCase => k_is)
    (case tiUnknownCase => k_is)
    (case exUnknownCase => k_is)
    (case veUnknownCase => k_is)
    (case tyUnknownCase => k_is)
    (case keUnknownCase => k_is)
    (case hdUnknownCase => k_is)
    (case isUnknownCase => first | kernel_rfl | decide +kernel | rfl)
    (case suUnknownCase => k_is)
    (case moUnknownCase => k_is)
    (case acUnknownCase => k_is)
    (case siUnknownCase => first | kernel_rfl | decide +kernel | rfl)
    (case lfUnknownCase => k_is)
    (case cdUnknownCase => k_is)
    (case ceUnknownCase => k_is)
    (case coUnknownCase => k_is)
    (case cfUnknownCase => rfl)
    (case cgUnknownCase => first | rfl | decide +kernel | kernel_rfl)
    (case tp => k_is)
    (case ht => first | rfl | decide +kernel | kernel_rfl)
    (case e_m1 => first | kernel_rfl | decide +kernel | rfl)
    (case e_m2 => first | kernel_rfl | decide +kernel | rfl)
    (case e_m3 => first | kernel_rfl | decide +kernel | rfl)
    (case e_k1 => first | kernel_rfl | decide +kernel | rfl)
    (case e_k2 => first | kernel_rfl | decide +kernel | rfl)
    (case e_k3 => first | kernel_rfl | decide +kernel | rfl)
    (case e_k4 => first | kernel_rfl | decide +kernel | rfl)
    (case e_k5 => first | kernel_rfl | decide +kernel | rfl)
    (case e_k6 => first | kernel_rfl | decide +kernel | rfl)
    (case tb => k_is)
    (case tp2 => rfl)
    (case ch => kernel_rfl)
    (case np => first | kernel_rfl | rfl | decide +kernel)
    (case hT => exact PySem.W.km_tabs_of Y _ (by first | k_mem | simp))
