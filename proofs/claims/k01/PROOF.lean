import PyProof.Rows.All
import Wide.All
import OpenK.AllK
import Wide.FinOn
import HandS.ForMost
import HandS.Nested
import HandS.Lambda
import HandS.Wide
import HandS.Style
import HandS.IsInst
import HandS.ForExc
import HandS.Zip
import HandS.ClsMeth
import HandS.Text
import HandS.Conv
import KE.KExcSuper
import HandS.ExcInit
import HandS.ExcSuper
import HandS.FStr
import PyProof.FitsInt
import HandS.OwnEq
import HandS.More
import KE.KExcIs
import HandS.ExcField
import HandS.Deep
import KE.KDictZip
import PyProof.Draws
import PyProof.EnumMake
import PySem.Challenge.RW_thinwall_k01_meet_join_and_finer
import KE.KNestM
import KE.KLam
import HandS.EndTab
set_option Elab.async false
set_option linter.all false
set_option maxRecDepth 100000
set_option maxHeartbeats 4000000
namespace ML
open PySem L2

/-! ### data, as the pure side sees it -/
/-- a value that no one changes, with all that hangs on it -/
inductive D where
  | non | bl (b : Bool) | int (i : Int) | str (x : Str) | ty (n : Nat) | cls (C : Nat)
  | lst (xs : List D) | rol (xs : List D) | tup (xs : List D) | rot (xs : List D)
  | ins (C : Nat) (ns : List Nat) (xs : List D)
  | dct (ks : List Key) (xs : List D) | dtt (ks : List (List Key)) (xs : List D)
/-- what a name holds: data; an object of our own; the handled exception -/
inductive PV where
  | fr (d : D) | rf (i : Nat) | ex (C : Nat) (ns : List Nat) (ds : List D)
/-- an object of our own -/
inductive O where
  | lst (xs : List D) | mix (ps : List PV) | dK (kvs : List (Key × D)) | dT (kvs : List (List Key × D))
  | ins (C : Nat) (ns : List Nat) (ps : List PV) | set (ns : List Int) | ice (d : D) | gone

/-- the built-in types by numbers -/
def tyName : Nat → String
  | 0 => "NoneType" | 1 => "bool" | 2 => "int" | 3 => "str" | 4 => "list" | 5 => "tuple" | 6 => "dict" | 7 => "set" | 8 => "ValueError" | _ => "object"
structure Bs where
  K : PySem.W.Frag
  cl : Nat → Addr
  nm : Nat → Str
  inj : ∀ i j, nm i = nm j → i = j
/-- what stands through the whole law: the written part, the classes, the tables of code objects; the handled exception and its dict -/
structure Ct where
  b : Bs
  T : List NdefX.NTab
  xc : Nat := 0
  xa : Addr := 0
  xd : Addr := 0

mutual
def Is (b : Bs) (W : Hp) : D → V → Prop
  | .non, v => v = .non
  | .bl k, v => v = .bl k
  | .int i, v => v = .int i
  | .str x, v => v = .str x
  | .ty n, v => v = .ty (tyName n)
  | .cls C, v => v = .ref (b.cl C)
  | .lst ds, v => ∃ a vs, v = .ref a ∧ W a = some (.lst vs) ∧ IsL b W ds vs
  | .rol ds, v => ∃ a vs, v = .ref a ∧ SqL b.K W a vs ∧ IsL b W ds vs
  | .tup ds, v => ∃ a vs, v = .ref a ∧ W a = some (.tup vs) ∧ IsL b W ds vs
  | .rot ds, v => ∃ a vs, v = .ref a ∧ SqT b.K W a vs ∧ IsL b W ds vs
  | .ins C ns ds, v => ∃ a dx vs, v = .ref a ∧ W a = some (.ins (b.cl C) dx ((ns.map b.nm).zip vs)) ∧ ns.length = vs.length ∧ IsL b W ds vs
  | .dct ks ds, v => ∃ a vs, v = .ref a ∧ W a = some (.dK (ks.zip vs)) ∧ ks.length = vs.length ∧ IsL b W ds vs
  | .dtt ks ds, v => ∃ a vs, v = .ref a ∧ W a = some (.dT (ks.zip vs)) ∧ ks.length = vs.length ∧ IsL b W ds vs
def IsL (b : Bs) (W : Hp) : List D → List V → Prop
  | [], vs => vs = []
  | d :: ds, vs => ∃ v ws, vs = v :: ws ∧ Is b W d v ∧ IsL b W ds ws
end

theorem _root_.L2.Same.sqt {K : PySem.W.Frag} {H H' : Hp} {a : Addr} {xs : List V} (e : Same H H') (h : SqT K H a xs) : SqT K H' a xs := by
  rcases h with (h | ⟨o, h⟩) | h
  · exact .inl (.inl (e _ _ h))
  · exact .inl (.inr ⟨o, e _ _ h⟩)
  · exact .inr h

section
variable {b : Bs} {W W' : Hp} {v : V} {ds : List D}
theorem is_non : Is b W .non v ↔ v = .non := by unfold Is; rfl
theorem is_bl {k : Bool} : Is b W (.bl k) v ↔ v = .bl k := by unfold Is; rfl
theorem is_int {n : Int} : Is b W (.int n) v ↔ v = .int n := by unfold Is; rfl
theorem is_str {n : Str} : Is b W (.str n) v ↔ v = .str n := by unfold Is; rfl
theorem is_ty {n : Nat} : Is b W (.ty n) v ↔ v = .ty (tyName n) := by unfold Is; rfl
theorem is_cls {C : Nat} : Is b W (.cls C) v ↔ v = .ref (b.cl C) := by unfold Is; rfl
theorem is_lst : Is b W (.lst ds) v ↔ ∃ a vs, v = .ref a ∧ W a = some (.lst vs) ∧ IsL b W ds vs := by unfold Is; rfl
theorem is_rol : Is b W (.rol ds) v ↔ ∃ a vs, v = .ref a ∧ SqL b.K W a vs ∧ IsL b W ds vs := by unfold Is; rfl
theorem is_tup : Is b W (.tup ds) v ↔ ∃ a vs, v = .ref a ∧ W a = some (.tup vs) ∧ IsL b W ds vs := by unfold Is; rfl
theorem is_rot : Is b W (.rot ds) v ↔ ∃ a vs, v = .ref a ∧ SqT b.K W a vs ∧ IsL b W ds vs := by unfold Is; rfl
theorem is_ins {C : Nat} {ns : List Nat} : Is b W (.ins C ns ds) v ↔ ∃ a dx vs, v = .ref a ∧ W a = some (.ins (b.cl C) dx ((ns.map b.nm).zip vs)) ∧ ns.length = vs.length ∧ IsL b W ds vs := by unfold Is; rfl
theorem is_dct {ks : List Key} : Is b W (.dct ks ds) v ↔ ∃ a vs, v = .ref a ∧ W a = some (.dK (ks.zip vs)) ∧ ks.length = vs.length ∧ IsL b W ds vs := by unfold Is; rfl
theorem is_dtt {ks : List (List Key)} : Is b W (.dtt ks ds) v ↔ ∃ a vs, v = .ref a ∧ W a = some (.dT (ks.zip vs)) ∧ ks.length = vs.length ∧ IsL b W ds vs := by unfold Is; rfl
end
mutual
theorem Is.mono {b : Bs} {W W' : Hp} (e : Same W W') : ∀ {d : D} {v : V}, Is b W d v → Is b W' d v
  | .non, _, h => h
  | .bl _, _, h => h
  | .int _, _, h => h
  | .str _, _, h => h
  | .ty _, _, h => h
  | .cls _, _, h => h
  | .lst ds, v, h => by
    rw [is_lst] at h ⊢
    obtain ⟨a, vs, h1, h2, h3⟩ := h
    exact ⟨a, vs, h1, e _ _ h2, IsL.mono e h3⟩
  | .rol ds, v, h => by
    rw [is_rol] at h ⊢
    obtain ⟨a, vs, h1, h2, h3⟩ := h
    exact ⟨a, vs, h1, e.seq h2, IsL.mono e h3⟩
  | .tup ds, v, h => by
    rw [is_tup] at h ⊢
    obtain ⟨a, vs, h1, h2, h3⟩ := h
    exact ⟨a, vs, h1, e _ _ h2, IsL.mono e h3⟩
  | .rot ds, v, h => by
    rw [is_rot] at h ⊢
    obtain ⟨a, vs, h1, h2, h3⟩ := h
    exact ⟨a, vs, h1, L2.Same.sqt e h2, IsL.mono e h3⟩
  | .ins C ns ds, v, h => by
    rw [is_ins] at h ⊢
    obtain ⟨a, dx, vs, h1, h2, h3, h4⟩ := h
    exact ⟨a, dx, vs, h1, e _ _ h2, h3, IsL.mono e h4⟩
  | .dct ks ds, v, h => by
    rw [is_dct] at h ⊢
    obtain ⟨a, vs, h1, h2, h3, h4⟩ := h
    exact ⟨a, vs, h1, e _ _ h2, h3, IsL.mono e h4⟩
  | .dtt ks ds, v, h => by
    rw [is_dtt] at h ⊢
    obtain ⟨a, vs, h1, h2, h3, h4⟩ := h
    exact ⟨a, vs, h1, e _ _ h2, h3, IsL.mono e h4⟩
theorem IsL.mono {b : Bs} {W W' : Hp} (e : Same W W') : ∀ {ds : List D} {vs : List V}, IsL b W ds vs → IsL b W' ds vs
  | [], _, h => h
  | d :: ds, vs, h => by
    unfold IsL at h ⊢
    obtain ⟨v, ws, h1, h2, h3⟩ := h
    exact ⟨v, ws, h1, Is.mono e h2, IsL.mono e h3⟩
end
section
variable {b : Bs} {W : Hp}
theorem IsL.len : ∀ {ds : List D} {vs : List V}, IsL b W ds vs → ds.length = vs.length
  | [], vs, h => by unfold IsL at h; subst h; rfl
  | d :: ds, vs, h => by
    unfold IsL at h
    obtain ⟨v, ws, rfl, _, h3⟩ := h
    simp [IsL.len h3]
theorem IsL.nil : IsL b W [] [] := by unfold IsL; rfl
theorem IsL.cons {d : D} {v : V} {ds : List D} {vs : List V} (h : Is b W d v) (t : IsL b W ds vs) : IsL b W (d :: ds) (v :: vs) := by
  unfold IsL
  exact ⟨v, vs, rfl, h, t⟩
theorem IsL.nil_inv {vs : List V} (h : IsL b W [] vs) : vs = [] := by unfold IsL at h; exact h
theorem IsL.uncons {d : D} {ds : List D} {vs : List V} (h : IsL b W (d :: ds) vs) : ∃ v ws, vs = v :: ws ∧ Is b W d v ∧ IsL b W ds ws := by
  unfold IsL at h
  exact h
theorem IsL.get : ∀ {ds : List D} {vs : List V} {i : Nat} {d : D}, IsL b W ds vs → ds[i]? = some d → ∃ v, vs[i]? = some v ∧ Is b W d v
  | [], vs, i, d, h, e => by simp at e
  | d' :: ds, vs, 0, d, h, e => by
    obtain ⟨v, ws, rfl, h2, h3⟩ := h.uncons
    simp at e
    subst e
    exact ⟨v, rfl, h2⟩
  | d' :: ds, vs, i + 1, d, h, e => by
    obtain ⟨v, ws, rfl, h2, h3⟩ := h.uncons
    obtain ⟨v', e1, e2⟩ := IsL.get (i := i) h3 (by simpa using e)
    exact ⟨v', by simpa using e1, e2⟩
theorem IsL.append : ∀ {ds es : List D} {vs ws : List V}, IsL b W ds vs → IsL b W es ws → IsL b W (ds ++ es) (vs ++ ws)
  | [], es, vs, ws, h, h' => by unfold IsL at h; subst h; exact h'
  | d :: ds, es, vs, ws, h, h' => by
    obtain ⟨v, us, rfl, h2, h3⟩ := h.uncons
    exact IsL.cons h2 (IsL.append h3 h')
theorem IsL.one {d : D} {v : V} (h : Is b W d v) : IsL b W [d] [v] := IsL.cons h IsL.nil
theorem IsL.set : ∀ {ds : List D} {vs : List V} {d : D} {v : V} (i : Nat), IsL b W ds vs → Is b W d v → IsL b W (ds.set i d) (vs.set i v)
  | [], vs, d, v, i, h, h' => by unfold IsL at h; subst h; exact IsL.nil
  | d' :: ds, vs, d, v, 0, h, h' => by
    obtain ⟨v', us, rfl, h2, h3⟩ := h.uncons
    exact IsL.cons h' h3
  | d' :: ds, vs, d, v, i + 1, h, h' => by
    obtain ⟨v', us, rfl, h2, h3⟩ := h.uncons
    exact IsL.cons h2 (IsL.set i h3 h')
theorem IsL.drop : ∀ {ds : List D} {vs : List V} (n : Nat), IsL b W ds vs → IsL b W (ds.drop n) (vs.drop n)
  | ds, vs, 0, h => h
  | [], vs, n + 1, h => by unfold IsL at h; subst h; exact IsL.nil
  | d :: ds, vs, n + 1, h => by
    obtain ⟨v', us, rfl, h2, h3⟩ := h.uncons
    exact IsL.drop n h3
theorem IsL.take : ∀ {ds : List D} {vs : List V} (n : Nat), IsL b W ds vs → IsL b W (ds.take n) (vs.take n)
  | ds, vs, 0, h => by simp; exact IsL.nil
  | [], vs, n + 1, h => by unfold IsL at h; subst h; exact IsL.nil
  | d :: ds, vs, n + 1, h => by
    obtain ⟨v', us, rfl, h2, h3⟩ := h.uncons
    exact IsL.cons h2 (IsL.take n h3)
theorem IsL.reverse : ∀ {ds : List D} {vs : List V}, IsL b W ds vs → IsL b W ds.reverse vs.reverse
  | [], vs, h => by unfold IsL at h; subst h; exact IsL.nil
  | d :: ds, vs, h => by
    obtain ⟨v, us, rfl, h2, h3⟩ := h.uncons
    rw [List.reverse_cons, List.reverse_cons]
    exact (IsL.reverse h3).append (IsL.one h2)
theorem IsL.eraseIdx : ∀ {ds : List D} {vs : List V} (i : Nat), IsL b W ds vs → IsL b W (ds.eraseIdx i) (vs.eraseIdx i)
  | [], vs, i, h => by unfold IsL at h; subst h; exact IsL.nil
  | d :: ds, vs, 0, h => by
    obtain ⟨v, us, rfl, h2, h3⟩ := h.uncons
    exact h3
  | d :: ds, vs, i + 1, h => by
    obtain ⟨v, us, rfl, h2, h3⟩ := h.uncons
    exact IsL.cons h2 (IsL.eraseIdx i h3)
theorem IsL.dropLast {ds : List D} {vs : List V} (h : IsL b W ds vs) : IsL b W ds.dropLast vs.dropLast := by
  rw [List.dropLast_eq_take, List.dropLast_eq_take, ← h.len]
  exact h.take _
end

/-! ### addresses of our own things -/
/-- what is known goes on to be known -/
def Grow (α β : List Addr) : Prop := ∀ (i : Nat) (a : Addr), α[i]? = some a → β[i]? = some a
theorem Grow.refl (α : List Addr) : Grow α α := fun _ _ h => h
theorem Grow.trans {α β γ : List Addr} (h : Grow α β) (k : Grow β γ) : Grow α γ := fun i a e => k i a (h i a e)
theorem grow_app (α : List Addr) (t : List Addr) : Grow α (α ++ t) := fun i a e => by
  rw [List.getElem?_append_left (List.getElem?_eq_some_iff.mp e).1]
  exact e
def IsP (G : Ct) (α : List Addr) (W : Hp) : PV → V → Prop
  | .fr d, v => Is G.b W d v
  | .rf i, v => ∃ a, α[i]? = some a ∧ v = .ref a
  | .ex C ns ds, v => C = G.xc ∧ v = .ref G.xa ∧ ∃ vs, W G.xd = some (.xd ((ns.map G.b.nm).zip vs)) ∧ IsL G.b W ds vs
def IsPs (G : Ct) (α : List Addr) (W : Hp) : List PV → List V → Prop
  | [], vs => vs = []
  | p :: ps, vs => ∃ v ws, vs = v :: ws ∧ IsP G α W p v ∧ IsPs G α W ps ws
section
variable {G : Ct} {α β : List Addr} {W W' : Hp}
theorem IsP.mono (e : Same W W') (l : Grow α β) : ∀ {p : PV} {v : V}, IsP G α W p v → IsP G β W' p v
  | .fr d, v, h => Is.mono e h
  | .rf i, v, ⟨a, h1, h2⟩ => ⟨a, l _ _ h1, h2⟩
  | .ex C ns ds, v, ⟨h0, h1, vs, h2, h3⟩ => ⟨h0, h1, vs, e _ _ h2, h3.mono e⟩
theorem IsPs.mono (e : Same W W') (l : Grow α β) : ∀ {ps : List PV} {vs : List V}, IsPs G α W ps vs → IsPs G β W' ps vs
  | [], vs, h => h
  | p :: ps, vs, ⟨v, ws, h1, h2, h3⟩ => ⟨v, ws, h1, h2.mono e l, IsPs.mono e l h3⟩
theorem IsPs.len : ∀ {ps : List PV} {vs : List V}, IsPs G α W ps vs → ps.length = vs.length
  | [], vs, h => by rw [show vs = [] from h]; rfl
  | p :: ps, vs, ⟨v, ws, h1, h2, h3⟩ => by subst h1; simp [IsPs.len h3]
theorem IsPs.nil : IsPs G α W [] [] := rfl
theorem IsPs.cons {p : PV} {v : V} {ps : List PV} {vs : List V} (h : IsP G α W p v) (t : IsPs G α W ps vs) : IsPs G α W (p :: ps) (v :: vs) := ⟨v, vs, rfl, h, t⟩
theorem IsPs.get : ∀ {ps : List PV} {vs : List V} {i : Nat} {p : PV}, IsPs G α W ps vs → ps[i]? = some p → ∃ v, vs[i]? = some v ∧ IsP G α W p v
  | [], vs, i, p, h, e => by simp at e
  | q :: ps, vs, 0, p, ⟨v, ws, h1, h2, h3⟩, e => by
    simp at e
    subst e h1
    exact ⟨v, rfl, h2⟩
  | q :: ps, vs, i + 1, p, ⟨v, ws, h1, h2, h3⟩, e => by
    subst h1
    obtain ⟨v', e1, e2⟩ := IsPs.get (i := i) h3 (by simpa using e)
    exact ⟨v', by simpa using e1, e2⟩
theorem IsPs.set : ∀ {ps : List PV} {vs : List V} {p : PV} {v : V} (i : Nat), IsPs G α W ps vs → IsP G α W p v → IsPs G α W (ps.set i p) (vs.set i v)
  | [], vs, p, v, i, h, h' => by rw [show vs = [] from h]; exact rfl
  | q :: ps, vs, p, v, 0, ⟨v', ws, h1, h2, h3⟩, h' => by subst h1; exact IsPs.cons h' h3
  | q :: ps, vs, p, v, i + 1, ⟨v', ws, h1, h2, h3⟩, h' => by subst h1; exact IsPs.cons h2 (IsPs.set i h3 h')
theorem IsPs.append : ∀ {ps qs : List PV} {vs ws : List V}, IsPs G α W ps vs → IsPs G α W qs ws → IsPs G α W (ps ++ qs) (vs ++ ws)
  | [], qs, vs, ws, h, h' => by rw [show vs = [] from h]; exact h'
  | p :: ps, qs, vs, ws, ⟨v', us, h1, h2, h3⟩, h' => by subst h1; exact IsPs.cons h2 (IsPs.append h3 h')
theorem isPs_fr : ∀ {ds : List D} {vs : List V}, IsPs G α W (ds.map .fr) vs ↔ IsL G.b W ds vs
  | [], vs => by unfold IsL; rfl
  | d :: ds, vs => by
    unfold IsL
    exact ⟨fun ⟨v, ws, h1, h2, h3⟩ => ⟨v, ws, h1, h2, isPs_fr.mp h3⟩, fun ⟨v, ws, h1, h2, h3⟩ => ⟨v, ws, h1, h2, isPs_fr.mpr h3⟩⟩
end
/-- the object of our own as the heap holds it -/
def IsO (G : Ct) (α : List Addr) (W : Hp) : O → HO → Prop
  | .lst ds, ho => ∃ vs, ho = .lst vs ∧ IsL G.b W ds vs
  | .mix ps, ho => ∃ vs, ho = .lst vs ∧ IsPs G α W ps vs
  | .dK kvs, ho => ∃ vs, ho = .dK ((kvs.map (·.1)).zip vs) ∧ IsL G.b W (kvs.map (·.2)) vs
  | .dT kvs, ho => ∃ vs, ho = .dT ((kvs.map (·.1)).zip vs) ∧ IsL G.b W (kvs.map (·.2)) vs
  | .ins C ns ps, ho => ∃ dx vs, ho = .ins (G.b.cl C) dx ((ns.map G.b.nm).zip vs) ∧ ns.length = vs.length ∧ IsPs G α W ps vs
  | .set ns, ho => ho = .set (fun i => decide (i ∈ ns)) ns.length
  | .ice _, _ => False
  | .gone, _ => False
theorem IsO.mono {G : Ct} {α β : List Addr} {W W' : Hp} (e : Same W W') (l : Grow α β) : ∀ {o : O} {ho : HO}, IsO G α W o ho → IsO G β W' o ho
  | .lst ds, ho, ⟨vs, h1, h2⟩ => ⟨vs, h1, h2.mono e⟩
  | .mix ds, ho, ⟨vs, h1, h2⟩ => ⟨vs, h1, h2.mono e l⟩
  | .dK kvs, ho, ⟨vs, h1, h2⟩ => ⟨vs, h1, h2.mono e⟩
  | .dT kvs, ho, ⟨vs, h1, h2⟩ => ⟨vs, h1, h2.mono e⟩
  | .ins C ns ds, ho, ⟨dx, vs, h1, h2, h3⟩ => ⟨dx, vs, h1, h2, h3.mono e l⟩
  | .set ns, ho, h => h
theorem IsO.nt {G : Ct} {α : List Addr} {W : Hp} : ∀ {o : O} {ho : HO}, IsO G α W o ho → (∀ ps, ho ≠ .tbl ps) ∧ ∀ c0 q, ho ≠ LamX.CodeO c0 q
  | .lst ds, ho, ⟨vs, h1, h2⟩ => by subst h1; exact ⟨fun ps z => by (cases z), fun c0 q z => by unfold LamX.CodeO at z; cases z⟩
  | .mix ds, ho, ⟨vs, h1, h2⟩ => by subst h1; exact ⟨fun ps z => by (cases z), fun c0 q z => by unfold LamX.CodeO at z; cases z⟩
  | .dK kvs, ho, ⟨vs, h1, h2⟩ => by subst h1; exact ⟨fun ps z => by (cases z), fun c0 q z => by unfold LamX.CodeO at z; cases z⟩
  | .dT kvs, ho, ⟨vs, h1, h2⟩ => by subst h1; exact ⟨fun ps z => by (cases z), fun c0 q z => by unfold LamX.CodeO at z; cases z⟩
  | .ins C ns ds, ho, ⟨dx, vs, h1, h2, h3⟩ => by subst h1; exact ⟨fun ps z => by (cases z), fun c0 q z => by unfold LamX.CodeO at z; cases z⟩
  | .set ns, ho, h => by rw [show ho = _ from h]; exact ⟨fun ps z => by (cases z), fun c0 q z => by unfold LamX.CodeO at z; cases z⟩
end ML

namespace ML
open PySem L2

def Dis (m n : Hp) : Prop := ∀ a, m a = none ∨ n a = none
/-- no table of code objects among it -/
def NT (m : Hp) : Prop := ∀ a ps, m a ≠ some (.tbl ps)
theorem nt_upd {m : Hp} {p : Addr} {o : HO} (k : NT m) (h : ∀ ps, o ≠ .tbl ps) : NT (upd m p o) := fun a ps z => by
  by_cases q : a = p
  · rw [q, upd_same] at z; exact h ps (Option.some.inj z)
  · rw [upd_ne q] at z; exact k a ps z
theorem same_upd {H : Hp} {p : Addr} {o : HO} (h : H p = none) : Same H (upd H p o) := fun a u e => by rw [upd_ne (ne_of_none e h)]; exact e
theorem _root_.L2.Same.upd' {W H : Hp} {p : Addr} {o : HO} (s : Same W H) (hp : W p = none) : Same W (L2.upd H p o) := fun a u e => by rw [upd_ne (ne_of_none e hp)]; exact s a u e
theorem _root_.L2.Same.none' {W H : Hp} (s : Same W H) {p : Addr} (h : H p = Option.none) : W p = Option.none := s.free h
theorem same_upd2 {W H : Hp} {p : Addr} {o : HO} (s : Same W H) : Same (upd W p o) (upd H p o) := fun a u e => by
  by_cases q : a = p
  · subst q; rw [upd_same] at e ⊢; exact e
  · rw [upd_ne q] at e ⊢; exact s a u e

def Live : O → Bool
  | .ice _ => false
  | .gone => false
  | _ => true
def OwnAt (G : Ct) (α : List Addr) (W F H : Hp) (o : O) (a : Addr) : Prop :=
  match o with
  | .ice d => Is G.b W d (.ref a)
  | .gone => True
  | o => ∃ ho, H a = some ho ∧ IsO G α W o ho ∧ W a = none ∧ F a = none
theorem ownAt_live {G : Ct} {α : List Addr} {W F H : Hp} {o : O} {a : Addr} (h : Live o = true) : OwnAt G α W F H o a ↔ ∃ ho, H a = some ho ∧ IsO G α W o ho ∧ W a = none ∧ F a = none := by
  cases o <;> first | rfl | cases h
/-- the state: W what is never changed again, F what the callers own, hp what we own, at the addresses α -/
structure Cf (G : Ct) (α : List Addr) (W F H : Hp) (σ : L2.St) (env : List (Option PV)) (hp : List O) : Prop where
  len : env.length = σ.length
  env : ∀ (i : Nat) (p : PV), env[i]? = some (some p) → ∃ v, σ[i]? = some (some v) ∧ IsP G α W p v
  al : α.length = hp.length
  own : ∀ (i : Nat) o a, hp[i]? = some o → α[i]? = some a → OwnAt G α W F H o a
  inj : ∀ (i j : Nat) o o' a, hp[i]? = some o → hp[j]? = some o' → Live o = true → Live o' = true → α[i]? = some a → α[j]? = some a → i = j
  dFW : Dis F W
  sW : Same W H
  sF : Same F H
  tab : NdefX.TabsN G.T H
  nt : NT W ∧ NT F

section
variable {G : Ct} {α : List Addr} {W F H : Hp} {σ : L2.St} {env : List (Option PV)} {hp : List O} {p : Addr} {ho : HO} {o o' : O} {i : Nat} {a : Addr} {pv : PV} {v : V}
theorem Cf.addr (c : Cf G α W F H σ env hp) (h : hp[i]? = some o) : ∃ a, α[i]? = some a := by
  have h1 := (List.getElem?_eq_some_iff.mp h).1
  have h2 : i < α.length := by rw [c.al]; exact h1
  exact ⟨_, List.getElem?_eq_getElem h2⟩
theorem Cf.at (c : Cf G α W F H σ env hp) (h : hp[i]? = some o) (hl : Live o = true) : ∃ a ho, α[i]? = some a ∧ H a = some ho ∧ IsO G α W o ho ∧ W a = none ∧ F a = none := by
  obtain ⟨a, ha⟩ := c.addr h
  obtain ⟨ho, h1⟩ := (ownAt_live hl).mp (c.own i o a h ha)
  exact ⟨a, ho, ha, h1⟩
theorem Cf.live_ne (c : Cf G α W F H σ env hp) (hq : H p = none) (h : hp[i]? = some o) (hl : Live o = true) (ha : α[i]? = some a) : a ≠ p := fun z => by
  obtain ⟨ho, h1, _⟩ := (ownAt_live hl).mp (c.own i o a h ha)
  rw [z, hq] at h1
  cases h1
theorem OwnAt.mono {β : List Addr} {W' F' H' : Hp} (h : OwnAt G α W F H o a) (s : Same W W') (l : Grow α β) (hk : Live o = true → ∀ ho, H a = some ho → H' a = some ho ∧ (W a = none → W' a = none) ∧ (F a = none → F' a = none)) : OwnAt G β W' F' H' o a := by
  by_cases hl : Live o = true
  · obtain ⟨ho, h1, h2, h3, h4⟩ := (ownAt_live hl).mp h
    obtain ⟨k1, k2, k3⟩ := hk hl ho h1
    exact (ownAt_live hl).mpr ⟨ho, k1, h2.mono s l, k2 h3, k3 h4⟩
  · cases o <;> first | exact absurd rfl hl | exact Is.mono s h | trivial
/-- a new object that no one will change -/
theorem Cf.allocW (c : Cf G α W F H σ env hp) (hq : H p = none) (hn : ∀ ps, ho ≠ .tbl ps := by intro ps z; cases z) : Cf G α (upd W p ho) F (upd H p ho) σ env hp ∧ Same W (upd W p ho) := by
  have w0 := c.sW.none' hq
  have f0 := c.sF.none' hq
  have sw : Same W (upd W p ho) := same_upd w0
  refine ⟨⟨c.len, fun i q e => ?_, c.al, fun i o a e ea => ?_, c.inj, fun b => ?_, same_upd2 c.sW, c.sF.upd' f0, c.tab.ext (same_upd hq), nt_upd c.nt.1 hn, c.nt.2⟩, sw⟩
  · obtain ⟨v, h1, h2⟩ := c.env i q e
    exact ⟨v, h1, h2.mono sw (Grow.refl _)⟩
  · refine (c.own i o a e ea).mono sw (Grow.refl _) fun hl ho' h1 => ?_
    have n := c.live_ne hq e hl ea
    exact ⟨by rw [upd_ne n]; exact h1, fun z => by rw [upd_ne n]; exact z, id⟩
  · by_cases e : b = p
    · subst e; exact .inl f0
    · rw [upd_ne e]; exact c.dFW b
/-- a new object of our own -/
theorem Cf.new (c : Cf G α W F H σ env hp) (hq : H p = none) (hl : Live o = true) (io : IsO G α W o ho) : Cf G (α ++ [p]) W F (upd H p ho) σ env (hp ++ [o]) ∧ Grow α (α ++ [p]) := by
  have w0 := c.sW.none' hq
  have f0 := c.sF.none' hq
  have g := grow_app α [p]
  have new : ∀ {i : Nat} {o1 : O} {a : Addr}, (hp ++ [o])[i]? = some o1 → (α ++ [p])[i]? = some a → (hp[i]? = some o1 ∧ α[i]? = some a) ∨ (i = hp.length ∧ o1 = o ∧ a = p) := fun {i o1 a} e ea => by
    by_cases h : i < hp.length
    · rw [List.getElem?_append_left h] at e
      rw [List.getElem?_append_left (by rw [c.al]; exact h)] at ea
      exact .inl ⟨e, ea⟩
    · have hi : i = hp.length := by
        have := (List.getElem?_eq_some_iff.mp e).1
        rw [List.length_append, List.length_singleton] at this
        omega
      refine .inr ⟨hi, ?_, ?_⟩
      · subst hi; simpa using e.symm
      · subst hi; rw [← c.al] at ea; simpa using ea.symm
  refine ⟨⟨c.len, fun i q e => ?_, by simp [c.al], fun i o1 a e ea => ?_, fun i j o1 o2 a e1 e2 l1 l2 a1 a2 => ?_, c.dFW, c.sW.upd' w0, c.sF.upd' f0, c.tab.ext (same_upd hq), c.nt⟩, g⟩
  · obtain ⟨v, h1, h2⟩ := c.env i q e
    exact ⟨v, h1, h2.mono (Same.refl _) g⟩
  · rcases new e ea with ⟨h1, h2⟩ | ⟨_, rfl, rfl⟩
    · exact (c.own i o1 a h1 h2).mono (Same.refl _) g fun hl ho' h3 => ⟨by rw [upd_ne (c.live_ne hq h1 hl h2)]; exact h3, id, id⟩
    · exact (ownAt_live hl).mpr ⟨ho, upd_same, io.mono (Same.refl _) g, w0, f0⟩
  · rcases new e1 a1 with ⟨h1, h2⟩ | ⟨q1, q2, q3⟩
    · rcases new e2 a2 with ⟨h3, h4⟩ | ⟨q4, q5, q6⟩
      · exact c.inj i j o1 o2 a h1 h3 l1 l2 h2 h4
      · exact absurd q6 (c.live_ne hq h1 l1 h2)
    · rcases new e2 a2 with ⟨h3, h4⟩ | ⟨q4, q5, q6⟩
      · exact absurd q3 (c.live_ne hq h3 l2 h4)
      · rw [q1, q4]
/-- an object of our own is written -/
theorem Cf.put (c : Cf G α W F H σ env hp) (h : hp[i]? = some o) (hl : Live o = true) (ha : α[i]? = some a) (hl' : Live o' = true) (io : IsO G α W o' ho) : Cf G α W F (upd H a ho) σ env (hp.set i o') := by
  obtain ⟨h0, e1, e2, e3, e4⟩ := (ownAt_live hl).mp (c.own i o a h ha)
  have nt0 := e2.nt
  have old : ∀ {j : Nat} {o1 : O}, (hp.set i o')[j]? = some o1 → (j = i ∧ o1 = o') ∨ (j ≠ i ∧ hp[j]? = some o1) := fun {j o1} e => by
    by_cases q : j = i
    · subst q
      rw [List.getElem?_set_self (List.getElem?_eq_some_iff.mp h).1] at e
      exact .inl ⟨rfl, (Option.some.inj e).symm⟩
    · rw [List.getElem?_set_ne (Ne.symm q)] at e
      exact .inr ⟨q, e⟩
  refine ⟨c.len, c.env, by rw [List.length_set]; exact c.al, fun j o1 b e eb => ?_, fun j k o1 o2 b q1 q2 l1 l2 a1 a2 => ?_, c.dFW, c.sW.upd' e3, c.sF.upd' e4, fun q hq => ?_, c.nt⟩
  · rcases old e with ⟨rfl, rfl⟩ | ⟨n, e'⟩
    · rw [ha] at eb
      cases eb
      exact (ownAt_live hl').mpr ⟨ho, upd_same, io, e3, e4⟩
    · refine (c.own j o1 b e' eb).mono (Same.refl _) (Grow.refl _) fun hl1 ho' h3 => ⟨?_, id, id⟩
      have nb : b ≠ a := fun z => n (c.inj j i o1 o b e' h hl1 hl eb (by rw [z]; exact ha))
      rw [upd_ne nb]; exact h3
  · rcases old q1 with ⟨rfl, rfl⟩ | ⟨n, e1'⟩
    · rcases old q2 with ⟨rfl, rfl⟩ | ⟨n2, e2'⟩
      · rfl
      · exact c.inj _ _ o o2 b h e2' hl l2 a1 a2
    · rcases old q2 with ⟨rfl, rfl⟩ | ⟨n2, e2'⟩
      · exact c.inj _ _ o1 o b e1' h l1 hl a1 a2
      · exact c.inj _ _ o1 o2 b e1' e2' l1 l2 a1 a2
  · obtain ⟨ps, h1, h2, h3⟩ := c.tab q hq
    refine ⟨ps, by rw [upd_ne (fun z => nt0.1 ps (Option.some.inj (e1.symm.trans (by rw [← z]; exact h1))))]; exact h1, h2, fun pos cv e => ?_⟩
    obtain ⟨c0, k1, k2⟩ := h3 pos cv e
    exact ⟨c0, k1, by rw [upd_ne (fun z => nt0.2 c0 _ (Option.some.inj (e1.symm.trans (by rw [← z]; exact k2))))]; exact k2⟩
/-- an object of our own is never changed again -/
theorem Cf.freeze {d : D} (c : Cf G α W F H σ env hp) (h : hp[i]? = some o) (hl : Live o = true) (ha : α[i]? = some a) (hH : H a = some ho) (hd : ∀ W', Same W W' → W' a = some ho → Is G.b W' d (.ref a)) : Cf G α (upd W a ho) F H σ env (hp.set i (.ice d)) ∧ Same W (upd W a ho) := by
  obtain ⟨h0, e1, e2, e3, e4⟩ := (ownAt_live hl).mp (c.own i o a h ha)
  rw [hH] at e1
  cases e1
  have sw : Same W (upd W a ho) := same_upd e3
  have old : ∀ {j : Nat} {o1 : O}, (hp.set i (.ice d))[j]? = some o1 → (j = i ∧ o1 = .ice d) ∨ (j ≠ i ∧ hp[j]? = some o1) := fun {j o1} e => by
    by_cases q : j = i
    · subst q
      rw [List.getElem?_set_self (List.getElem?_eq_some_iff.mp h).1] at e
      exact .inl ⟨rfl, (Option.some.inj e).symm⟩
    · rw [List.getElem?_set_ne (Ne.symm q)] at e
      exact .inr ⟨q, e⟩
  refine ⟨⟨c.len, fun j q e => ?_, by rw [List.length_set]; exact c.al, fun j o1 b e eb => ?_, fun j k o1 o2 b q1 q2 l1 l2 a1 a2 => ?_, fun b => ?_, fun b u e => ?_, c.sF, c.tab, nt_upd c.nt.1 e2.nt.1, c.nt.2⟩, sw⟩
  · obtain ⟨v, h1, h2⟩ := c.env j q e
    exact ⟨v, h1, h2.mono sw (Grow.refl _)⟩
  · rcases old e with ⟨rfl, rfl⟩ | ⟨n, e'⟩
    · rw [ha] at eb
      cases eb
      exact hd _ sw upd_same
    · refine (c.own j o1 b e' eb).mono sw (Grow.refl _) fun hl1 ho' h3 => ⟨h3, fun z => ?_, id⟩
      have nb : b ≠ a := fun z => n (c.inj j i o1 o b e' h hl1 hl eb (by rw [z]; exact ha))
      rw [upd_ne nb]; exact z
  · rcases old q1 with ⟨rfl, rfl⟩ | ⟨n, e1'⟩
    · cases l1
    · rcases old q2 with ⟨rfl, rfl⟩ | ⟨n2, e2'⟩
      · cases l2
      · exact c.inj _ _ o1 o2 b e1' e2' l1 l2 a1 a2
  · by_cases q : b = a
    · subst q; exact .inl e4
    · rw [upd_ne q]; exact c.dFW b
  · by_cases q : b = a
    · subst q; rw [upd_same] at e; cases e; exact hH
    · rw [upd_ne q] at e; exact c.sW b u e
/-- slots -/
theorem Cf.get (c : Cf G α W F H σ env hp) (h : env[i]? = some (some pv)) : ∃ v, σ[i]? = some (some v) ∧ IsP G α W pv v := c.env i pv h
theorem Cf.store (c : Cf G α W F H σ env hp) (ip : IsP G α W pv v) : Cf G α W F H (σ.set i (some v)) (env.set i (some pv)) hp := by
  refine ⟨by simp [c.len], fun j q e => ?_, c.al, c.own, c.inj, c.dFW, c.sW, c.sF, c.tab, c.nt⟩
  by_cases n : j = i
  · subst n
    rw [List.getElem?_set] at e
    simp only [if_true] at e
    split at e
    · rename_i hi
      rw [c.len] at hi
      cases e
      exact ⟨v, List.getElem?_set_self hi, ip⟩
    · cases e
  · rw [List.getElem?_set_ne (Ne.symm n)] at e
    rw [List.getElem?_set_ne (Ne.symm n)]
    exact c.env j q e
theorem Cf.drop (c : Cf G α W F H σ env hp) (i : Nat) : Cf G α W F H σ (env.set i none) hp := by
  refine ⟨by simp [c.len], fun j q e => ?_, c.al, c.own, c.inj, c.dFW, c.sW, c.sF, c.tab, c.nt⟩
  by_cases n : j = i
  · subst n
    rw [List.getElem?_set] at e
    simp only [if_true] at e
    split at e <;> cases e
  · rw [List.getElem?_set_ne (Ne.symm n)] at e
    exact c.env j q e
/-- the same things, other slots -/
theorem Cf.bare (c : Cf G α W F H σ env hp) : Cf G α W F H [] [] hp := ⟨rfl, fun j q e => by simp at e, c.al, c.own, c.inj, c.dFW, c.sW, c.sF, c.tab, c.nt⟩
theorem Cf.slots {σ' : L2.St} {env' : List (Option PV)} (c : Cf G α W F H σ env hp) (hl : env'.length = σ'.length) (h : ∀ (i : Nat) (p : PV), env'[i]? = some (some p) → ∃ v, σ'[i]? = some (some v) ∧ IsP G α W p v) : Cf G α W F H σ' env' hp := ⟨hl, h, c.al, c.own, c.inj, c.dFW, c.sW, c.sF, c.tab, c.nt⟩
/-- other objects came -/
theorem Cf.ext {H' : Hp} (c : Cf G α W F H σ env hp) (s : Same H H') : Cf G α W F H' σ env hp := ⟨c.len, c.env, c.al, fun i o a e ea => (c.own i o a e ea).mono (Same.refl _) (Grow.refl _) fun _ ho h => ⟨s _ _ h, id, id⟩, c.inj, c.dFW, c.sW.trans s, c.sF.trans s, c.tab.ext s, c.nt⟩
/-- only tables were written -/
theorem Cf.extN {H' : Hp} (c : Cf G α W F H σ env hp) (s : LamX.ExtN H H') (t : NdefX.TabsN G.T H') : Cf G α W F H' σ env hp :=
  ⟨c.len, c.env, c.al, fun i o a e ea => by
    by_cases hl : Live o = true
    · obtain ⟨ho, h1, h2, h3, h4⟩ := (ownAt_live hl).mp (c.own i o a e ea)
      exact (ownAt_live hl).mpr ⟨ho, s _ _ h1 (fun ps z => h2.nt.1 ps z), h2, h3, h4⟩
    · have := c.own i o a e ea
      cases o <;> first | exact absurd rfl hl | exact this | trivial, c.inj, c.dFW, fun a o e => s a o (c.sW a o e) (fun ps z => c.nt.1 a ps (by rw [← z]; exact e)), fun a o e => s a o (c.sF a o e) (fun ps z => c.nt.2 a ps (by rw [← z]; exact e)), t, c.nt⟩
end
end ML

namespace ML
open PySem L2

/-! ### a part of our own things, by other numbers -/
def renP (keep : List Nat) : PV → Option PV
  | .fr d => some (.fr d)
  | .rf i => if i ∈ keep then some (.rf (keep.idxOf i)) else none
  | .ex _ _ _ => none
def renPs (keep : List Nat) : List PV → Option (List PV)
  | [] => some []
  | p :: ps => match renP keep p with
    | none => none
    | some q => match renPs keep ps with
      | none => none
      | some qs => some (q :: qs)
def renO (keep : List Nat) : O → Option O
  | .mix ps => (renPs keep ps).map .mix
  | .ins C ns ps => (renPs keep ps).map (.ins C ns)
  | o => some o
/-- the objects of these numbers, by their new numbers -/
def subH (keep : List Nat) (hp : List O) : List Nat → Option (List O)
  | [] => some []
  | i :: is => match hp[i]? with
    | none => none
    | some o => match renO keep o with
      | none => none
      | some o' => match subH keep hp is with
        | none => none
        | some os => some (o' :: os)
def bakI (keep : List Nat) (n j : Nat) : Nat := match keep[j]? with
  | some i => i
  | none => n + (j - keep.length)
def bakP (keep : List Nat) (n : Nat) : PV → PV
  | .fr d => .fr d
  | .rf j => .rf (bakI keep n j)
  | .ex C ns ds => .ex C ns ds
def bakO (keep : List Nat) (n : Nat) : O → O
  | .mix ps => .mix (ps.map (bakP keep n))
  | .ins C ns ps => .ins C ns (ps.map (bakP keep n))
  | o => o
def putBack : List Nat → List O → List O → List O
  | i :: is, o :: os, hp => putBack is os (hp.set i o)
  | _, _, hp => hp
def bakH (keep : List Nat) (hp hp' : List O) : List O := putBack keep ((hp'.take keep.length).map (bakO keep hp.length)) hp ++ (hp'.drop keep.length).map (bakO keep hp.length)

section
variable {keep : List Nat} {hp hp' : List O} {i j n : Nat} {o o' : O} {p q : PV} {ps qs : List PV} {G : Ct} {α β : List Addr} {W W' : Hp} {v : V} {vs : List V} {ho : HO} {a : Addr}
theorem bakI_lt (h : j < keep.length) : bakI keep n j = keep[j] := by unfold bakI; rw [List.getElem?_eq_getElem h]
theorem bakI_ge (h : keep.length ≤ j) : bakI keep n j = n + (j - keep.length) := by unfold bakI; rw [List.getElem?_eq_none h]
theorem putBack_len : ∀ {is : List Nat} {os hp : List O}, (putBack is os hp).length = hp.length
  | [], os, hp => by cases os <;> rfl
  | i :: is, [], hp => rfl
  | i :: is, o :: os, hp => by
    show (putBack is os (hp.set i o)).length = _
    rw [putBack_len, List.length_set]
theorem putBack_out : ∀ {is : List Nat} {os hp : List O} {i : Nat}, i ∉ is → (putBack is os hp)[i]? = hp[i]?
  | [], os, hp, i, h => by cases os <;> rfl
  | k :: is, [], hp, i, h => rfl
  | k :: is, o :: os, hp, i, h => by
    show (putBack is os (hp.set k o))[i]? = _
    rw [putBack_out (fun z => h (List.mem_cons_of_mem _ z)), List.getElem?_set_ne (fun z => h (by rw [z]; exact List.mem_cons_self))]
theorem putBack_in : ∀ {is : List Nat} {os hp : List O} {j : Nat}, is.Nodup → (∀ i ∈ is, i < hp.length) → os.length = is.length → (h : j < is.length) → (putBack is os hp)[is[j]]? = os[j]?
  | [], os, hp, j, _, _, _, h => by simp at h
  | k :: is, [], hp, j, _, _, hl, h => by simp at hl
  | k :: is, o :: os, hp, 0, hn, hb, hl, h => by
    show (putBack is os (hp.set k o))[k]? = some o
    rw [putBack_out (List.nodup_cons.mp hn).1, List.getElem?_set_self (hb k List.mem_cons_self)]
  | k :: is, o :: os, hp, j + 1, hn, hb, hl, h => by
    show (putBack is os (hp.set k o))[is[j]'(by simpa using h)]? = os[j]?
    exact putBack_in (List.nodup_cons.mp hn).2 (fun i hi => by rw [List.length_set]; exact hb i (List.mem_cons_of_mem _ hi)) (by simpa using hl) (by simpa using h)
theorem subH_len : ∀ {is : List Nat} {os : List O}, subH keep hp is = some os → os.length = is.length
  | [], os, h => by cases h; rfl
  | i :: is, os, h => by
    unfold subH at h
    split at h
    · cases h
    · split at h
      · cases h
      · split at h
        · cases h
        · rename_i e
          cases h
          simp [subH_len e]
theorem subH_get : ∀ {is : List Nat} {os : List O} {j : Nat} {o' : O}, subH keep hp is = some os → os[j]? = some o' → ∃ i o, is[j]? = some i ∧ hp[i]? = some o ∧ renO keep o = some o'
  | [], os, j, o', h, e => by cases h; simp at e
  | i :: is, os, j, o', h, e => by
    unfold subH at h
    split at h
    · cases h
    · rename_i o1 e1
      split at h
      · cases h
      · rename_i o2 e2
        split at h
        · cases h
        · rename_i os1 e3
          cases h
          cases j with
          | zero =>
            simp at e
            subst e
            exact ⟨i, o1, rfl, e1, e2⟩
          | succ j =>
            obtain ⟨i', o3, h1, h2, h3⟩ := subH_get e3 (by simpa using e)
            exact ⟨i', o3, by simpa using h1, h2, h3⟩
theorem nodup_at : ∀ {l : List Nat} {i j : Nat}, l.Nodup → (hi : i < l.length) → (hj : j < l.length) → l[i] = l[j] → i = j
  | [], i, j, _, hi, _, _ => by simp at hi
  | x :: l, 0, 0, _, _, _, _ => rfl
  | x :: l, 0, j + 1, hn, _, hj, e => by
    have hj' : j < l.length := by simpa using hj
    have e' : x = l[j] := e
    exact absurd (e' ▸ List.getElem_mem hj') (List.nodup_cons.mp hn).1
  | x :: l, i + 1, 0, hn, hi, _, e => by
    have hi' : i < l.length := by simpa using hi
    have e' : l[i] = x := e
    exact absurd (e' ▸ List.getElem_mem hi') (List.nodup_cons.mp hn).1
  | x :: l, i + 1, j + 1, hn, hi, hj, e => by
    have hi' : i < l.length := by simpa using hi
    have hj' : j < l.length := by simpa using hj
    rw [nodup_at (List.nodup_cons.mp hn).2 hi' hj' e]
/-- the addresses that go along -/
def subA (keep : List Nat) (α : List Addr) : List Addr := keep.map fun i => α.getD i 0
theorem subA_get (h : keep[j]? = some i) (ha : α[i]? = some a) : (subA keep α)[j]? = some a := by
  unfold subA
  rw [List.getElem?_map, h, Option.map_some, List.getD_eq_getElem?_getD, ha]
  rfl
theorem ren_isP (h : IsP G α W p v) (e : renP keep p = some q) : IsP G (subA keep α) W q v := by
  cases p with
  | fr d => cases e; exact h
  | ex _ _ _ => cases e
  | rf i =>
    replace e : (if i ∈ keep then some (PV.rf (keep.idxOf i)) else none) = some q := e
    split at e
    · rename_i hm
      cases e
      obtain ⟨a, h1, h2⟩ := h
      refine ⟨a, subA_get (i := i) ?_ h1, h2⟩
      have hl : keep.idxOf i < keep.length := List.idxOf_lt_length_iff.mpr hm
      rw [List.getElem?_eq_getElem hl, List.getElem_idxOf]
    · cases e
theorem ren_isPs : ∀ {ps qs : List PV} {vs : List V}, IsPs G α W ps vs → renPs keep ps = some qs → IsPs G (subA keep α) W qs vs
  | [], qs, vs, h, e => by cases e; exact h
  | p :: ps, qs, vs, ⟨v, ws, h1, h2, h3⟩, e => by
    unfold renPs at e
    split at e
    · cases e
    · rename_i q e1
      split at e
      · cases e
      · rename_i qs1 e2
        cases e
        exact ⟨v, ws, h1, ren_isP h2 e1, ren_isPs h3 e2⟩
theorem ren_live (e : renO keep o = some o') : Live o' = Live o := by
  cases o <;> first | (cases e; rfl) | (unfold renO at e; rw [Option.map_eq_some_iff] at e; obtain ⟨x, _, rfl⟩ := e; rfl)
theorem ren_isO (h : IsO G α W o ho) (e : renO keep o = some o') : IsO G (subA keep α) W o' ho := by
  cases o with
  | lst ds => cases e; exact h
  | dK _ => cases e; exact h
  | dT _ => cases e; exact h
  | set _ => cases e; exact h
  | ice _ => cases e; exact h
  | gone => cases e; exact h
  | mix ps =>
    unfold renO at e
    rw [Option.map_eq_some_iff] at e
    obtain ⟨qs, h1, rfl⟩ := e
    obtain ⟨vs, h2, h3⟩ := h
    exact ⟨vs, h2, ren_isPs h3 h1⟩
  | ins C ns ps =>
    unfold renO at e
    rw [Option.map_eq_some_iff] at e
    obtain ⟨qs, h1, rfl⟩ := e
    obtain ⟨dx, vs, h2, h3, h4⟩ := h
    exact ⟨dx, vs, h2, h3, ren_isPs h4 h1⟩
theorem ren_ice {d : D} (e : renO keep (.ice d) = some o') : o' = .ice d := by cases e; rfl
theorem bak_isP {f : Nat → Nat} (hf : ∀ (j : Nat) a, β[j]? = some a → α[bakI keep n j]? = some a) (h : IsP G β W p v) : IsP G α W (bakP keep n p) v := by
  cases p with
  | fr d => exact h
  | ex _ _ _ => exact h
  | rf i =>
    obtain ⟨a, h1, h2⟩ := h
    exact ⟨a, hf i a h1, h2⟩
theorem bak_isPs (hf : ∀ (j : Nat) a, β[j]? = some a → α[bakI keep n j]? = some a) : ∀ {ps : List PV} {vs : List V}, IsPs G β W ps vs → IsPs G α W (ps.map (bakP keep n)) vs
  | [], vs, h => h
  | p :: ps, vs, ⟨v, ws, h1, h2, h3⟩ => ⟨v, ws, h1, bak_isP (f := id) hf h2, bak_isPs hf h3⟩
theorem bak_live : Live (bakO keep n o) = Live o := by cases o <;> rfl
theorem bak_isO (hf : ∀ (j : Nat) a, β[j]? = some a → α[bakI keep n j]? = some a) (h : IsO G β W o ho) : IsO G α W (bakO keep n o) ho := by
  cases o with
  | lst ds => exact h
  | dK _ => exact h
  | dT _ => exact h
  | set _ => exact h
  | ice _ => exact h
  | gone => exact h
  | mix ps =>
    obtain ⟨vs, h2, h3⟩ := h
    exact ⟨vs, h2, bak_isPs hf h3⟩
  | ins C ns ps =>
    obtain ⟨dx, vs, h2, h3, h4⟩ := h
    exact ⟨dx, vs, h2, h3, bak_isPs hf h4⟩
end

section
variable {G : Ct} {α : List Addr} {W F H : Hp} {σ : L2.St} {env : List (Option PV)} {hp hs : List O} {keep : List Nat}
theorem subA_inv {j : Nat} {a : Addr} (hb : ∀ i ∈ keep, i < α.length) (h : (subA keep α)[j]? = some a) : ∃ i, keep[j]? = some i ∧ α[i]? = some a := by
  unfold subA at h
  rw [List.getElem?_map] at h
  cases q : keep[j]? with
  | none => rw [q] at h; cases h
  | some i =>
    rw [q] at h
    have hi := hb i (List.mem_of_getElem? q)
    refine ⟨i, rfl, ?_⟩
    rw [List.getElem?_eq_getElem hi]
    simp only [Option.map_some, List.getD_eq_getElem?_getD, List.getElem?_eq_getElem hi, Option.getD_some] at h
    exact h
theorem ownAt_ren {o o' : O} {a : Addr} {F' : Hp} (h : OwnAt G α W F H o a) (e : renO keep o = some o') (hF : F a = none → F' a = none) : OwnAt G (subA keep α) W F' H o' a := by
  by_cases hl : Live o = true
  · obtain ⟨ho, h1, h2, h3, h4⟩ := (ownAt_live hl).mp h
    exact (ownAt_live (by rw [ren_live e]; exact hl)).mpr ⟨ho, h1, ren_isO h2 e, h3, hF h4⟩
  · cases o <;> first | exact absurd rfl hl | (cases e; exact h)
/-- what we own is thrown away but for these -/
theorem Cf.sub (c : Cf G α W F H σ env hp) (hn : keep.Nodup) (hb : ∀ i ∈ keep, i < hp.length) (e : subH keep hp keep = some hs) : Cf G (subA keep α) W F H [] [] hs := by
  have hb' : ∀ i ∈ keep, i < α.length := by rw [c.al]; exact hb
  refine ⟨rfl, fun i p z => by simp at z, by unfold subA; rw [List.length_map, subH_len e], fun j o' a h1 h2 => ?_, fun j k o1 o2 a h1 h2 l1 l2 a1 a2 => ?_, c.dFW, c.sW, c.sF, c.tab, c.nt⟩
  · obtain ⟨i, o, k1, k2, k3⟩ := subH_get e h1
    obtain ⟨i', k4, k5⟩ := subA_inv hb' h2
    rw [k1] at k4
    cases k4
    exact ownAt_ren (c.own i o a k2 k5) k3 id
  · obtain ⟨i1, q1, k1, k2, k3⟩ := subH_get e h1
    obtain ⟨i2, q2, k4, k5, k6⟩ := subH_get e h2
    obtain ⟨i1', k7, k8⟩ := subA_inv hb' a1
    obtain ⟨i2', k9, k10⟩ := subA_inv hb' a2
    rw [k1] at k7
    rw [k4] at k9
    cases k7
    cases k9
    have hi := c.inj i1 i2 q1 q2 a k2 k5 (by rw [← ren_live k3]; exact l1) (by rw [← ren_live k6]; exact l2) k8 k10
    subst hi
    exact nodup_at hn (List.getElem?_eq_some_iff.mp k1).1 (List.getElem?_eq_some_iff.mp k4).1 ((List.getElem?_eq_some_iff.mp k1).2.trans (List.getElem?_eq_some_iff.mp k4).2.symm)
/-- into a callee with these things, and back with what it made of them -/
theorem Cf.enter (c : Cf G α W F H σ env hp) (hn : keep.Nodup) (hb : ∀ i ∈ keep, i < hp.length) (e : subH keep hp keep = some hs) :
    ∃ F1, Cf G (subA keep α) W F1 H [] [] hs ∧ ∀ β W' H' hp', Same W W' → Grow (subA keep α) β → Cf G β W' F1 H' [] [] hp' →
      ∃ γ, Grow α γ ∧ Cf G γ W' F H' σ env (bakH keep hp hp') ∧ (∀ (j : Nat) a, β[j]? = some a → γ[bakI keep hp.length j]? = some a) := by
  let Oth : Addr → Prop := fun a => ∃ (i : Nat) (o : O), i ∉ keep ∧ hp[i]? = some o ∧ Live o = true ∧ α[i]? = some a
  let F1 : Hp := fun a => open Classical in if Oth a then H a else F a
  have hb' : ∀ i ∈ keep, i < α.length := by rw [c.al]; exact hb
  have f1y : ∀ {a}, Oth a → F1 a = H a := fun {a} h => if_pos h
  have f1n : ∀ {a}, ¬ Oth a → F1 a = F a := fun {a} h => if_neg h
  have othH : ∀ {a}, Oth a → ∃ ho, H a = some ho ∧ W a = none ∧ F a = none ∧ ∀ ps, ho ≠ .tbl ps := fun {a} ⟨i, o, h1, h2, h3, h4⟩ => by
    obtain ⟨ho, k1, k2, k3, k4⟩ := (ownAt_live h3).mp (c.own i o a h2 h4)
    exact ⟨ho, k1, k3, k4, k2.nt.1⟩
  have fsub : ∀ {a u}, F a = some u → F1 a = some u := fun {a u} h => by
    by_cases q : Oth a
    · rw [f1y q]; exact c.sF a u h
    · rw [f1n q]; exact h
  have f1none : ∀ {a}, F1 a = none → F a = none := fun {a} h => by
    cases q : F a with
    | none => rfl
    | some u => rw [fsub q] at h; cases h
  have keepNot : ∀ {i o a}, i ∈ keep → hp[i]? = some o → Live o = true → α[i]? = some a → ¬ Oth a := fun {i o a} h1 h2 h3 h4 ⟨i', o', k1, k2, k3, k4⟩ => k1 ((c.inj i i' o o' a h2 k2 h3 k3 h4 k4) ▸ h1)
  refine ⟨F1, ?_, fun β W' H' hp' sw g c' => ?_⟩
  · have c1 := c.sub hn hb e
    refine ⟨rfl, fun i p z => by simp at z, c1.al, fun j o' a h1 h2 => ?_, c1.inj, fun a => ?_, c.sW, fun a u h => ?_, c.tab, c.nt.1, fun a ps z => ?_⟩
    · obtain ⟨i, o, k1, k2, k3⟩ := subH_get e h1
      obtain ⟨i', k4, k5⟩ := subA_inv hb' h2
      rw [k1] at k4
      cases k4
      by_cases hl : Live o = true
      · exact ownAt_ren (c.own i o a k2 k5) k3 fun z => by rw [f1n (keepNot (List.mem_of_getElem? k1) k2 hl k5)]; exact z
      · have := c.own i o a k2 k5
        cases o <;> first | exact absurd rfl hl | (cases k3; exact this)
    · by_cases q : Oth a
      · obtain ⟨ho, _, h2, _⟩ := othH q
        exact .inr h2
      · rw [f1n q]; exact c.dFW a
    · by_cases q : Oth a
      · rw [f1y q] at h; exact h
      · rw [f1n q] at h; exact c.sF a u h
    · by_cases q : Oth a
      · obtain ⟨ho, h1, _, _, h4⟩ := othH q
        rw [f1y q, h1] at z
        exact h4 ps (Option.some.inj z)
      · rw [f1n q] at z; exact c.nt.2 a ps z
  · have hk : (subA keep α).length = keep.length := by unfold subA; rw [List.length_map]
    have hβ : keep.length ≤ β.length := by
      by_cases q : keep.length = 0
      · omega
      · have h1 : keep.length - 1 < (subA keep α).length := by omega
        have := (List.getElem?_eq_some_iff.mp (g _ _ (List.getElem?_eq_getElem h1))).1
        omega
    have hl' : keep.length ≤ hp'.length := by rw [← c'.al]; exact hβ
    let γ := α ++ β.drop keep.length
    have gg : Grow α γ := grow_app _ _
    have hγ : ∀ (j : Nat) a, β[j]? = some a → γ[bakI keep hp.length j]? = some a := fun j a h => by
      by_cases q : j < keep.length
      · rw [bakI_lt q]
        have hi := hb' _ (List.getElem_mem q)
        refine gg _ _ ?_
        rw [List.getElem?_eq_getElem hi]
        have h2 := g j _ (subA_get (List.getElem?_eq_getElem q) (List.getElem?_eq_getElem hi))
        rw [h] at h2
        exact h2.symm
      · rw [bakI_ge (by omega)]
        show (α ++ β.drop keep.length)[_]? = _
        rw [List.getElem?_append_right (by rw [c.al]; omega), List.getElem?_drop, c.al]
        rw [show keep.length + (hp.length + (j - keep.length) - hp.length) = j by omega]
        exact h
    have hlen : (bakH keep hp hp').length = hp.length + (hp'.length - keep.length) := by
      unfold bakH
      rw [List.length_append, putBack_len, List.length_map, List.length_drop]
    -- where an object comes from
    have src : ∀ {i o}, (bakH keep hp hp')[i]? = some o → (∃ j o1, hp'[j]? = some o1 ∧ o = bakO keep hp.length o1 ∧ bakI keep hp.length j = i) ∨ (i ∉ keep ∧ hp[i]? = some o) := fun {i o} h => by
      unfold bakH at h
      by_cases q : i < hp.length
      · rw [List.getElem?_append_left (by rw [putBack_len]; exact q)] at h
        by_cases m : i ∈ keep
        · obtain ⟨j, hj, rfl⟩ := List.getElem_of_mem m
          rw [putBack_in hn hb (by rw [List.length_map, List.length_take]; omega) hj, List.getElem?_map, List.getElem?_take_of_lt hj] at h
          rw [Option.map_eq_some_iff] at h
          obtain ⟨o1, h1, h2⟩ := h
          exact .inl ⟨j, o1, h1, h2.symm, bakI_lt hj⟩
        · rw [putBack_out m] at h
          exact .inr ⟨m, h⟩
      · rw [List.getElem?_append_right (by rw [putBack_len]; omega), List.getElem?_map, List.getElem?_drop, Option.map_eq_some_iff] at h
        obtain ⟨o1, h1, h2⟩ := h
        rw [putBack_len] at h1
        refine .inl ⟨_, o1, h1, h2.symm, ?_⟩
        rw [bakI_ge (by omega)]
        omega
    have bakinj : ∀ {j1 j2 : Nat}, bakI keep hp.length j1 = bakI keep hp.length j2 → j1 = j2 := fun {j1 j2} h => by
      by_cases q1 : j1 < keep.length
      · rw [bakI_lt q1] at h
        have b1 := hb _ (List.getElem_mem q1)
        by_cases q2 : j2 < keep.length
        · rw [bakI_lt q2] at h
          exact nodup_at hn q1 q2 h
        · rw [bakI_ge (by omega)] at h
          omega
      · rw [bakI_ge (by omega)] at h
        by_cases q2 : j2 < keep.length
        · rw [bakI_lt q2] at h
          have b2 := hb _ (List.getElem_mem q2)
          omega
        · rw [bakI_ge (by omega)] at h
          omega
    have adr : ∀ {j : Nat} {o1 : O} {a : Addr}, hp'[j]? = some o1 → γ[bakI keep hp.length j]? = some a → β[j]? = some a := fun {j o1 a} h1 h2 => by
      obtain ⟨b, hb⟩ := c'.addr h1
      rw [hγ j b hb] at h2
      cases h2
      exact hb
    have old : ∀ {i : Nat} {o : O} {a : Addr}, hp[i]? = some o → γ[i]? = some a → α[i]? = some a := fun {i o a} h1 h2 => by
      obtain ⟨b, hb⟩ := c.addr h1
      rw [gg i b hb] at h2
      cases h2
      exact hb
    refine ⟨γ, gg, ⟨c.len, fun i p z => ?_, ?_, fun i o a h1 h2 => ?_, fun i1 i2 o1 o2 a h1 h2 l1 l2 a1 a2 => ?_, fun a => ?_, c'.sW, fun a u h => c'.sF a u (fsub h), c'.tab, c'.nt.1, c.nt.2⟩, hγ⟩
    · obtain ⟨v, k1, k2⟩ := c.env i p z
      exact ⟨v, k1, k2.mono sw gg⟩
    · show (α ++ β.drop keep.length).length = _
      rw [hlen, List.length_append, List.length_drop, c.al, c'.al]
    · rcases src h1 with ⟨j, o1, k1, rfl, rfl⟩ | ⟨m, k1⟩
      · have h3 := c'.own j o1 a k1 (adr k1 h2)
        by_cases hl : Live o1 = true
        · obtain ⟨ho, e1, e2, e3, e4⟩ := (ownAt_live hl).mp h3
          exact (ownAt_live (by rw [bak_live]; exact hl)).mpr ⟨ho, e1, bak_isO hγ e2, e3, f1none e4⟩
        · cases o1 <;> first | exact absurd rfl hl | exact h3
      · have h2' := old k1 h2
        refine (c.own i o a k1 h2').mono sw gg fun hl ho k2 => ?_
        have hO : Oth a := ⟨i, o, m, k1, hl, h2'⟩
        have k3 : F1 a = some ho := by rw [f1y hO]; exact k2
        refine ⟨c'.sF a ho k3, fun _ => ?_, id⟩
        rcases c'.dFW a with z | z
        · rw [k3] at z; cases z
        · exact z
    · rcases src h1 with ⟨j1, q1, k1, rfl, rfl⟩ | ⟨m1, k1⟩
      · rcases src h2 with ⟨j2, q2, k2, rfl, rfl⟩ | ⟨m2, k2⟩
        · rw [c'.inj j1 j2 q1 q2 a k1 k2 (by rw [← bak_live]; exact l1) (by rw [← bak_live]; exact l2) (adr k1 a1) (adr k2 a2)]
        · exfalso
          obtain ⟨ho, e1, e2, e3, e4⟩ := (ownAt_live (by rw [← bak_live]; exact l1)).mp (c'.own j1 q1 a k1 (adr k1 a1))
          have hO : Oth a := ⟨i2, o2, m2, k2, l2, old k2 a2⟩
          obtain ⟨ho', e5, _⟩ := othH hO
          rw [f1y hO, e5] at e4
          cases e4
      · rcases src h2 with ⟨j2, q2, k2, rfl, rfl⟩ | ⟨m2, k2⟩
        · exfalso
          obtain ⟨ho, e1, e2, e3, e4⟩ := (ownAt_live (by rw [← bak_live]; exact l2)).mp (c'.own j2 q2 a k2 (adr k2 a2))
          have hO : Oth a := ⟨i1, o1, m1, k1, l1, old k1 a1⟩
          obtain ⟨ho', e5, _⟩ := othH hO
          rw [f1y hO, e5] at e4
          cases e4
        · exact c.inj i1 i2 o1 o2 a k1 k2 l1 l2 (old k1 a1) (old k2 a2)
    · rcases c'.dFW a with z | z
      · exact .inl (f1none z)
      · exact .inr z
end
end ML

namespace ML
open PySem L2

/-! ### the pure side: what an expression does -/
abbrev En := List (Option PV)
inductive R (β : Type) where
  | ok (x : β) (hp : List O)
  | exc (C : Nat) (ns : List Nat) (ds : List D) (hp : List O)
abbrev XE := En → List O → Option (R PV)
abbrev XT := En → List O → Option (R Bool)
abbrev XA := En → List O → Option (R (List PV))
def xb {β γ : Type} (r : Option (R β)) (k : β → List O → Option (R γ)) : Option (R γ) := match r with
  | none => none
  | some (.ok p hp) => k p hp
  | some (.exc C ns ds hp) => some (.exc C ns ds hp)
def lf {β : Type} (o : Option (β × List O)) : Option (R β) := match o with
  | none => none
  | some z => some (.ok z.1 z.2)
/-- data as such -/
def unfr : List PV → Option (List D)
  | [] => some []
  | .fr d :: ps => match unfr ps with
    | none => none
    | some ds => some (d :: ds)
  | _ => none
def toD : O → Option D
  | .lst ds => some (.lst ds)
  | .mix ps => (unfr ps).map .lst
  | .dK kvs => some (.dct (kvs.map (·.1)) (kvs.map (·.2)))
  | .dT kvs => some (.dtt (kvs.map (·.1)) (kvs.map (·.2)))
  | .ins C ns ps => (unfr ps).map (.ins C ns)
  | .ice d => some d
  | _ => none
/-- a new object: z: never changed again -/
def fresh (z : Bool) (o : O) (hp : List O) : Option (PV × List O) := if z then (toD o).map fun d => (.fr d, hp) else some (.rf hp.length, hp ++ [o])

/-! ### what is promised of a reading -/
def GoodX (G : Ct) (Ex : WX) (α : List Addr) (W F : Hp) (σ : L2.St) (en : En) (C : Nat) (ns : List Nat) (ds : List D) (hp : List O) : Prop :=
  ∀ d vs β W' H', Same W W' → Grow α β → Cf G β W' F H' σ en hp → IsL G.b W' ds vs → W' d = some (.xd ((ns.map G.b.nm).zip vs)) → Ex (.ref (G.b.cl C)) (some d) σ H'
def Good (G : Ct) (Ex : WX) (α : List Addr) (W F : Hp) (σ : L2.St) (en : En) (Q : VK) : R PV → Prop
  | .ok p hp => ∀ v β W' H', Same W W' → Grow α β → Cf G β W' F H' σ en hp → IsP G β W' p v → Q v H'
  | .exc C ns ds hp => GoodX G Ex α W F σ en C ns ds hp
def GoodT (G : Ct) (Ex : WX) (α : List Addr) (W F : Hp) (σ : L2.St) (en : En) (Q : Bool → Hp → Prop) : R Bool → Prop
  | .ok b hp => ∀ β W' H', Same W W' → Grow α β → Cf G β W' F H' σ en hp → Q b H'
  | .exc C ns ds hp => GoodX G Ex α W F σ en C ns ds hp
def GoodA (G : Ct) (Ex : WX) (α : List Addr) (W F : Hp) (σ : L2.St) (en : En) (Q : List V → Hp → Prop) : R (List PV) → Prop
  | .ok ps hp => ∀ vs β W' H', Same W W' → Grow α β → Cf G β W' F H' σ en hp → IsPs G β W' ps vs → Q vs H'
  | .exc C ns ds hp => GoodX G Ex α W F σ en C ns ds hp
def SE (G : Ct) (Ex : WX) (t : TE) (x : XE) : Prop := ∀ α W F H σ en hp r Q, Cf G α W F H σ en hp → x en hp = some r → Good G Ex α W F σ en Q r → t σ H Q
def ST (G : Ct) (Ex : WX) (t : TT) (x : XT) : Prop := ∀ α W F H σ en hp r Q, Cf G α W F H σ en hp → x en hp = some r → GoodT G Ex α W F σ en Q r → t σ H Q
def SA (G : Ct) (Ex : WX) (t : TA) (x : XA) : Prop := ∀ α W F H σ en hp r Q, Cf G α W F H σ en hp → x en hp = some r → GoodA G Ex α W F σ en Q r → t σ H Q

section
variable {G : Ct} {Ex : WX} {α β : List Addr} {W W' F H H' : Hp} {σ : L2.St} {en : En} {hp hp' : List O} {t ta tb : TE} {tt tu : TT} {tas : TA} {x xa ya : XE} {xt yt : XT} {xas : XA} {Q : VK} {z : R PV}
theorem GoodX.mono {C : Nat} {ns : List Nat} {ds : List D} (s : Same W W') (l : Grow α β) (g : GoodX G Ex α W F σ en C ns ds hp) : GoodX G Ex β W' F σ en C ns ds hp := fun d vs γ W2 H2 s2 l2 => g d vs γ W2 H2 (s.trans s2) (l.trans l2)
theorem Good.mono (s : Same W W') (l : Grow α β) (g : Good G Ex α W F σ en Q z) : Good G Ex β W' F σ en Q z := by
  cases z with
  | ok p hp => exact fun v γ W2 H2 s2 l2 => g v γ W2 H2 (s.trans s2) (l.trans l2)
  | exc C ns ds hp => exact GoodX.mono s l g
theorem GoodT.mono {Q : Bool → Hp → Prop} {z : R Bool} (s : Same W W') (l : Grow α β) (g : GoodT G Ex α W F σ en Q z) : GoodT G Ex β W' F σ en Q z := by
  cases z with
  | ok p hp => exact fun γ W2 H2 s2 l2 => g γ W2 H2 (s.trans s2) (l.trans l2)
  | exc C ns ds hp => exact GoodX.mono s l g
theorem GoodA.mono {Q : List V → Hp → Prop} {z : R (List PV)} (s : Same W W') (l : Grow α β) (g : GoodA G Ex α W F σ en Q z) : GoodA G Ex β W' F σ en Q z := by
  cases z with
  | ok p hp => exact fun v γ W2 H2 s2 l2 => g v γ W2 H2 (s.trans s2) (l.trans l2)
  | exc C ns ds hp => exact GoodX.mono s l g
/-- where a chain goes -/
theorem xb_cases {β γ : Type} {r : Option (R β)} {k : β → List O → Option (R γ)} {z : R γ} (e : xb r k = some z) : (∃ p hp, r = some (.ok p hp) ∧ k p hp = some z) ∨ ∃ C ns ds hp, r = some (.exc C ns ds hp) ∧ z = .exc C ns ds hp := by
  cases r with
  | none => cases e
  | some r =>
    cases r with
    | ok p hp => exact .inl ⟨p, hp, rfl, e⟩
    | exc C ns ds hp => exact .inr ⟨C, ns, ds, hp, rfl, (Option.some.inj e).symm⟩
/-- an expression, then what is done with its value -/
theorem SE.bind {δ : Type} {k : PV → List O → Option (R δ)} {z : R δ} (h : SE G Ex t x) (c : Cf G α W F H σ en hp) (e : xb (x en hp) k = some z)
    (gx : ∀ C ns ds hp, z = .exc C ns ds hp → GoodX G Ex α W F σ en C ns ds hp)
    (step : ∀ p hp' v β W' H', k p hp' = some z → Same W W' → Grow α β → Cf G β W' F H' σ en hp' → IsP G β W' p v → Q v H') : t σ H Q := by
  rcases xb_cases e with ⟨p, hp', e1, e2⟩ | ⟨C, ns, ds, hp', e1, e2⟩
  · exact h α W F H σ en hp _ Q c e1 fun v β W' H' s l c' i => step p hp' v β W' H' e2 s l c' i
  · exact h α W F H σ en hp _ Q c e1 (gx C ns ds hp' e2)
theorem ST.bind {δ : Type} {Q : Bool → Hp → Prop} {k : Bool → List O → Option (R δ)} {z : R δ} (h : ST G Ex tt xt) (c : Cf G α W F H σ en hp) (e : xb (xt en hp) k = some z)
    (gx : ∀ C ns ds hp, z = .exc C ns ds hp → GoodX G Ex α W F σ en C ns ds hp)
    (step : ∀ b hp' β W' H', k b hp' = some z → Same W W' → Grow α β → Cf G β W' F H' σ en hp' → Q b H') : tt σ H Q := by
  rcases xb_cases e with ⟨p, hp', e1, e2⟩ | ⟨C, ns, ds, hp', e1, e2⟩
  · exact h α W F H σ en hp _ Q c e1 fun β W' H' s l c' => step p hp' β W' H' e2 s l c'
  · exact h α W F H σ en hp _ Q c e1 (gx C ns ds hp' e2)
theorem SA.bind {δ : Type} {Q : List V → Hp → Prop} {k : List PV → List O → Option (R δ)} {z : R δ} (h : SA G Ex tas xas) (c : Cf G α W F H σ en hp) (e : xb (xas en hp) k = some z)
    (gx : ∀ C ns ds hp, z = .exc C ns ds hp → GoodX G Ex α W F σ en C ns ds hp)
    (step : ∀ ps hp' vs β W' H', k ps hp' = some z → Same W W' → Grow α β → Cf G β W' F H' σ en hp' → IsPs G β W' ps vs → Q vs H') : tas σ H Q := by
  rcases xb_cases e with ⟨p, hp', e1, e2⟩ | ⟨C, ns, ds, hp', e1, e2⟩
  · exact h α W F H σ en hp _ Q c e1 fun v β W' H' s l c' i => step p hp' v β W' H' e2 s l c' i
  · exact h α W F H σ en hp _ Q c e1 (gx C ns ds hp' e2)
theorem Good.gx (g : Good G Ex α W F σ en Q z) : ∀ C ns ds hp, z = .exc C ns ds hp → GoodX G Ex α W F σ en C ns ds hp := fun C ns ds hp e => by subst e; exact g
theorem GoodT.gx {Q : Bool → Hp → Prop} {z : R Bool} (g : GoodT G Ex α W F σ en Q z) : ∀ C ns ds hp, z = .exc C ns ds hp → GoodX G Ex α W F σ en C ns ds hp := fun C ns ds hp e => by subst e; exact g
theorem GoodA.gx {Q : List V → Hp → Prop} {z : R (List PV)} (g : GoodA G Ex α W F σ en Q z) : ∀ C ns ds hp, z = .exc C ns ds hp → GoodX G Ex α W F σ en C ns ds hp := fun C ns ds hp e => by subst e; exact g

theorem isP_fr {d : D} {v : V} : IsP G α W (.fr d) v ↔ Is G.b W d v := Iff.rfl
theorem isP_bl {k : Bool} {v : V} : IsP G α W (.fr (.bl k)) v ↔ v = .bl k := is_bl (b := G.b) (W := W)
theorem isP_int {k : Int} {v : V} : IsP G α W (.fr (.int k)) v ↔ v = .int k := is_int (b := G.b) (W := W)
theorem isP_str {k : Str} {v : V} : IsP G α W (.fr (.str k)) v ↔ v = .str k := is_str (b := G.b) (W := W)
theorem isP_non {v : V} : IsP G α W (.fr .non) v ↔ v = .non := is_non (b := G.b) (W := W)
/-! ### names and constants -/
def xVar (i : Nat) : XE := fun en hp => match en[i]? with
  | some (some p) => some (.ok p hp)
  | _ => none
def xC (d : D) : XE := fun _ hp => some (.ok (.fr d) hp)
theorem se_var {i : Nat} : SE G Ex (tVar i) (xVar i) := fun α W F H σ en hp r Q c e g => by
  unfold xVar at e
  split at e
  · rename_i p h
    cases e
    obtain ⟨v, h1, h2⟩ := c.get h
    exact ⟨v, h1, g v α W H (Same.refl _) (Grow.refl _) c h2⟩
  · cases e
theorem se_c {d : D} {v : V} (h : ∀ W, Is G.b W d v) : SE G Ex (tC v) (xC d) := fun α W F H σ en hp r Q c e g => by
  cases e
  exact g v α W H (Same.refl _) (Grow.refl _) c (h W)
theorem se_int {n : Int} : SE G Ex (tC (.int n)) (xC (.int n)) := se_c fun _ => is_int.mpr rfl
theorem se_bl {n : Bool} : SE G Ex (tC (.bl n)) (xC (.bl n)) := se_c fun _ => is_bl.mpr rfl
theorem se_str {n : Str} : SE G Ex (tC (.str n)) (xC (.str n)) := se_c fun _ => is_str.mpr rfl
theorem se_non : SE G Ex (tC .non) (xC .non) := se_c fun _ => is_non.mpr rfl
theorem se_ty {n : Nat} : SE G Ex (tC (.ty (tyName n))) (xC (.ty n)) := se_c fun _ => is_ty.mpr rfl
theorem se_cls {C : Nat} : SE G Ex (tC (.ref (G.b.cl C))) (xC (.cls C)) := se_c fun _ => is_cls.mpr rfl

/-! ### arguments -/
def xNil : XA := fun _ hp => some (.ok [] hp)
def xCons (x : XE) (xs : XA) : XA := fun en hp => xb (x en hp) fun p hp1 => xb (xs en hp1) fun ps hp2 => some (.ok (p :: ps) hp2)
theorem sa_nil : SA G Ex tNil xNil := fun α W F H σ en hp r Q c e g => by
  cases e
  exact g [] α W H (Same.refl _) (Grow.refl _) c IsPs.nil
theorem sa_cons (h : SE G Ex t x) (hs : SA G Ex tas xas) : SA G Ex (tCons t tas) (xCons x xas) := fun α W F H σ en hp r Q c e g =>
  h.bind c e g.gx fun p hp1 v β W1 H1 e1 s1 l1 c1 i1 => hs.bind c1 e1 (g.mono s1 l1).gx fun ps hp2 vs γ W2 H2 e2 s2 l2 c2 i2 => by
    cases e2
    exact g _ γ W2 H2 (s1.trans s2) (l1.trans l2) c2 (IsPs.cons (i1.mono s2 l2) i2)

/-! ### operators -/
def G2 (G : Ct) (r : R2) (g : List O → PV → PV → Option (PV × List O)) : Prop := ∀ α W F H σ en hp p q v w z hp' (Q : VK), Cf G α W F H σ en hp → IsP G α W p v → IsP G α W q w → g hp p q = some (z, hp') →
  (∀ u β W' H', Same W W' → Grow α β → Cf G β W' F H' σ en hp' → IsP G β W' z u → Q u H') → r v w H Q
def xOp (g : List O → PV → PV → Option (PV × List O)) (a b : XE) : XE := fun en hp => xb (a en hp) fun p hp1 => xb (b en hp1) fun q hp2 => lf (g hp2 p q)
theorem lf_some {β : Type} {o : Option (β × List O)} {z : R β} (h : lf o = some z) : ∃ p hp, o = some (p, hp) ∧ z = .ok p hp := by
  cases o with
  | none => cases h
  | some y => exact ⟨y.1, y.2, rfl, (Option.some.inj h).symm⟩
theorem se_op {r : R2} {g : List O → PV → PV → Option (PV × List O)} (hg : G2 G r g) (ha : SE G Ex ta xa) (hb : SE G Ex tb ya) : SE G Ex (tOp r ta tb) (xOp g xa ya) := fun α W F H σ en hp r' Q c e k =>
  ha.bind c e k.gx fun p hp1 v β W1 H1 e1 s1 l1 c1 i1 => hb.bind c1 e1 (k.mono s1 l1).gx fun q hp2 w γ W2 H2 e2 s2 l2 c2 i2 => by
    obtain ⟨z, hp3, e3, rfl⟩ := lf_some e2
    exact hg γ W2 F H2 σ en hp2 p q v w z hp3 Q c2 (i1.mono s2 l2) i2 e3 fun u δ W3 H3 s3 l3 c3 i3 => k u δ W3 H3 ((s1.trans s2).trans s3) ((l1.trans l2).trans l3) c3 i3
def G1 (G : Ct) (r : V → Hp → VK → Prop) (g : List O → PV → Option (PV × List O)) : Prop := ∀ α W F H σ en hp p v z hp' (Q : VK), Cf G α W F H σ en hp → IsP G α W p v → g hp p = some (z, hp') →
  (∀ u β W' H', Same W W' → Grow α β → Cf G β W' F H' σ en hp' → IsP G β W' z u → Q u H') → r v H Q
def xUn (g : List O → PV → Option (PV × List O)) (a : XE) : XE := fun en hp => xb (a en hp) fun p hp1 => lf (g hp1 p)
theorem se_un {r : V → Hp → VK → Prop} {g : List O → PV → Option (PV × List O)} (hg : G1 G r g) (ha : SE G Ex ta xa) : SE G Ex (tUn r ta) (xUn g xa) := fun α W F H σ en hp r' Q c e k =>
  ha.bind c e k.gx fun p hp1 v β W1 H1 e1 s1 l1 c1 i1 => by
    obtain ⟨z, hp3, e3, rfl⟩ := lf_some e1
    exact hg β W1 F H1 σ en hp1 p v z hp3 Q c1 i1 e3 fun u δ W3 H3 s3 l3 c3 i3 => k u δ W3 H3 (s1.trans s3) (l1.trans l3) c3 i3
/-- a built-in's call -/
def GN (G : Ct) (r : List V → Hp → VK → Prop) (g : List O → List PV → Option (PV × List O)) : Prop := ∀ α W F H σ en hp ps vs z hp' (Q : VK), Cf G α W F H σ en hp → IsPs G α W ps vs → g hp ps = some (z, hp') →
  (∀ u β W' H', Same W W' → Grow α β → Cf G β W' F H' σ en hp' → IsP G β W' z u → Q u H') → r vs H Q
def xCB (g : List O → List PV → Option (PV × List O)) (a : XA) : XE := fun en hp => xb (a en hp) fun ps hp1 => lf (g hp1 ps)
theorem se_cb {r : List V → Hp → VK → Prop} {g : List O → List PV → Option (PV × List O)} (hg : GN G r g) (ha : SA G Ex tas xas) : SE G Ex (tCB r tas) (xCB g xas) := fun α W F H σ en hp r' Q c e k =>
  ha.bind c e k.gx fun p hp1 v β W1 H1 e1 s1 l1 c1 i1 => by
    obtain ⟨z, hp3, e3, rfl⟩ := lf_some e1
    exact hg β W1 F H1 σ en hp1 p v z hp3 Q c1 i1 e3 fun u δ W3 H3 s3 l3 c3 i3 => k u δ W3 H3 (s1.trans s3) (l1.trans l3) c3 i3

/-! ### tests -/
def xTest (a : XE) : XT := fun en hp => xb (a en hp) fun p hp1 => match p with
  | .fr (.bl b) => some (.ok b hp1)
  | _ => none
theorem st_of {a : XE} {α W F H σ en hp r} {Q : Bool → Hp → Prop} (h : SE G Ex t a) (c : Cf G α W F H σ en hp) (e : xTest a en hp = some r) (g : GoodT G Ex α W F σ en Q r) : t σ H fun x H' => ∃ k, x = .bl k ∧ Q k H' :=
  h.bind c e g.gx fun p hp1 v β W1 H1 e1 s1 l1 c1 i1 => by
    cases p with
    | rf _ => cases e1
    | ex _ _ _ => cases e1
    | fr d =>
      cases d <;> first | cases e1 | skip
      rename_i b
      have hv : v = .bl b := isP_bl.mp i1
      exact ⟨b, hv, g β W1 H1 s1 l1 c1⟩
theorem st_test (h : SE G Ex t x) : ST G Ex (tTest t) (xTest x) := fun α W F H σ en hp r Q c e g => st_of h c e g
theorem st_B (h : SE G Ex t x) : ST G Ex (tB t) (xTest x) := fun α W F H σ en hp r Q c e g => st_of h c e g
def xNot (a : XT) : XT := fun en hp => xb (a en hp) fun b hp1 => some (.ok (!b) hp1)
theorem st_not (h : ST G Ex tt xt) : ST G Ex (tNot tt) (xNot xt) := fun α W F H σ en hp r Q c e g => h.bind (Q := fun c H1 => Q (!c) H1) c e g.gx fun b hp1 β W1 H1 e1 s1 l1 c1 => by
  cases e1
  exact g β W1 H1 s1 l1 c1
def xAnd (a b : XT) : XT := fun en hp => xb (a en hp) fun k hp1 => if k then b en hp1 else some (.ok false hp1)
def xOr (a b : XT) : XT := fun en hp => xb (a en hp) fun k hp1 => if k then some (.ok true hp1) else b en hp1
theorem st_and (h : ST G Ex tt xt) (h2 : ST G Ex tu yt) : ST G Ex (tAnd tt tu) (xAnd xt yt) := fun α W F H σ en hp r Q c e g => h.bind (Q := fun c H1 => if c = true then tu σ H1 Q else Q false H1) c e g.gx fun b hp1 β W1 H1 e1 s1 l1 c1 => by
  cases b with
  | true => exact h2 β W1 F H1 σ en hp1 r Q c1 e1 (g.mono s1 l1)
  | false =>
    cases e1
    exact g β W1 H1 s1 l1 c1
theorem st_or (h : ST G Ex tt xt) (h2 : ST G Ex tu yt) : ST G Ex (tOr tt tu) (xOr xt yt) := fun α W F H σ en hp r Q c e g => h.bind (Q := fun c H1 => if c = true then Q true H1 else tu σ H1 Q) c e g.gx fun b hp1 β W1 H1 e1 s1 l1 c1 => by
  cases b with
  | false => exact h2 β W1 F H1 σ en hp1 r Q c1 e1 (g.mono s1 l1)
  | true =>
    cases e1
    exact g β W1 H1 s1 l1 c1
def xIf (t : XT) (a b : XE) : XE := fun en hp => xb (t en hp) fun k hp1 => if k then a en hp1 else b en hp1
theorem se_if (h : ST G Ex tt xt) (ha : SE G Ex ta xa) (hb : SE G Ex tb ya) : SE G Ex (tIf tt ta tb) (xIf xt xa ya) := fun α W F H σ en hp r Q c e g => h.bind (Q := fun c H1 => if c = true then ta σ H1 Q else tb σ H1 Q) c e g.gx fun b hp1 β W1 H1 e1 s1 l1 c1 => by
  cases b with
  | true => exact ha β W1 F H1 σ en hp1 r Q c1 e1 (g.mono s1 l1)
  | false => exact hb β W1 F H1 σ en hp1 r Q c1 e1 (g.mono s1 l1)
/-- and, or, not of bools as values -/
def xAndV (a b : XE) : XE := fun en hp => xb (a en hp) fun p hp1 => match p with
  | .fr (.bl k) => if k then b en hp1 else some (.ok (.fr (.bl false)) hp1)
  | _ => none
def xOrV (a b : XE) : XE := fun en hp => xb (a en hp) fun p hp1 => match p with
  | .fr (.bl k) => if k then some (.ok (.fr (.bl true)) hp1) else b en hp1
  | _ => none
def gNotV (hp : List O) (p : PV) : Option (PV × List O) := match p with
  | .fr (.bl k) => some (.fr (.bl (!k)), hp)
  | _ => none
theorem bl_of {α : List Addr} {W : Hp} {p : PV} {v : V} {k : Bool} (h : IsP G α W p v) (e : p = .fr (.bl k)) : v = .bl k := by subst e; exact isP_bl.mp h
theorem se_andV (ha : SE G Ex ta xa) (hb : SE G Ex tb ya) : SE G Ex (tAndV ta tb) (xAndV xa ya) := fun α W F H σ en hp r Q c e g => ha.bind c e g.gx fun p hp1 v β W1 H1 e1 s1 l1 c1 i1 => by
  split at e1
  · rename_i k
    refine ⟨k, isP_bl.mp i1, ?_⟩
    cases k with
    | true => exact hb β W1 F H1 σ en hp1 r Q c1 e1 (g.mono s1 l1)
    | false =>
      cases e1
      exact g _ β W1 H1 s1 l1 c1 (isP_bl.mpr rfl)
  · cases e1
theorem se_orV (ha : SE G Ex ta xa) (hb : SE G Ex tb ya) : SE G Ex (tOrV ta tb) (xOrV xa ya) := fun α W F H σ en hp r Q c e g => ha.bind c e g.gx fun p hp1 v β W1 H1 e1 s1 l1 c1 i1 => by
  split at e1
  · rename_i k
    refine ⟨k, isP_bl.mp i1, ?_⟩
    cases k with
    | false => exact hb β W1 F H1 σ en hp1 r Q c1 e1 (g.mono s1 l1)
    | true =>
      cases e1
      exact g _ β W1 H1 s1 l1 c1 (isP_bl.mpr rfl)
  · cases e1
theorem se_notV (ha : SE G Ex ta xa) : SE G Ex (tNotV ta) (xUn gNotV xa) := fun α W F H σ en hp r Q c e g => ha.bind c e g.gx fun p hp1 v β W1 H1 e1 s1 l1 c1 i1 => by
  obtain ⟨z, hp3, e3, rfl⟩ := lf_some e1
  unfold gNotV at e3
  split at e3
  · rename_i k
    cases e3
    exact ⟨k, isP_bl.mp i1, g _ β W1 H1 s1 l1 c1 (isP_bl.mpr rfl)⟩
  · cases e3

/-! ### new objects -/
theorem unfr_some : ∀ {ps : List PV} {ds : List D}, unfr ps = some ds → ps = ds.map .fr
  | [], ds, h => by cases h; rfl
  | .fr d :: ps, ds, h => by
    unfold unfr at h
    split at h
    · cases h
    · rename_i ds1 e
      cases h
      rw [List.map_cons, unfr_some e]
  | .rf _ :: ps, ds, h => by cases h
  | .ex _ _ _ :: ps, ds, h => by cases h
theorem unfr_map : ∀ ds : List D, unfr (ds.map .fr) = some ds
  | [] => rfl
  | d :: ds => by
    show unfr (.fr d :: ds.map .fr) = _
    unfold unfr
    rw [unfr_map ds]
theorem toD_is {o : O} {ho : HO} {d : D} {a : Addr} {W' : Hp} (e : toD o = some d) (i : IsO G α W o ho) (s : Same W W') (hw : W' a = some ho) : Is G.b W' d (.ref a) := by
  cases o with
  | ice _ => exact i.elim
  | gone => exact i.elim
  | set _ => cases e
  | lst ds =>
    cases e
    obtain ⟨vs, rfl, h2⟩ := i
    exact is_lst.mpr ⟨a, vs, rfl, hw, h2.mono s⟩
  | dK kvs =>
    cases e
    obtain ⟨vs, rfl, h3⟩ := i
    exact is_dct.mpr ⟨a, vs, rfl, hw, by rw [← h3.len, List.length_map, List.length_map], h3.mono s⟩
  | dT kvs =>
    cases e
    obtain ⟨vs, rfl, h3⟩ := i
    exact is_dtt.mpr ⟨a, vs, rfl, hw, by rw [← h3.len, List.length_map, List.length_map], h3.mono s⟩
  | mix ps =>
    obtain ⟨vs, rfl, h2⟩ := i
    replace e : (unfr ps).map D.lst = some d := e
    rw [Option.map_eq_some_iff] at e
    obtain ⟨ds, e1, rfl⟩ := e
    rw [unfr_some e1] at h2
    exact is_lst.mpr ⟨a, vs, rfl, hw, (isPs_fr.mp h2).mono s⟩
  | ins C ns ps =>
    obtain ⟨dx, vs, rfl, h1, h2⟩ := i
    replace e : (unfr ps).map (D.ins C ns) = some d := e
    rw [Option.map_eq_some_iff] at e
    obtain ⟨ds, e1, rfl⟩ := e
    rw [unfr_some e1] at h2
    exact is_ins.mpr ⟨a, dx, vs, rfl, hw, h1, (isPs_fr.mp h2).mono s⟩
theorem IsO.live {o : O} {ho : HO} (i : IsO G α W o ho) : Live o = true := by cases o <;> first | rfl | exact i.elim
theorem Cf.fresh {o : O} {ho : HO} {z : Bool} {pv : PV} {a : Addr} (c : Cf G α W F H σ en hp) (hq : H a = none) (i : IsO G α W o ho) (e : fresh z o hp = some (pv, hp')) :
    ∃ β W', Same W W' ∧ Grow α β ∧ Cf G β W' F (upd H a ho) σ en hp' ∧ IsP G β W' pv (.ref a) := by
  unfold ML.fresh at e
  split at e
  · rw [Option.map_eq_some_iff] at e
    obtain ⟨d, e1, e2⟩ := e
    cases e2
    obtain ⟨c1, s1⟩ := c.allocW hq i.nt.1
    exact ⟨α, _, s1, Grow.refl _, c1, toD_is e1 i s1 upd_same⟩
  · cases e
    obtain ⟨c1, g1⟩ := c.new hq i.live i
    exact ⟨_, W, Same.refl _, g1, c1, a, by rw [← c.al, List.getElem?_append_right (Nat.le_refl _)]; simp, rfl⟩
/-- never changed again -/
def gFz (hp : List O) (p : PV) : Option (PV × List O) := match p with
  | .fr d => some (.fr d, hp)
  | .rf i => match hp[i]? with
    | none => none
    | some o => match toD o with
      | none => none
      | some d => some (.fr d, hp.set i (.ice d))
  | .ex _ _ _ => none
def xFz (a : XE) : XE := fun en hp => xb (a en hp) fun p hp1 => lf (gFz hp1 p)
theorem Cf.fz {p q : PV} {v : V} (c : Cf G α W F H σ en hp) (i : IsP G α W p v) (e : gFz hp p = some (q, hp')) : ∃ W', Same W W' ∧ Cf G α W' F H σ en hp' ∧ IsP G α W' q v := by
  unfold gFz at e
  split at e
  · cases e
    exact ⟨W, Same.refl _, c, i⟩
  · rename_i j
    split at e
    · cases e
    · rename_i o ho
      split at e
      · cases e
      · rename_i d hd
        cases e
        obtain ⟨a, h1, rfl⟩ := i
        by_cases hl : Live o = true
        · obtain ⟨u, k1, k2, k3, k4⟩ := (ownAt_live hl).mp (c.own j o a ho h1)
          obtain ⟨c1, s1⟩ := c.freeze ho hl h1 k1 fun W' s hw => toD_is hd k2 s hw
          exact ⟨_, s1, c1, toD_is hd k2 s1 upd_same⟩
        · cases o with
          | ice d' =>
            cases hd
            have h3 := c.own j _ a ho h1
            refine ⟨W, Same.refl _, ?_, h3⟩
            have e1 : hp.set j (.ice d) = hp := by
              apply List.ext_getElem?
              intro k
              by_cases q : k = j
              · subst q
                rw [List.getElem?_set_self (List.getElem?_eq_some_iff.mp ho).1, ho]
              · rw [List.getElem?_set_ne (Ne.symm q)]
            rw [e1]
            exact c
          | gone => cases hd
          | _ => exact absurd rfl hl
  · cases e
theorem se_fz (h : SE G Ex t x) : SE G Ex t (xFz x) := fun α W F H σ en hp r Q c e g => h.bind c e g.gx fun p hp1 v β W1 H1 e1 s1 l1 c1 i1 => by
  obtain ⟨z, hp3, e3, rfl⟩ := lf_some e1
  obtain ⟨W2, s2, c2, i2⟩ := c1.fz i1 e3
  exact g v β W2 H1 (s1.trans s2) l1 c2 i2
end
end ML

namespace ML
open PySem L2

/-! ### statements -/
/-- where a statement ends -/
inductive Oc where
  | next (en : En) (hp : List O)
  | ret (p : PV) (hp : List O)
  | brk (en : En) (hp : List O)
  | ct (en : En) (hp : List O)
  | exc (C : Nat) (ns : List Nat) (ds : List D) (en : En) (hp : List O)
abbrev XS := En → List O → Option Oc
/-- an expression's value, then a statement's rest -/
def xs (en : En) {β : Type} (r : Option (R β)) (k : β → List O → Option Oc) : Option Oc := match r with
  | none => none
  | some (.ok p hp) => k p hp
  | some (.exc C ns ds hp) => some (.exc C ns ds en hp)
def GoodS (G : Ct) (Ex : WX) (α : List Addr) (W F : Hp) (D : Ends) : Oc → Prop
  | .next en hp => ∀ β W' H' σ, Same W W' → Grow α β → Cf G β W' F H' σ en hp → D.nx σ H'
  | .ret p hp => ∀ v β W' H', Same W W' → Grow α β → Cf G β W' F H' [] [] hp → IsP G β W' p v → D.rt v H'
  | .brk en hp => ∀ β W' H' σ, Same W W' → Grow α β → Cf G β W' F H' σ en hp → D.bk σ H'
  | .ct en hp => ∀ β W' H' σ, Same W W' → Grow α β → Cf G β W' F H' σ en hp → D.ct σ H'
  | .exc C ns ds en hp => ∀ d vs β W' H' σ, Same W W' → Grow α β → Cf G β W' F H' σ en hp → IsL G.b W' ds vs → W' d = some (.xd ((ns.map G.b.nm).zip vs)) → Ex (.ref (G.b.cl C)) (some d) σ H'
def SS (G : Ct) (Ex : WX) (t : TS) (x : XS) : Prop := ∀ α W F H σ en hp r D, Cf G α W F H σ en hp → x en hp = some r → GoodS G Ex α W F D r → t D σ H

section
variable {G : Ct} {Ex : WX} {α β : List Addr} {W W' F H H' : Hp} {σ : L2.St} {en : En} {hp hp' : List O} {te ta tb : TE} {tt tu : TT} {tas : TA} {t u : TS} {x xa ya : XE} {xt yt : XT} {xas : XA} {sx sy : XS} {i : Nat} {D : Ends} {r : Oc}
theorem GoodS.mono (s : Same W W') (l : Grow α β) (g : GoodS G Ex α W F D r) : GoodS G Ex β W' F D r := by
  cases r with
  | next en hp => exact fun γ W2 H2 σ s2 l2 => g γ W2 H2 σ (s.trans s2) (l.trans l2)
  | brk en hp => exact fun γ W2 H2 σ s2 l2 => g γ W2 H2 σ (s.trans s2) (l.trans l2)
  | ct en hp => exact fun γ W2 H2 σ s2 l2 => g γ W2 H2 σ (s.trans s2) (l.trans l2)
  | ret p hp => exact fun v γ W2 H2 s2 l2 => g v γ W2 H2 (s.trans s2) (l.trans l2)
  | exc C ns ds en hp => exact fun d vs γ W2 H2 σ s2 l2 => g d vs γ W2 H2 σ (s.trans s2) (l.trans l2)
theorem xs_cases {β : Type} {r : Option (R β)} {k : β → List O → Option Oc} {z : Oc} (e : xs en r k = some z) : (∃ p hp, r = some (.ok p hp) ∧ k p hp = some z) ∨ ∃ C ns ds hp, r = some (.exc C ns ds hp) ∧ z = .exc C ns ds en hp := by
  cases r with
  | none => cases e
  | some r =>
    cases r with
    | ok p hp => exact .inl ⟨p, hp, rfl, e⟩
    | exc C ns ds hp => exact .inr ⟨C, ns, ds, hp, rfl, (Option.some.inj e).symm⟩
theorem GoodS.gx (g : GoodS G Ex α W F D r) {C : Nat} {ns : List Nat} {ds : List ML.D} (e : r = .exc C ns ds en hp) : GoodX G Ex α W F σ en C ns ds hp := by
  subst e
  exact fun d vs β W' H' s l c i hd => g d vs β W' H' σ s l c i hd
theorem SE.stm {Q : VK} {k : PV → List O → Option Oc} {z : Oc} (h : SE G Ex te x) (c : Cf G α W F H σ en hp) (e : xs en (x en hp) k = some z) (g : GoodS G Ex α W F D z)
    (step : ∀ p hp' v β W' H', k p hp' = some z → Same W W' → Grow α β → Cf G β W' F H' σ en hp' → IsP G β W' p v → Q v H') : te σ H Q := by
  rcases xs_cases e with ⟨p, hp', e1, e2⟩ | ⟨C, ns, ds, hp', e1, e2⟩
  · exact h α W F H σ en hp _ Q c e1 fun v β W' H' s l c' i => step p hp' v β W' H' e2 s l c' i
  · exact h α W F H σ en hp _ Q c e1 (g.gx e2)
theorem ST.stm {Q : Bool → Hp → Prop} {k : Bool → List O → Option Oc} {z : Oc} (h : ST G Ex tt xt) (c : Cf G α W F H σ en hp) (e : xs en (xt en hp) k = some z) (g : GoodS G Ex α W F D z)
    (step : ∀ b hp' β W' H', k b hp' = some z → Same W W' → Grow α β → Cf G β W' F H' σ en hp' → Q b H') : tt σ H Q := by
  rcases xs_cases e with ⟨p, hp', e1, e2⟩ | ⟨C, ns, ds, hp', e1, e2⟩
  · exact h α W F H σ en hp _ Q c e1 fun β W' H' s l c' => step p hp' β W' H' e2 s l c'
  · exact h α W F H σ en hp _ Q c e1 (g.gx e2)
theorem SA.stm {Q : List V → Hp → Prop} {k : List PV → List O → Option Oc} {z : Oc} (h : SA G Ex tas xas) (c : Cf G α W F H σ en hp) (e : xs en (xas en hp) k = some z) (g : GoodS G Ex α W F D z)
    (step : ∀ ps hp' vs β W' H', k ps hp' = some z → Same W W' → Grow α β → Cf G β W' F H' σ en hp' → IsPs G β W' ps vs → Q vs H') : tas σ H Q := by
  rcases xs_cases e with ⟨p, hp', e1, e2⟩ | ⟨C, ns, ds, hp', e1, e2⟩
  · exact h α W F H σ en hp _ Q c e1 fun v β W' H' s l c' i => step p hp' v β W' H' e2 s l c' i
  · exact h α W F H σ en hp _ Q c e1 (g.gx e2)

/-! ### small ones -/
def zNop : XS := fun en hp => some (.next en hp)
def zBrk : XS := fun en hp => some (.brk en hp)
def zCt : XS := fun en hp => some (.ct en hp)
def zSeq (a b : XS) : XS := fun en hp => match a en hp with
  | some (.next en1 hp1) => b en1 hp1
  | r => r
def zAsg (i : Nat) (x : XE) : XS := fun en hp => xs en (x en hp) fun p hp1 => some (.next (en.set i (some p)) hp1)
def zDrop (x : XE) : XS := fun en hp => xs en (x en hp) fun _ hp1 => some (.next en hp1)
def zRet (x : XE) : XS := fun en hp => xs en (x en hp) fun p hp1 => some (.ret p hp1)
def zRetN : XS := fun _ hp => some (.ret (.fr .non) hp)
def zIf (c : XT) (a b : XS) : XS := fun en hp => xs en (c en hp) fun k hp1 => if k then a en hp1 else b en hp1
theorem ss_nop : SS G Ex tNext zNop := fun α W F H σ en hp r D c e g => by cases e; exact g α W H σ (Same.refl _) (Grow.refl _) c
theorem ss_brk : SS G Ex tBreak zBrk := fun α W F H σ en hp r D c e g => by cases e; exact g α W H σ (Same.refl _) (Grow.refl _) c
theorem ss_ct : SS G Ex tCont zCt := fun α W F H σ en hp r D c e g => by cases e; exact g α W H σ (Same.refl _) (Grow.refl _) c
theorem ss_seq (ha : SS G Ex t sx) (hb : SS G Ex u sy) : SS G Ex (tSeq t u) (zSeq sx sy) := fun α W F H σ en hp r D c e g => by
  unfold zSeq at e
  split at e
  · rename_i en1 hp1 e1
    exact ha α W F H σ en hp _ _ c e1 fun β W' H' σ' s l c' => hb β W' F H' σ' en1 hp1 r D c' e (g.mono s l)
  · rename_i z2
    refine ha α W F H σ en hp r _ c e ?_
    cases r with
    | next en1 hp1 => exact absurd e (z2 en1 hp1)
    | ret p hp => exact g
    | brk en hp => exact g
    | ct en hp => exact g
    | exc C ns ds en hp => exact g
theorem ss_asg (h : SE G Ex te x) : SS G Ex (tAsg te (gName i)) (zAsg i x) := fun α W F H σ en hp r D c e g => h.stm c e g fun p hp1 v β W1 H1 e1 s1 l1 c1 i1 => by
  cases e1
  exact g β W1 H1 _ s1 l1 (c1.store i1)
theorem ss_drop (h : SE G Ex te x) : SS G Ex (tDrop te) (zDrop x) := fun α W F H σ en hp r D c e g => h.stm c e g fun p hp1 v β W1 H1 e1 s1 l1 c1 i1 => by
  cases e1
  exact g β W1 H1 _ s1 l1 c1
theorem ss_ret (h : SE G Ex te x) : SS G Ex (tRet te) (zRet x) := fun α W F H σ en hp r D c e g => h.stm c e g fun p hp1 v β W1 H1 e1 s1 l1 c1 i1 => by
  cases e1
  exact g v β W1 H1 s1 l1 c1.bare i1
theorem ss_retN : SS G Ex tRetN zRetN := fun α W F H σ en hp r D c e g => by cases e; exact g .non α W H (Same.refl _) (Grow.refl _) c.bare (isP_non.mpr rfl)
theorem ss_if (h : ST G Ex tt xt) (ha : SS G Ex t sx) (hb : SS G Ex u sy) : SS G Ex (tIfS tt t u) (zIf xt sx sy) := fun α W F H σ en hp r D c e g => h.stm (Q := fun b H1 => if b = true then t D σ H1 else u D σ H1) c e g fun b hp1 β W1 H1 e1 s1 l1 c1 => by
  cases b with
  | true => exact ha β W1 F H1 σ en hp1 r D c1 e1 (g.mono s1 l1)
  | false => exact hb β W1 F H1 σ en hp1 r D c1 e1 (g.mono s1 l1)

/-! ### targets of a loop, of a tuple's items -/
abbrev XG := PV → En → Option En
def SG (G : Ct) (g : TG) (x : XG) : Prop := ∀ α W F H σ en hp en' p v (Q : L2.St → Hp → Prop), Cf G α W F H σ en hp → IsP G α W p v → x p en = some en' → (∀ σ', Cf G α W F H σ' en' hp → Q σ' H) → g v σ H Q
def xgName (i : Nat) : XG := fun p en => some (en.set i (some p))
theorem sg_name : SG G (gName i) (xgName i) := fun α W F H σ en hp en' p v Q c ip e k => by
  cases e
  exact k _ (c.store ip)
abbrev XGs := List ML.D → En → Option En
def SGs (G : Ct) (g : TGs) (x : XGs) : Prop := ∀ α W F H σ en hp en' ds vs (Q : L2.St → Hp → Prop), Cf G α W F H σ en hp → IsL G.b W ds vs → x ds en = some en' → (∀ σ', Cf G α W F H σ' en' hp → Q σ' H) → g vs σ H Q
def xgNil : XGs := fun ds en => match ds with
  | [] => some en
  | _ => none
def xgCons (g : XG) (gs : XGs) : XGs := fun ds en => match ds with
  | d :: ds => match g (.fr d) en with
    | none => none
    | some en1 => gs ds en1
  | [] => none
theorem sgs_nil : SGs G gNil xgNil := fun α W F H σ en hp en' ds vs Q c il e k => by
  unfold xgNil at e
  split at e
  · cases e
    exact ⟨il.nil_inv, k σ c⟩
  · cases e
theorem sgs_cons {g : TG} {gs : TGs} {x : XG} {y : XGs} (h : SG G g x) (hs : SGs G gs y) : SGs G (gCons g gs) (xgCons x y) := fun α W F H σ en hp en' ds vs Q c il e k => by
  unfold xgCons at e
  split at e
  · rename_i d ds
    split at e
    · cases e
    · rename_i en1 e1
      obtain ⟨v, ws, rfl, i1, i2⟩ := il.uncons
      exact ⟨v, ws, rfl, h α W F H σ en hp en1 (.fr d) v _ c i1 e1 fun σ1 c1 => hs α W F H σ1 en1 hp en' ds ws Q c1 i2 e k⟩
  · cases e
/-- a, b = t -/
def xgTup (n : Nat) (gs : XGs) : XG := fun p en => match p with
  | .fr (.tup ds) => if ds.length = n then gs ds en else none
  | _ => none
theorem sg_tup {n : Nat} {gs : TGs} {y : XGs} (hs : SGs G gs y) : SG G (gTup G.b.K n gs) (xgTup n y) := fun α W F H σ en hp en' p v Q c ip e k => by
  unfold xgTup at e
  split at e
  · split at e
    · rename_i ds hl
      have ip' := is_tup.mp (isP_fr.mp ip)
      obtain ⟨a, vs, rfl, h1, h2⟩ := ip'
      exact ⟨a, vs, rfl, SqT.of (c.sW _ _ h1), by rw [← h2.len]; exact hl, hs α W F H σ en hp en' ds vs Q c h2 e k⟩
    · cases e
  · cases e
def zAsgG (g : XG) (x : XE) : XS := fun en hp => xs en (x en hp) fun p hp1 => match g p en with
  | none => none
  | some en1 => some (.next en1 hp1)
theorem ss_asgG {g : TG} {gx : XG} (hg : SG G g gx) (h : SE G Ex te x) : SS G Ex (tAsg te g) (zAsgG gx x) := fun α W F H σ en hp r D c e k => h.stm c e k fun p hp1 v β W1 H1 e1 s1 l1 c1 i1 => by
  split at e1
  · cases e1
  · rename_i en1 e2
    cases e1
    exact hg β W1 F H1 σ en hp1 en1 p v _ c1 i1 e2 fun σ' c' => k β W1 H1 σ' s1 l1 c'

/-! ### what is walked -/
/-- the walked thing gives these, as long as ck -/
structure ItOk (G : Ct) (α : List Addr) (W : Hp) (J : It) (items : List PV) (ck : List O → Bool) : Prop where
  stop : ∀ F β W' H σ en hp, Cf G β W' F H σ en hp → Same W W' → Grow α β → ck hp = true → J.stop items.length H
  go : ∀ F (i : Nat) p β W' H σ en hp, items[i]? = some p → Cf G β W' F H σ en hp → Same W W' → Grow α β → ck hp = true → J.go i H ∧ ∀ x H', J.yld i H x H' → ∃ W2, Same W' W2 ∧ Cf G β W2 F H' σ en hp ∧ IsP G β W2 p x
abbrev XI := En → List O → Option (R (List PV × (List O → Bool)))
def SI (G : Ct) (Ex : WX) (wi : TI) (xi : XI) : Prop := ∀ α W F H σ en hp r (Q : It → Hp → Prop), Cf G α W F H σ en hp → xi en hp = some r →
  (match r with
    | .ok p hp' => ∀ J β W' H', Same W W' → Grow α β → Cf G β W' F H' σ en hp' → ItOk G β W' J p.1 p.2 → Q J H'
    | .exc C ns ds hp' => GoodX G Ex α W F σ en C ns ds hp') → wi σ H Q
def loopI (ck : List O → Bool) (g : XG) (b : XS) : List PV → XS
  | [], en, hp => if ck hp then some (.next en hp) else none
  | p :: ps, en, hp => if ck hp then match g p en with
    | none => none
    | some en1 => match b en1 hp with
      | some (.next en2 hp2) => loopI ck g b ps en2 hp2
      | some (.ct en2 hp2) => loopI ck g b ps en2 hp2
      | some (.brk en2 hp2) => some (.next en2 hp2)
      | r => r
    else none
def zFor (xi : XI) (g : XG) (b : XS) : XS := fun en hp => xs en (xi en hp) fun p hp1 => loopI p.2 g b p.1 en hp1
theorem loop_ok {J : It} {items : List PV} {ck : List O → Bool} {g : TG} {gx : XG} (hg : SG G g gx) (hb : SS G Ex t sx) {r : Oc} (it : ItOk G α W J items ck) (c : Cf G α W F H σ en hp) (e : loopI ck gx sx items en hp = some r) (k : GoodS G Ex α W F D r) :
    ∃ Wv : Nat → Nat → L2.St → Hp → Prop, (∃ m, Wv 0 m σ H) ∧ ∀ i m σ H, Wv i m σ H → (J.stop i H ∧ D.nx σ H) ∨ (J.go i H ∧ ∃ N : L2.St → Hp → Prop, (∀ σ' H', N σ' H' → ∃ m', m' < m ∧ Wv (i + 1) m' σ' H') ∧ ∀ x H', J.yld i H x H' → g x σ H' fun σ2 H2 => t { D with nx := N, ct := N, bk := D.nx } σ2 H2) := by
  refine ⟨fun i m σ H => m = items.length - i ∧ i ≤ items.length ∧ ∃ β W' en hp, Same W W' ∧ Grow α β ∧ Cf G β W' F H σ en hp ∧ loopI ck gx sx (items.drop i) en hp = some r, ⟨items.length, by simp, Nat.zero_le _, α, W, en, hp, Same.refl _, Grow.refl _, c, e⟩, ?_⟩
  rintro i m σ1 H1 ⟨rfl, hi, β, W', en1, hp1, s, l, c1, e1⟩
  by_cases hlt : i < items.length
  · rw [List.drop_eq_getElem_cons hlt] at e1
    unfold loopI at e1
    split at e1
    · rename_i hck
      split at e1
      · cases e1
      · rename_i en2 eg
        obtain ⟨hgo, hy⟩ := it.go F i items[i] β W' H1 σ1 en1 hp1 (List.getElem?_eq_getElem hlt) c1 s l hck
        refine .inr ⟨hgo, fun σ H => ∃ β W' en hp, Same W W' ∧ Grow α β ∧ Cf G β W' F H σ en hp ∧ loopI ck gx sx (items.drop (i + 1)) en hp = some r, fun σ' H' p' => ⟨items.length - (i + 1), by omega, rfl, hlt, p'⟩, fun x H2 y => ?_⟩
        obtain ⟨W2, s2, c2, i2⟩ := hy x H2 y
        refine hg β W2 F H2 σ1 en1 hp1 en2 _ x _ c2 i2 eg fun σ3 c3 => ?_
        split at e1
        · rename_i en4 hp4 e4
          exact hb β W2 F H2 σ3 en2 hp1 _ _ c3 e4 fun γ W5 H5 σ5 s5 l5 c5 => ⟨γ, W5, en4, hp4, (s.trans s2).trans s5, l.trans l5, c5, e1⟩
        · rename_i en4 hp4 e4
          exact hb β W2 F H2 σ3 en2 hp1 _ _ c3 e4 fun γ W5 H5 σ5 s5 l5 c5 => ⟨γ, W5, en4, hp4, (s.trans s2).trans s5, l.trans l5, c5, e1⟩
        · rename_i en4 hp4 e4
          cases e1
          exact hb β W2 F H2 σ3 en2 hp1 _ _ c3 e4 fun γ W5 H5 σ5 s5 l5 c5 => k γ W5 H5 σ5 ((s.trans s2).trans s5) (l.trans l5) c5
        · rename_i z1 z2 z3 z4
          refine hb β W2 F H2 σ3 en2 hp1 r _ c3 e1 ?_
          have km := GoodS.mono (s.trans s2) l k
          cases r with
          | next en hp => exact absurd e1 (z2 en hp)
          | ct en hp => exact absurd e1 (z3 en hp)
          | brk en hp => exact absurd e1 (z4 en hp)
          | ret p hp => exact km
          | exc C ns ds en hp => exact km
    · cases e1
  · have hi2 : i = items.length := by omega
    subst hi2
    rw [List.drop_length] at e1
    unfold loopI at e1
    split at e1
    · rename_i hck
      cases e1
      exact .inl ⟨it.stop F β W' H1 σ1 en1 hp1 c1 s l hck, k β W' H1 σ1 s l c1⟩
    · cases e1
theorem ss_for {wi : TI} {xi : XI} {g : TG} {gx : XG} (hi : SI G Ex wi xi) (hg : SG G g gx) (hb : SS G Ex t sx) : SS G Ex (tFor wi g t) (zFor xi gx sx) := fun α W F H σ en hp r D c e k => by
  unfold zFor at e
  rcases xs_cases e with ⟨p, hp', e1, e2⟩ | ⟨C, ns, ds, hp', e1, e2⟩
  · exact hi α W F H σ en hp _ _ c e1 fun J β W' H' s l c' it => loop_ok hg hb it c' e2 (k.mono s l)
  · exact hi α W F H σ en hp _ _ c e1 (k.gx e2)

/-! ### while -/
def loopW (c : XT) (b : XS) : Nat → XS
  | 0, _, _ => none
  | n + 1, en, hp => xs en (c en hp) fun k hp1 => if k then match b en hp1 with
      | some (.next en2 hp2) => loopW c b n en2 hp2
      | some (.ct en2 hp2) => loopW c b n en2 hp2
      | some (.brk en2 hp2) => some (.next en2 hp2)
      | r => r
    else some (.next en hp1)
def zWhile (n : Nat) (c : XT) (b : XS) : XS := loopW c b n
theorem ss_while {n : Nat} (hc : ST G Ex tt xt) (hb : SS G Ex t sx) : SS G Ex (tWhile tt t) (zWhile n xt sx) := fun α W F H σ en hp r D c e k => by
  refine ⟨fun m σ H => ∃ β W' en hp, Same W W' ∧ Grow α β ∧ Cf G β W' F H σ en hp ∧ loopW xt sx m en hp = some r, ⟨n, α, W, en, hp, Same.refl _, Grow.refl _, c, e⟩, ?_⟩
  rintro m σ1 H1 ⟨β, W', en1, hp1, s, l, c1, e1⟩
  cases m with
  | zero => cases e1
  | succ m =>
    have km := GoodS.mono s l k
    refine hc.stm (Q := fun b H1 => if b = true then ∃ N : L2.St → Hp → Prop, (∀ σ' H', N σ' H' → ∃ m', m' < m + 1 ∧ ∃ β W' en hp, Same W W' ∧ Grow α β ∧ Cf G β W' F H' σ' en hp ∧ loopW xt sx m' en hp = some r) ∧ t { D with nx := N, ct := N, bk := D.nx } σ1 H1 else D.nx σ1 H1) c1 e1 km fun b hp2 γ W2 H2 e2 s2 l2 c2 => ?_
    cases b with
    | false =>
      cases e2
      exact k γ W2 H2 σ1 (s.trans s2) (l.trans l2) c2
    | true =>
      refine ⟨fun σ H => ∃ β W' en hp, Same W W' ∧ Grow α β ∧ Cf G β W' F H σ en hp ∧ loopW xt sx m en hp = some r, fun σ' H' p' => ⟨m, by omega, p'⟩, ?_⟩
      replace e2 : (match sx en1 hp2 with
        | some (.next en2 hp2) => loopW xt sx m en2 hp2
        | some (.ct en2 hp2) => loopW xt sx m en2 hp2
        | some (.brk en2 hp2) => some (.next en2 hp2)
        | r => r) = some r := e2
      split at e2
      · rename_i en4 hp4 e4
        exact hb γ W2 F H2 σ1 en1 hp2 _ _ c2 e4 fun δ W5 H5 σ5 s5 l5 c5 => ⟨δ, W5, en4, hp4, (s.trans s2).trans s5, (l.trans l2).trans l5, c5, e2⟩
      · rename_i en4 hp4 e4
        exact hb γ W2 F H2 σ1 en1 hp2 _ _ c2 e4 fun δ W5 H5 σ5 s5 l5 c5 => ⟨δ, W5, en4, hp4, (s.trans s2).trans s5, (l.trans l2).trans l5, c5, e2⟩
      · rename_i en4 hp4 e4
        cases e2
        exact hb γ W2 F H2 σ1 en1 hp2 _ _ c2 e4 fun δ W5 H5 σ5 s5 l5 c5 => k δ W5 H5 σ5 ((s.trans s2).trans s5) ((l.trans l2).trans l5) c5
      · rename_i z1 z2 z3 z4
        refine hb γ W2 F H2 σ1 en1 hp2 r _ c2 e2 ?_
        have kn := GoodS.mono (s.trans s2) (l.trans l2) k
        cases r with
        | next en hp => exact absurd e2 (z2 en hp)
        | ct en hp => exact absurd e2 (z3 en hp)
        | brk en hp => exact absurd e2 (z4 en hp)
        | ret p hp => exact kn
        | exc C ns ds en hp => exact kn
end
end ML

namespace ML
open PySem L2 PySem.Spec PyProof.Rows

/-! ### defs -/
inductive Ro where
  | ret (p : PV) (hp : List O)
  | exc (C : Nat) (ns : List Nat) (ds : List D) (hp : List O)
abbrev Fn := List PV → List O → Option Ro
def refP : PV → List Nat
  | .rf i => [i]
  | _ => []
def refO : O → List Nat
  | .mix ps => ps.flatMap refP
  | .ins _ _ ps => ps.flatMap refP
  | _ => []
def refAt (hp : List O) (i : Nat) : List Nat := match hp[i]? with
  | some o => refO o
  | none => []
/-- each once, in order -/
def once : List Nat → List Nat → List Nat
  | acc, [] => acc
  | acc, i :: is => if i ∈ acc then once acc is else once (acc ++ [i]) is
/-- of our own things only these: their numbers; the rest is lost -/
def gcK (keep : List Nat) (p : PV) (hp : List O) : Option (PV × List O) :=
  if decide keep.Nodup && keep.all (· < hp.length) then match renP keep p with
    | none => none
    | some q => match subH keep hp keep with
      | none => none
      | some hs => some (q, hs)
  else none
/-- the first k things, and what hangs on the value -/
def gc (k : Nat) (p : PV) (hp : List O) : Option (PV × List O) := gcK (List.range k ++ match p with
  | .rf i => if i < k then [] else i :: (refAt hp i).filter (k ≤ ·)
  | _ => []) p hp
def outR (k : Nat) (p : PV) (hp : List O) : Option Ro := match gc k p hp with
  | none => none
  | some z => some (.ret z.1 z.2)
def outX (k : Nat) (C : Nat) (ns : List Nat) (ds : List D) (hp : List O) : Option Ro := match gc k (.fr .non) hp with
  | none => none
  | some z => some (.exc C ns ds z.2)
def fnOut (k : Nat) (r : Option Oc) : Option Ro := match r with
  | some (.next _ hp) => outR k (.fr .non) hp
  | some (.ret p hp) => outR k p hp
  | some (.exc C ns ds _ hp) => outX k C ns ds hp
  | _ => none
def fnOf (n : Nat) (b : XS) : Fn := fun args hp => fnOut hp.length (b (args.map some ++ List.replicate (n - args.length) none) hp)

def OutOk (G : Ct) (α : List Addr) (W F : Hp) (Q : VK) (E : XK) : Ro → Prop
  | .ret p hp => ∀ v β W' H', Same W W' → Grow α β → Cf G β W' F H' [] [] hp → IsP G β W' p v → Q v H'
  | .exc C ns ds hp => ∀ d vs β W' H', Same W W' → Grow α β → Cf G β W' F H' [] [] hp → IsL G.b W' ds vs → W' d = some (.xd ((ns.map G.b.nm).zip vs)) → E (.ref (G.b.cl C)) (some d) H'
/-- what a def promises -/
def spOf (G : Ct) (f : Fn) (n : Nat) : Sp := fun vs H Q E => ∃ α W F args hp r, vs.length = n ∧ Cf G α W F H (vs.map some) (args.map some) hp ∧ f args hp = some r ∧ OutOk G α W F Q E r

section
variable {G : Ct} {Ex : WX} {α β : List Addr} {W W' F H H' : Hp} {σ : L2.St} {en : En} {hp hp' hs : List O} {te ta tb : TE} {tas : TA} {x xa : XE} {xas : XA} {Q : VK} {E : XK} {p q : PV} {v : V} {f : Fn} {n k : Nat} {vs : List V} {ps : List PV}
theorem args_is (c : Cf G α W F H (vs.map some) (ps.map some) hp) : IsPs G α W ps vs := by
  have hl := c.len
  rw [List.length_map, List.length_map] at hl
  have h : ∀ (i : Nat) p, ps[i]? = some p → ∃ v, vs[i]? = some v ∧ IsP G α W p v := fun i p e => by
    obtain ⟨v, h1, h2⟩ := c.env i p (by rw [List.getElem?_map, e]; rfl)
    rw [List.getElem?_map] at h1
    cases q : vs[i]? with
    | none => rw [q] at h1; cases h1
    | some w => rw [q] at h1; cases h1; exact ⟨v, rfl, h2⟩
  clear c
  induction ps generalizing vs with
  | nil => cases vs with
    | nil => exact IsPs.nil
    | cons _ _ => simp at hl
  | cons p ps ih => cases vs with
    | nil => simp at hl
    | cons v vs =>
      obtain ⟨w, h1, h2⟩ := h 0 p rfl
      simp at h1
      subst h1
      exact IsPs.cons h2 (ih (by simpa using hl) fun i p e => by simpa using h (i + 1) p (by simpa using e))
theorem is_args (c : Cf G α W F H σ en hp) (i : IsPs G α W ps vs) : Cf G α W F H (vs.map some) (ps.map some) hp := c.slots (by rw [List.length_map, List.length_map, i.len]) fun j p e => by
  rw [List.getElem?_map] at e
  cases q : ps[j]? with
  | none => rw [q] at e; cases e
  | some p' =>
    rw [q] at e
    cases e
    obtain ⟨v, h1, h2⟩ := i.get q
    exact ⟨v, by rw [List.getElem?_map, h1]; rfl, h2⟩
theorem subA_grow {t : List Nat} (hk : k ≤ β.length) : ∀ (i : Nat) a, (β.take k)[i]? = some a → (subA (List.range k ++ t) β)[i]? = some a := fun i a e => by
  have hi : i < k := by
    have := (List.getElem?_eq_some_iff.mp e).1
    rw [List.length_take] at this
    omega
  rw [List.getElem?_take_of_lt hi] at e
  refine subA_get (i := i) ?_ e
  rw [List.getElem?_append_left (by simpa using hi), List.getElem?_range hi]
theorem gcK_ok {keep : List Nat} (e : gcK keep p hp = some (q, hs)) : keep.Nodup ∧ (∀ i ∈ keep, i < hp.length) ∧ renP keep p = some q ∧ subH keep hp keep = some hs := by
  unfold gcK at e
  split at e
  · rename_i h
    rw [Bool.and_eq_true, decide_eq_true_eq] at h
    split at e
    · cases e
    · rename_i q1 e1
      split at e
      · cases e
      · rename_i hs1 e2
        cases e
        exact ⟨h.1, fun i hi => by simpa using List.all_eq_true.mp h.2 i hi, e1, e2⟩
  · cases e
theorem Cf.gc (c : Cf G β W F H σ en hp) (i : IsP G β W p v) (e : gc k p hp = some (q, hs)) (hk : α.length = k) (l : Grow α β) : ∃ γ, Grow α γ ∧ Cf G γ W F H [] [] hs ∧ IsP G γ W q v := by
  obtain ⟨h1, h2, h3, h4⟩ := gcK_ok e
  refine ⟨_, ?_, c.sub h1 h2 h4, ren_isP i h3⟩
  intro j a ea
  have hj : j < k := by rw [← hk]; exact (List.getElem?_eq_some_iff.mp ea).1
  have hb : k ≤ β.length := by
    have h5 : k - 1 < α.length := by omega
    have := (List.getElem?_eq_some_iff.mp (l _ _ (List.getElem?_eq_getElem h5))).1
    omega
  exact subA_grow hb j a (by rw [List.getElem?_take_of_lt hj]; exact l j a ea)
theorem fnOut_run {oc : Option Oc} {r : Ro} (e : fnOut α.length oc = some r) (g : OutOk G α W F Q E r) : ∃ o, oc = some o ∧ GoodS G (fun c d _ T => E c d T) α W F { nx := fun _ H' => Q .non H', rt := Q } o := by
  cases oc with
  | none => cases e
  | some o =>
    refine ⟨o, rfl, ?_⟩
    have out : ∀ {p : PV} {hp : List O} {v : V} {β : List Addr} {W' H' : Hp} {σ : L2.St} {en : En}, outR α.length p hp = some r → Same W W' → Grow α β → Cf G β W' F H' σ en hp → IsP G β W' p v → Q v H' := fun {p hp v β W' H' σ en} e s l c i => by
      unfold outR at e
      split at e
      · cases e
      · rename_i z ez
        cases e
        obtain ⟨γ, l2, c2, i2⟩ := c.gc i ez rfl l
        exact g v γ W' H' s l2 c2 i2
    cases o with
    | next en hp => exact fun β W' H' σ s l c => out e s l c (isP_non.mpr rfl)
    | ret p hp => exact fun v β W' H' s l c i => out e s l c i
    | brk en hp => cases e
    | ct en hp => cases e
    | exc C ns ds en hp =>
      replace e : outX α.length C ns ds hp = some r := e
      unfold outX at e
      split at e
      · cases e
      · rename_i z ez
        cases e
        intro d vs β W' H' σ s l c i hd
        obtain ⟨γ, l2, c2, i2⟩ := c.gc (v := .non) (isP_non.mpr rfl) ez rfl l
        exact g d vs γ W' H' s l2 c2 i hd
theorem sp_run {t : TS} {N ps' : List Str} {b : XS} (hn : vs.length = ps'.length) (hs : SS G (fun c d _ T => E c d T) t b) (h : spOf G (fnOf N.length b) ps'.length vs H Q E) : t { nx := fun _ H' => Q .non H', rt := Q } (L2.start N vs) H := by
  obtain ⟨α, W, F, args, hp, r, h1, c, h2, h3⟩ := h
  have hl := c.len
  rw [List.length_map, List.length_map] at hl
  unfold fnOf at h2
  rw [← c.al] at h2
  obtain ⟨o, e1, g⟩ := fnOut_run h2 h3
  refine hs α W F H _ _ hp o _ (c.slots ?_ fun i p e => ?_) e1 g
  · unfold L2.start
    simp [hl]
  · unfold L2.start
    by_cases q : i < args.length
    · rw [List.getElem?_append_left (by simpa using q)] at e
      rw [List.getElem?_append_left (by simpa using (by omega : i < vs.length))]
      exact c.env i p e
    · rw [List.getElem?_append_right (by simpa using q), List.getElem?_replicate] at e
      split at e <;> cases e
theorem sp_len (h : spOf G f n vs H Q E) : vs.length = n := let ⟨_, _, _, _, _, _, h, _⟩ := h; h
section
variable {P : Program} {w : World} {mg : Str → Option Value} {base : Heap}
theorem ok_of {x qual : Str} {st : Stmt} {f : Addr} {fd : FuncData} {N ps : List Str} {k : Nat} {b : XS} (F : Fun G.b.K x qual st f fd) (Sc : FnScope N ps (defScope st))
    (hb : ∀ (cdv : Value) (A : Around) (outer : List Env) (s : Shared) (H : Hp) (E : XK), Room k (A.deeper (envOfC qual (defScope st) s.heap.objs.size f cdv)) →
      ∃ t, PSs (cxOf CX0 P w G.b.K mg base N qual (defScope st) f cdv A outer s H E).nox (defBody st) t ∧ SS G (fun c d _ T => E c d T) t b) : FnOk P w G.b.K mg base CX0 (k + 1) f fd ps (spOf G (fnOf N.length b) ps.length) := by
  refine F.ok Sc (fun vs H Q E h => sp_len h) (fun cdv A outer s H vs Q E hr h => ?_)
  obtain ⟨t, ht, hs⟩ := hb cdv A outer s H E hr
  exact ⟨t, ht, sp_run (sp_len h) hs h⟩
theorem okX_of {x qual : Str} {st : Stmt} {f : Addr} {fd : FuncData} {N ps : List Str} {k : Nat} {b : XS} (F : Fun G.b.K x qual st f fd) (Sc : FnScope N ps (defScope st))
    (hb : ∀ (cdv : Value) (A : Around) (outer : List Env) (s : Shared) (H : Hp) (E : XK), Room k (A.deeper (envOfC qual (defScope st) s.heap.objs.size f cdv)) →
      Takes (cxOf (L2.CX P w) P w G.b.K mg base N qual (defScope st) f cdv A outer s H E) (fun cls d _ T => E cls d T) →
      ∃ t, PSs (cxOf (L2.CX P w) P w G.b.K mg base N qual (defScope st) f cdv A outer s H E) (defBody st) t ∧ SS G (fun c d _ T => E c d T) t b) : FnOk P w G.b.K mg base (L2.CX P w) (k + 1) f fd ps (spOf G (fnOf N.length b) ps.length) := by
  refine F.okX Sc (fun vs H Q E h => sp_len h) (fun cdv A outer s H vs Q E hr h => ?_)
  obtain ⟨t, ht, hs⟩ := hb cdv A outer s H E hr (takes_of rfl rfl rfl rfl)
  exact ⟨t, ht, sp_run (sp_len h) hs h⟩
end

/-! ### calls -/
def keepC (ps : List PV) (hp : List O) : List Nat :=
  let r := once [] (ps.flatMap refP)
  once r (r.flatMap (refAt hp))
def callF (f : Fn) (ps : List PV) (hp : List O) : Option (R PV) :=
  let keep := keepC ps hp
  if decide keep.Nodup && keep.all (· < hp.length) then match renPs keep ps with
    | none => none
    | some qs => match subH keep hp keep with
      | none => none
      | some hs => match f qs hs with
        | none => none
        | some (.ret q hp') => some (.ok (bakP keep hp.length q) (bakH keep hp hp'))
        | some (.exc C ns ds hp') => some (.exc C ns ds (bakH keep hp hp'))
  else none
theorem call_sp {r : R PV} (c : Cf G α W F H σ en hp) (i : IsPs G α W ps vs) (e : callF f ps hp = some r) (g : Good G Ex α W F σ en Q r) (hE : ∀ c d T, Ex c d σ T → E c d T) (hn : vs.length = n) : spOf G f n vs H Q E := by
  unfold callF at e
  dsimp only at e
  generalize keepC ps hp = keep at e
  split at e
  · rename_i h
    rw [Bool.and_eq_true, decide_eq_true_eq] at h
    have hb : ∀ i ∈ keep, i < hp.length := fun i hi => by simpa using List.all_eq_true.mp h.2 i hi
    split at e
    · cases e
    · rename_i qs e1
      split at e
      · cases e
      · rename_i hs e2
        obtain ⟨F1, c1, back⟩ := c.enter h.1 hb e2
        have i1 := ren_isPs i e1
        split at e
        · cases e
        · rename_i q hp' e3
          cases e
          refine ⟨subA keep α, W, F1, qs, hs, _, hn, is_args c1 i1, e3, fun v β W' H' s l c2 i2 => ?_⟩
          obtain ⟨γ, l3, c3, hγ⟩ := back β W' H' hp' s l c2
          exact g v γ W' H' s l3 c3 (bak_isP (f := id) hγ i2)
        · rename_i C ns ds hp' e3
          cases e
          refine ⟨subA keep α, W, F1, qs, hs, _, hn, is_args c1 i1, e3, fun d ws β W' H' s l c2 il hd => ?_⟩
          obtain ⟨γ, l3, c3, hγ⟩ := back β W' H' hp' s l c2
          exact hE _ _ _ (g d ws γ W' H' s l3 c3 il hd)
  · cases e
/-- no exception comes -/
def nox {β : Type} (r : Option (R β)) : Option (R β) := match r with
  | some (.ok p hp) => some (.ok p hp)
  | _ => none
def xCall (f : Fn) (a : XA) : XE := fun en hp => xb (a en hp) fun ps hp1 => callF f ps hp1
def xCall0 (f : Fn) (a : XA) : XE := fun en hp => xb (a en hp) fun ps hp1 => nox (callF f ps hp1)
theorem nox_some {β : Type} {r : Option (R β)} {z : R β} (e : nox r = some z) : ∃ p hp, r = some (.ok p hp) ∧ z = .ok p hp := by
  unfold nox at e
  split at e
  · cases e
    exact ⟨_, _, rfl, rfl⟩
  · cases e
theorem isPs_n {n : Nat} (h : IsPs G α W ps vs) (hn : ps.length = n) : vs.length = n := by rw [← h.len]; exact hn
/-- how many arguments -/
def SAn (G : Ct) (Ex : WX) (t : TA) (x : XA) (n : Nat) : Prop := SA G Ex t x ∧ ∀ en hp ps hp', x en hp = some (.ok ps hp') → ps.length = n
theorem san_nil : SAn G Ex tNil xNil 0 := ⟨sa_nil, fun en hp ps hp' e => by cases e; rfl⟩
theorem san_cons (h : SE G Ex te x) (hs : SAn G Ex tas xas n) : SAn G Ex (tCons te tas) (xCons x xas) (n + 1) := ⟨sa_cons h hs.1, fun en hp ps hp' e => by
  rcases xb_cases e with ⟨p, hp1, e1, e2⟩ | ⟨C, ns, ds, hp1, e1, e2⟩
  · rcases xb_cases e2 with ⟨qs, hp2, e3, e4⟩ | ⟨C, ns, ds, hp1, e3, e4⟩
    · cases e4
      rw [List.length_cons, hs.2 _ _ _ _ e3]
    · cases e4
  · cases e2⟩
theorem se_call (h : SAn G Ex tas xas n) (hE : ∀ c d σ T, Ex c d σ T → E c d T) : SE G Ex (tCall (spOf G f n) [] E tas) (xCall f xas) := fun α W F H σ en hp r Q c e g => by
  unfold xCall at e
  rcases xb_cases e with ⟨ps, hp', e1, e2⟩ | ⟨C, ns, ds, hp', e1, e2⟩
  · refine h.1 α W F H σ en hp _ _ c e1 fun vs β W1 H1 s1 l1 c1 i1 => ?_
    show spOf G f n (vs ++ []) H1 Q E
    rw [List.append_nil]
    exact call_sp c1 i1 e2 (g.mono s1 l1) (fun c d T => hE c d σ T) (isPs_n i1 (h.2 _ _ _ _ e1))
  · exact h.1 α W F H σ en hp _ _ c e1 (g.gx _ _ _ _ e2)
theorem se_call0 (h : SAn G Ex tas xas n) : SE G Ex (tCall (spOf G f n) [] E tas) (xCall0 f xas) := fun α W F H σ en hp r Q c e g => by
  unfold xCall0 at e
  rcases xb_cases e with ⟨ps, hp', e1, e2⟩ | ⟨C, ns, ds, hp', e1, e2⟩
  · refine h.1 α W F H σ en hp _ _ c e1 fun vs β W1 H1 s1 l1 c1 i1 => ?_
    show spOf G f n (vs ++ []) H1 Q E
    rw [List.append_nil]
    obtain ⟨p, hp2, e3, rfl⟩ := nox_some e2
    exact call_sp (Ex := fun c d _ T => E c d T) c1 i1 e3 (fun v γ W2 H2 s2 l2 => g v γ W2 H2 (s1.trans s2) (l1.trans l2)) (fun c d T => id) (isPs_n i1 (h.2 _ _ _ _ e1))
  · exact h.1 α W F H σ en hp _ _ c e1 (g.gx _ _ _ _ e2)
/-- the class and the fields of an instance -/
def insOf (hp : List O) (p : PV) : Option (Nat × List Nat × List PV) := match p with
  | .fr (.ins C ns ds) => some (C, ns, ds.map .fr)
  | .rf i => match hp[i]? with
    | some (.ins C ns ps) => some (C, ns, ps)
    | some (.ice (.ins C ns ds)) => some (C, ns, ds.map .fr)
    | _ => none
  | _ => none
theorem ins_at {C : Nat} {ns : List Nat} {qs : List PV} (c : Cf G α W F H σ en hp) (i : IsP G α W p v) (e : insOf hp p = some (C, ns, qs)) : ∃ a dx vs, v = .ref a ∧ H a = some (.ins (G.b.cl C) dx ((ns.map G.b.nm).zip vs)) ∧ ns.length = vs.length ∧ IsPs G α W qs vs := by
  unfold insOf at e
  split at e
  · cases e
    obtain ⟨a, dx, vs, rfl, h1, h2, h3⟩ := is_ins.mp (isP_fr.mp i)
    exact ⟨a, dx, vs, rfl, c.sW _ _ h1, h2, isPs_fr.mpr h3⟩
  · rename_i j
    obtain ⟨a, h1, rfl⟩ := i
    split at e
    · rename_i C' ns' ps' ho
      cases e
      obtain ⟨u, k1, ⟨dx, vs, rfl, k3, k4⟩, _, _⟩ := (ownAt_live rfl).mp (c.own j _ a ho h1)
      exact ⟨a, dx, vs, rfl, k1, k3, k4⟩
    · rename_i C' ns' ds' ho
      cases e
      obtain ⟨a', dx, vs, e1, k1, k2, k3⟩ := is_ins.mp (show Is G.b W _ (.ref a) from c.own j _ a ho h1)
      cases e1
      exact ⟨a, dx, vs, rfl, c.sW _ _ k1, k2, isPs_fr.mpr k3⟩
    · cases e
  · cases e
theorem zip_noattr {b : Bs} : ∀ {ns : List Nat} {vs : List V} {m : Nat}, m ∉ ns → ((ns.map b.nm).zip vs).lookup (b.nm m) = none
  | [], _, _, _ => rfl
  | _ :: _, [], _, _ => rfl
  | n :: ns, v :: vs, m, h => by
    rw [List.map_cons, List.zip_cons_cons, List.lookup_cons]
    have h1 : (b.nm m == b.nm n) = false := by simpa using fun e => h (by rw [b.inj _ _ e]; exact List.mem_cons_self)
    rw [h1]
    exact zip_noattr (fun e => h (List.mem_cons_of_mem _ e))
def recv (C m : Nat) (hp : List O) (p : PV) : Bool := match insOf hp p with
  | some (C', ns, _) => decide (C' = C) && decide (m ∉ ns)
  | none => false
def xMeth (C m : Nat) (f : Fn) (o : XE) (a : XA) : XE := fun en hp => xb (o en hp) fun p hp1 => if recv C m hp1 p then xb (a en hp1) fun ps hp2 => callF f (p :: ps) hp2 else none
def xMeth0 (C m : Nat) (f : Fn) (o : XE) (a : XA) : XE := fun en hp => xb (o en hp) fun p hp1 => if recv C m hp1 p then xb (a en hp1) fun ps hp2 => nox (callF f (p :: ps) hp2) else none
theorem recv_at {C m : Nat} (c : Cf G α W F H σ en hp) (i : IsP G α W p v) (e : recv C m hp p = true) : ∃ a dx fs, v = .ref a ∧ H a = some (.ins (G.b.cl C) dx fs) ∧ fs.lookup (G.b.nm m) = none := by
  unfold recv at e
  split at e
  · rename_i C' ns qs e1
    rw [Bool.and_eq_true, decide_eq_true_eq, decide_eq_true_eq] at e
    obtain ⟨rfl, hm⟩ := e
    obtain ⟨a, dx, vs, h1, h2, h3, h4⟩ := ins_at c i e1
    exact ⟨a, dx, _, h1, h2, zip_noattr hm⟩
  · cases e
theorem se_meth {C m : Nat} (ho : SE G Ex te x) (h : SAn G Ex tas xas n) (hE : ∀ c d σ T, Ex c d σ T → E c d T) {mn : Str} (hm : G.b.nm m = mn) : SE G Ex (tMeth (G.b.cl C) mn (spOf G f (n + 1)) [] E te tas) (xMeth C m f x xas) := fun α W F H σ en hp r Q c e g =>
  ho.bind c e g.gx fun p hp1 v β W1 H1 e1 s1 l1 c1 i1 => by
    split at e1
    · rename_i hr
      obtain ⟨a, dx, fs, k1, k2, k3⟩ := recv_at c1 i1 hr
      refine ⟨a, dx, fs, k1, k2, hm ▸ k3, ?_⟩
      rcases xb_cases e1 with ⟨ps, hp', e2, e3⟩ | ⟨C, ns, ds, hp', e2, e3⟩
      · refine h.1 β W1 F H1 σ en hp1 _ _ c1 e2 fun vs γ W2 H2 s2 l2 c2 i2 => ?_
        show spOf G f (n + 1) (v :: (vs ++ [])) H2 Q E
        rw [List.append_nil]
        exact call_sp c2 (IsPs.cons (i1.mono s2 l2) i2) e3 ((g.mono s1 l1).mono s2 l2) (fun c d T => hE c d σ T) (by rw [List.length_cons, isPs_n i2 (h.2 _ _ _ _ e2)])
      · exact h.1 β W1 F H1 σ en hp1 _ _ c1 e2 ((g.mono s1 l1).gx _ _ _ _ e3)
    · cases e1
theorem se_meth0 {C m : Nat} (ho : SE G Ex te x) (h : SAn G Ex tas xas n) {mn : Str} (hm : G.b.nm m = mn) : SE G Ex (tMeth (G.b.cl C) mn (spOf G f (n + 1)) [] E te tas) (xMeth0 C m f x xas) := fun α W F H σ en hp r Q c e g =>
  ho.bind c e g.gx fun p hp1 v β W1 H1 e1 s1 l1 c1 i1 => by
    split at e1
    · rename_i hr
      obtain ⟨a, dx, fs, k1, k2, k3⟩ := recv_at c1 i1 hr
      refine ⟨a, dx, fs, k1, k2, hm ▸ k3, ?_⟩
      rcases xb_cases e1 with ⟨ps, hp', e2, e3⟩ | ⟨C, ns, ds, hp', e2, e3⟩
      · refine h.1 β W1 F H1 σ en hp1 _ _ c1 e2 fun vs γ W2 H2 s2 l2 c2 i2 => ?_
        show spOf G f (n + 1) (v :: (vs ++ [])) H2 Q E
        rw [List.append_nil]
        obtain ⟨q, hp3, e4, rfl⟩ := nox_some e3
        exact call_sp (Ex := fun c d _ T => E c d T) c2 (IsPs.cons (i1.mono s2 l2) i2) e4 (fun v γ W3 H3 s3 l3 => g v γ W3 H3 ((s1.trans s2).trans s3) ((l1.trans l2).trans l3)) (fun c d T => id) (by rw [List.length_cons, isPs_n i2 (h.2 _ _ _ _ e2)])
      · exact h.1 β W1 F H1 σ en hp1 _ _ c1 e2 ((g.mono s1 l1).gx _ _ _ _ e3)
    · cases e1
/-- the result never changed again -/
def fzF (f : Fn) : Fn := fun args hp => match f args hp with
  | some (.ret p hp') => match gFz hp' p with
    | none => none
    | some z => outR hp.length z.1 z.2
  | r => r
theorem sp_fz (h : spOf G (fzF f) n vs H Q E) : spOf G f n vs H Q E := by
  obtain ⟨α, W, F, args, hp, r, h1, c, h2, h3⟩ := h
  unfold fzF at h2
  split at h2
  · rename_i p hp' e1
    split at h2
    · cases h2
    · rename_i z e2
      unfold outR at h2
      split at h2
      · cases h2
      · rename_i y e3
        cases h2
        refine ⟨α, W, F, args, hp, _, h1, c, e1, fun v β W' H' s l c' i => ?_⟩
        obtain ⟨W2, s2, c2, i2⟩ := c'.fz i e2
        obtain ⟨γ, l3, c3, i3⟩ := c2.gc i2 e3 c.al l
        exact h3 v γ W2 H' (s.trans s2) l3 c3 i3
  · exact ⟨α, W, F, args, hp, r, h1, c, h2, h3⟩
/-- a new instance by __init__ -/
def mkF (z : Bool) (C : Nat) (f : Fn) : Fn := fun args hp => match f (.rf hp.length :: args) (hp ++ [.ins C [] []]) with
  | some (.ret (.fr .non) hp') => if z then match gFz hp' (.rf hp.length) with
      | none => none
      | some y => outR hp.length y.1 y.2
    else outR hp.length (.rf hp.length) hp'
  | some (.exc C' ns ds hp') => outX hp.length C' ns ds hp'
  | _ => none
theorem make_sp {z : Bool} {C : Nat} (h : spOf G (mkF z C f) n vs H Q E) {a dx : Addr} (ha : H a = none) (hd : H dx = none) (hne : dx ≠ a) :
    spOf G f (n + 1) (.ref a :: vs) (upd (upd H dx (.own a)) a (.ins (G.b.cl C) dx [])) (fun v H2 => v = .non ∧ Q (.ref a) H2) E := by
  obtain ⟨α, W, F, args, hp, r, h1, c, h2, h3⟩ := h
  obtain ⟨c1, s1⟩ := c.allocW (ho := .own a) hd
  have ha1 : upd H dx (.own a) a = none := by rw [upd_ne (Ne.symm hne)]; exact ha
  have io : IsO G α (upd W dx (.own a)) (.ins C [] []) (.ins (G.b.cl C) dx []) := ⟨dx, [], rfl, rfl, rfl⟩
  obtain ⟨c2, l2⟩ := c1.new (o := .ins C [] []) ha1 rfl io
  have iargs : IsPs G (α ++ [a]) (upd W dx (.own a)) args vs := (args_is c).mono s1 l2
  have i0 : IsP G (α ++ [a]) (upd W dx (.own a)) (.rf hp.length) (.ref a) := ⟨a, by rw [← c.al, List.getElem?_append_right (Nat.le_refl _)]; simp, rfl⟩
  have c3 := is_args c2 (IsPs.cons i0 iargs)
  have lα : Grow α (α ++ [a]) := l2
  unfold mkF at h2
  split at h2
  · rename_i hp' e1
    refine ⟨α ++ [a], _, F, _, _, _, by rw [List.length_cons, h1], c3, e1, fun v β W' H' s l c' i => ⟨isP_non.mp i, ?_⟩⟩
    have ir : IsP G β W' (.rf hp.length) (.ref a) := i0.mono s l
    split at h2
    · split at h2
      · cases h2
      · rename_i y e2
        unfold outR at h2
        split at h2
        · cases h2
        · rename_i y2 e3
          cases h2
          obtain ⟨W2, s2, c4, i4⟩ := c'.fz ir e2
          obtain ⟨γ, l5, c5, i5⟩ := c4.gc i4 e3 c.al (lα.trans l)
          exact h3 _ γ W2 H' (s1.trans (s.trans s2)) l5 c5 i5
    · unfold outR at h2
      split at h2
      · cases h2
      · rename_i y2 e3
        cases h2
        obtain ⟨γ, l5, c5, i5⟩ := c'.gc ir e3 c.al (lα.trans l)
        exact h3 _ γ W' H' (s1.trans s) l5 c5 i5
  · rename_i C' ns ds hp' e1
    refine ⟨α ++ [a], _, F, _, _, _, by rw [List.length_cons, h1], c3, e1, fun d ws β W' H' s l c' il hd' => ?_⟩
    unfold outX at h2
    split at h2
    · cases h2
    · rename_i y e2
      cases h2
      obtain ⟨γ, l5, c5, i5⟩ := c'.gc (v := .non) (isP_non.mpr rfl) e2 c.al (lα.trans l)
      exact h3 d ws γ W' H' (s1.trans s) l5 c5 il hd'
  · cases h2
theorem se_make {z : Bool} {C : Nat} (h : SAn G Ex tas xas n) (hE : ∀ c d σ T, Ex c d σ T → E c d T) : SE G Ex (tMake (G.b.cl C) (spOf G f (n + 1)) [] E tas) (xCall (mkF z C f) xas) := fun α W F H σ en hp r Q c e g => by
  unfold xCall at e
  rcases xb_cases e with ⟨ps, hp', e1, e2⟩ | ⟨C, ns, ds, hp', e1, e2⟩
  · refine h.1 α W F H σ en hp _ _ c e1 fun vs β W1 H1 s1 l1 c1 i1 x dx hx hdx hne => ?_
    rw [List.append_nil]
    exact make_sp (call_sp c1 i1 e2 (g.mono s1 l1) (fun c d T => hE c d σ T) (isPs_n i1 (h.2 _ _ _ _ e1))) hx hdx hne
  · exact h.1 α W F H σ en hp _ _ c e1 (g.gx _ _ _ _ e2)
theorem se_make0 {z : Bool} {C : Nat} (h : SAn G Ex tas xas n) : SE G Ex (tMake (G.b.cl C) (spOf G f (n + 1)) [] E tas) (xCall0 (mkF z C f) xas) := fun α W F H σ en hp r Q c e g => by
  unfold xCall0 at e
  rcases xb_cases e with ⟨ps, hp', e1, e2⟩ | ⟨C, ns, ds, hp', e1, e2⟩
  · refine h.1 α W F H σ en hp _ _ c e1 fun vs β W1 H1 s1 l1 c1 i1 x dx hx hdx hne => ?_
    rw [List.append_nil]
    obtain ⟨p, hp2, e3, rfl⟩ := nox_some e2
    exact make_sp (call_sp (Ex := fun c d _ T => E c d T) c1 i1 e3 (fun v γ W2 H2 s2 l2 => g v γ W2 H2 (s1.trans s2) (l1.trans l2)) (fun c d T => id) (isPs_n i1 (h.2 _ _ _ _ e1))) hx hdx hne
  · exact h.1 α W F H σ en hp _ _ c e1 (g.gx _ _ _ _ e2)
end
end ML

namespace ML
open PySem L2 PySem.Spec PyProof.Rows

/-! ### sequences as they are read -/
/-- is it a tuple; its items -/
def itemsD : D → Option (Bool × List D)
  | .lst ds => some (false, ds)
  | .rol ds => some (false, ds)
  | .tup ds => some (true, ds)
  | .rot ds => some (true, ds)
  | _ => none
def vseq (hp : List O) (p : PV) : Option (Bool × List PV) := match p with
  | .fr d => match itemsD d with
    | none => none
    | some z => some (z.1, z.2.map .fr)
  | .rf i => match hp[i]? with
    | some (.lst ds) => some (false, ds.map .fr)
    | some (.mix ps) => some (false, ps)
    | some (.ice d) => match itemsD d with
      | none => none
      | some z => some (z.1, z.2.map .fr)
    | _ => none
  | .ex _ _ _ => none
def SqK (K : PySem.W.Frag) (k : Bool) (H : Hp) (a : Addr) (vs : List V) : Prop := if k = true then SqT K H a vs else SqL K H a vs
/-- data of a thing -/
def pvD (hp : List O) (p : PV) : Option D := match p with
  | .fr d => some d
  | .rf i => match hp[i]? with
    | none => none
    | some o => toD o
  | .ex _ _ _ => none

/-! ### == of data -/
mutual
def toPy : D → PyData
  | .non => .none
  | .bl b => .bool b
  | .int i => .int i
  | .str x => .str x
  | .lst ds => .list (toPyL ds)
  | .rol ds => .list (toPyL ds)
  | .tup ds => .tuple (toPyL ds)
  | .rot ds => .tuple (toPyL ds)
  | _ => .none
def toPyL : List D → List PyData
  | [] => []
  | d :: ds => toPy d :: toPyL ds
end
mutual
/-- plain, and no deeper than n -/
def okD : Nat → D → Bool
  | _, .non => true
  | _, .bl _ => true
  | _, .int _ => true
  | _, .str x => PyData.strOk x
  | n + 1, .lst ds => okL n ds
  | n + 1, .rol ds => okL n ds
  | n + 1, .tup ds => okL n ds
  | n + 1, .rot ds => okL n ds
  | _, _ => false
def okL : Nat → List D → Bool
  | _, [] => true
  | n, d :: ds => okD n d && okL n ds
end
theorem okL_all (n : Nat) : ∀ ds : List D, okL n ds = ds.all (okD n)
  | [] => by unfold okL; rfl
  | d :: ds => by unfold okL; rw [List.all_cons, okL_all n ds]

section
variable {G : Ct} {Ex : WX} {α β : List Addr} {W W' F H H' : Hp} {σ : L2.St} {en : En} {hp hp' : List O} {v : V} {p : PV} {k : Bool} {ps : List PV} {d : D}
theorem items_at {K : PySem.W.Frag} {z : Bool × List D} (s : Same W H) (i : Is G.b W d v) (e : itemsD d = some z) : ∃ a vs, v = .ref a ∧ SqK G.b.K z.1 H a vs ∧ IsL G.b W z.2 vs := by
  cases d <;> first | cases e | skip
  · obtain ⟨a, vs, h1, h2, h3⟩ := is_lst.mp i
    exact ⟨a, vs, h1, SqL.of (s _ _ h2), h3⟩
  · obtain ⟨a, vs, h1, h2, h3⟩ := is_rol.mp i
    exact ⟨a, vs, h1, s.seq h2, h3⟩
  · obtain ⟨a, vs, h1, h2, h3⟩ := is_tup.mp i
    exact ⟨a, vs, h1, SqT.of (s _ _ h2), h3⟩
  · obtain ⟨a, vs, h1, h2, h3⟩ := is_rot.mp i
    exact ⟨a, vs, h1, L2.Same.sqt s h2, h3⟩
theorem seq_at (c : Cf G α W F H σ en hp) (i : IsP G α W p v) (e : vseq hp p = some (k, ps)) : ∃ a vs, v = .ref a ∧ SqK G.b.K k H a vs ∧ IsPs G α W ps vs := by
  unfold vseq at e
  split at e
  · split at e
    · cases e
    · rename_i z ez
      cases e
      obtain ⟨a, vs, h1, h2, h3⟩ := items_at (K := G.b.K) c.sW (isP_fr.mp i) ez
      exact ⟨a, vs, h1, h2, isPs_fr.mpr h3⟩
  · rename_i j
    obtain ⟨a, h1, rfl⟩ := i
    split at e
    · rename_i ds ho
      cases e
      obtain ⟨u, k1, ⟨vs, rfl, k3⟩, _, _⟩ := (ownAt_live rfl).mp (c.own j _ a ho h1)
      exact ⟨a, vs, rfl, SqL.of k1, isPs_fr.mpr k3⟩
    · rename_i qs ho
      cases e
      obtain ⟨u, k1, ⟨vs, rfl, k3⟩, _, _⟩ := (ownAt_live rfl).mp (c.own j _ a ho h1)
      exact ⟨a, vs, rfl, SqL.of k1, k3⟩
    · rename_i d ho
      split at e
      · cases e
      · rename_i z ez
        cases e
        obtain ⟨a', vs, h2, h3, h4⟩ := items_at (K := G.b.K) c.sW (show Is G.b W d (.ref a) from c.own j _ a ho h1) ez
        exact ⟨a', vs, h2, h3, isPs_fr.mpr h4⟩
    · cases e
  · cases e
theorem SqK.or {K : PySem.W.Frag} {a : Addr} {vs : List V} (h : SqK K k H a vs) : SqL K H a vs ∨ SqT K H a vs := by
  unfold SqK at h
  cases k with
  | true => exact .inr h
  | false => exact .inl h
/-- data with something read besides -/
theorem pvD_at (c : Cf G α W F H σ en hp) (i : IsP G α W p v) (e : pvD hp p = some d) : ∃ W1, Same W W1 ∧ Same W1 H ∧ Is G.b W1 d v := by
  unfold pvD at e
  split at e
  · cases e
    exact ⟨W, Same.refl _, c.sW, i⟩
  · rename_i j
    obtain ⟨a, h1, rfl⟩ := i
    split at e
    · cases e
    · rename_i o ho
      by_cases hl : Live o = true
      · obtain ⟨u, k1, k2, k3, k4⟩ := (ownAt_live hl).mp (c.own j _ a ho h1)
        have s1 : Same W (upd W a u) := same_upd k3
        refine ⟨upd W a u, s1, fun b w eb => ?_, toD_is e k2 s1 upd_same⟩
        by_cases q : b = a
        · subst q; rw [upd_same] at eb; cases eb; exact k1
        · rw [upd_ne q] at eb; exact c.sW b w eb
      · cases o with
        | ice d' =>
          cases e
          exact ⟨W, Same.refl _, c.sW, c.own j _ a ho h1⟩
        | gone => cases e
        | _ => exact absurd rfl hl
  · cases e
mutual
theorem dp_of {W H : Hp} (s : Same W H) : ∀ {n : Nat} {d : D} {v : V}, okD n d = true → Is G.b W d v → Dp G.b.K H v (toPy d)
  | _, .non, v, _, h => by rw [is_non] at h; subst h; unfold toPy; exact .non
  | _, .bl b, v, _, h => by rw [is_bl] at h; subst h; unfold toPy; exact .bl _
  | _, .int b, v, _, h => by rw [is_int] at h; subst h; unfold toPy; exact .int _
  | _, .str b, v, _, h => by rw [is_str] at h; subst h; unfold toPy; exact .str _
  | n + 1, .lst ds, v, p, h => by
    rw [is_lst] at h
    obtain ⟨a, vs, rfl, h1, h2⟩ := h
    unfold toPy
    unfold okD at p
    exact .lst (SqL.of (s _ _ h1)) (dpL_of s p h2)
  | n + 1, .rol ds, v, p, h => by
    rw [is_rol] at h
    obtain ⟨a, vs, rfl, h1, h2⟩ := h
    unfold toPy
    unfold okD at p
    exact .lst (s.seq h1) (dpL_of s p h2)
  | n + 1, .tup ds, v, p, h => by
    rw [is_tup] at h
    obtain ⟨a, vs, rfl, h1, h2⟩ := h
    unfold toPy
    unfold okD at p
    exact .tup (SqT.of (s _ _ h1)) (dpL_of s p h2)
  | n + 1, .rot ds, v, p, h => by
    rw [is_rot] at h
    obtain ⟨a, vs, rfl, h1, h2⟩ := h
    unfold toPy
    unfold okD at p
    exact .tup (L2.Same.sqt s h1) (dpL_of s p h2)
  | 0, .lst _, v, p, h => by simp [okD] at p
  | 0, .rol _, v, p, h => by simp [okD] at p
  | 0, .tup _, v, p, h => by simp [okD] at p
  | 0, .rot _, v, p, h => by simp [okD] at p
  | _, .ins _ _ _, v, p, h => by simp [okD] at p
  | _, .ty _, v, p, h => by simp [okD] at p
  | _, .cls _, v, p, h => by simp [okD] at p
  | _, .dct _ _, v, p, h => by simp [okD] at p
  | _, .dtt _ _, v, p, h => by simp [okD] at p
theorem dpL_of {W H : Hp} (s : Same W H) : ∀ {n : Nat} {ds : List D} {vs : List V}, okL n ds = true → IsL G.b W ds vs → DpAll G.b.K H vs (toPyL ds)
  | n, [], vs, _, h => by unfold IsL at h; subst h; unfold toPyL; exact .nil
  | n, d :: ds, vs, p, h => by
    obtain ⟨v, ws, rfl, h1, h2⟩ := h.uncons
    unfold okL at p
    rw [Bool.and_eq_true] at p
    unfold toPyL
    exact .cons (dp_of s p.1 h1) (dpL_of s p.2 h2)
end
mutual
theorem okD_lay : ∀ {n : Nat} {d : D}, okD n d = true → PyData.canLay0 (toPy d) = true ∧ PyData.depth (toPy d) ≤ n
  | _, .non, _ => by simp [toPy, PyData.canLay0, PyData.depth]
  | _, .bl b, _ => by simp [toPy, PyData.canLay0, PyData.depth]
  | _, .int b, _ => by simp [toPy, PyData.canLay0, PyData.depth]
  | _, .str b, p => by
    have : PyData.strOk b = true := by cases ‹Nat› <;> simpa [okD] using p
    simp [toPy, PyData.canLay0, PyData.depth, this]
  | n + 1, .lst ds, p => by
    unfold okD at p
    obtain ⟨h1, h2⟩ := okL_lay p
    simp [toPy, PyData.canLay0, PyData.depth, h1, h2]
  | n + 1, .rol ds, p => by
    unfold okD at p
    obtain ⟨h1, h2⟩ := okL_lay p
    simp [toPy, PyData.canLay0, PyData.depth, h1, h2]
  | n + 1, .tup ds, p => by
    unfold okD at p
    obtain ⟨h1, h2⟩ := okL_lay p
    simp [toPy, PyData.canLay0, PyData.depth, h1, h2]
  | n + 1, .rot ds, p => by
    unfold okD at p
    obtain ⟨h1, h2⟩ := okL_lay p
    simp [toPy, PyData.canLay0, PyData.depth, h1, h2]
  | 0, .lst _, p => by simp [okD] at p
  | 0, .rol _, p => by simp [okD] at p
  | 0, .tup _, p => by simp [okD] at p
  | 0, .rot _, p => by simp [okD] at p
  | _, .ins _ _ _, p => by simp [okD] at p
  | _, .ty _, p => by simp [okD] at p
  | _, .cls _, p => by simp [okD] at p
  | _, .dct _ _, p => by simp [okD] at p
  | _, .dtt _ _, p => by simp [okD] at p
theorem okL_lay : ∀ {n : Nat} {ds : List D}, okL n ds = true → PyData.canLayAll0 (toPyL ds) = true ∧ PyData.depthAll (toPyL ds) ≤ n
  | n, [], _ => by simp [toPyL, PyData.canLayAll0, PyData.depthAll]
  | n, d :: ds, p => by
    unfold okL at p
    rw [Bool.and_eq_true] at p
    obtain ⟨h1, h2⟩ := okD_lay p.1
    obtain ⟨h3, h4⟩ := okL_lay p.2
    simp only [toPyL, PyData.canLayAll0, PyData.depthAll, h1, h3, Bool.and_self, true_and]
    omega
end
theorem okD_shaped (h : okD 60 d = true) : SeqAt.shaped (toPy d) = true := by
  obtain ⟨h1, h2⟩ := okD_lay h
  unfold SeqAt.shaped
  rw [h1, Bool.true_and, decide_eq_true_eq]
  omega

/-! ### operators -/
def sz (n : Nat) : Bool := decide (n ≤ 100000)
theorem sz_of {n : Nat} (h : sz n = true) : n ≤ sizeLine := Nat.le_trans (of_decide_eq_true h) (by decide)
def rAddB (K : PySem.W.Frag) : R2 := fun x y H Q => (rI0 fun i j => .int (i + j)) x y H Q ∨ rCat x y H Q ∨ (∃ i j, x = .str i ∧ y = .str j ∧ i.length + j.length ≤ sizeLine ∧ Q (.str (i ++ j)) H) ∨ rCatT K x y H Q
theorem op_addB {X : Cx} (K : PySem.W.Frag) (h : X.K = K) : OpR X (binaryOp .Add) (rAddB K) := h ▸ op_add.or (op_cat.or (op_add_str.or op_catT))
/-- lists that stand in the heap; tuples -/
def isLst (hp : List O) (p : PV) : Option (List PV) := match p with
  | .fr (.lst ds) => some (ds.map .fr)
  | .rf i => match hp[i]? with
    | some (.lst ds) => some (ds.map .fr)
    | some (.mix ps) => some ps
    | some (.ice (.lst ds)) => some (ds.map .fr)
    | _ => none
  | _ => none
theorem lst_at (c : Cf G α W F H σ en hp) (i : IsP G α W p v) (e : isLst hp p = some ps) : ∃ a vs, v = .ref a ∧ H a = some (.lst vs) ∧ IsPs G α W ps vs := by
  unfold isLst at e
  split at e
  · cases e
    obtain ⟨a, vs, h1, h2, h3⟩ := is_lst.mp (isP_fr.mp i)
    exact ⟨a, vs, h1, c.sW _ _ h2, isPs_fr.mpr h3⟩
  · rename_i j
    obtain ⟨a, h1, rfl⟩ := i
    split at e
    · rename_i ds ho
      cases e
      obtain ⟨u, k1, ⟨vs, rfl, k3⟩, _, _⟩ := (ownAt_live rfl).mp (c.own j _ a ho h1)
      exact ⟨a, vs, rfl, k1, isPs_fr.mpr k3⟩
    · rename_i qs ho
      cases e
      obtain ⟨u, k1, ⟨vs, rfl, k3⟩, _, _⟩ := (ownAt_live rfl).mp (c.own j _ a ho h1)
      exact ⟨a, vs, rfl, k1, k3⟩
    · rename_i ds ho
      cases e
      obtain ⟨a', vs, h2, h3, h4⟩ := is_lst.mp (show Is G.b W (.lst ds) (.ref a) from c.own j _ a ho h1)
      cases h2
      exact ⟨a, vs, rfl, c.sW _ _ h3, isPs_fr.mpr h4⟩
    · cases e
  · cases e
/-- a list of such items -/
def mkL (ps : List PV) : O := match unfr ps with
  | some ds => .lst ds
  | none => .mix ps
theorem mkL_is {vs : List V} (i : IsPs G α W ps vs) : IsO G α W (mkL ps) (.lst vs) := by
  unfold mkL
  split
  · rename_i ds e
    rw [unfr_some e] at i
    exact ⟨vs, rfl, isPs_fr.mp i⟩
  · exact ⟨vs, rfl, i⟩
/-- a tuple of data -/
def mkT (ps : List PV) : Option D := (unfr ps).map .tup
theorem newT (c : Cf G α W F H σ en hp) {vs : List V} {a : Addr} (hq : H a = none) (i : IsPs G α W ps vs) (e : mkT ps = some d) : ∃ W', Same W W' ∧ Cf G α W' F (upd H a (.tup vs)) σ en hp ∧ Is G.b W' d (.ref a) := by
  unfold mkT at e
  rw [Option.map_eq_some_iff] at e
  obtain ⟨ds, e1, rfl⟩ := e
  rw [unfr_some e1] at i
  obtain ⟨c1, s1⟩ := c.allocW (ho := .tup vs) hq
  exact ⟨_, s1, c1, is_tup.mpr ⟨a, vs, rfl, upd_same, (isPs_fr.mp i).mono s1⟩⟩
def gAdd (z : Bool) (hp : List O) (p q : PV) : Option (PV × List O) := match p, q with
  | .fr (.int m), .fr (.int n) => some (.fr (.int (m + n)), hp)
  | .fr (.str a), .fr (.str b) => if sz (a.length + b.length) then some (.fr (.str (a ++ b)), hp) else none
  | .fr (.tup ds), .fr (.tup es) => if ds.isEmpty then none else if sz (ds.length + es.length) then some (.fr (.tup (ds ++ es)), hp) else none
  | p, q => match isLst hp p with
    | none => none
    | some ps => match isLst hp q with
      | none => none
      | some qs => if sz (ps.length + qs.length) then fresh z (mkL (ps ++ qs)) hp else none
theorem g_add {z : Bool} : G2 G (rAddB G.b.K) (gAdd z) := fun α W F H σ en hp p q v w y hp' Q c ip iq e k => by
  unfold gAdd at e
  split at e
  · cases e
    exact .inl ⟨_, _, isP_int.mp ip, isP_int.mp iq, k _ α W H (Same.refl _) (Grow.refl _) c (isP_int.mpr rfl)⟩
  · split at e
    · rename_i hz
      cases e
      exact .inr (.inr (.inl ⟨_, _, isP_str.mp ip, isP_str.mp iq, sz_of hz, k _ α W H (Same.refl _) (Grow.refl _) c (isP_str.mpr rfl)⟩))
    · cases e
  · rename_i ds es
    split at e
    · cases e
    · rename_i hne
      split at e
      · rename_i hz
        cases e
        obtain ⟨a, vs, rfl, h1, h2⟩ := is_tup.mp (isP_fr.mp ip)
        obtain ⟨b, ws, rfl, h3, h4⟩ := is_tup.mp (isP_fr.mp iq)
        refine .inr (.inr (.inr ⟨a, b, vs, ws, rfl, rfl, SqT.of (c.sW _ _ h1), SqT.of (c.sW _ _ h3), fun h => ?_, by rw [← h2.len, ← h4.len]; exact sz_of hz, fun h => ?_, fun _ t ht => ?_⟩))
        · subst h
          have := h2.len
          simp at this
          subst this
          exact hne rfl
        · subst h
          have := h4.len
          simp at this
          subst this
          exact k _ α W H (Same.refl _) (Grow.refl _) c (isP_fr.mpr (is_tup.mpr ⟨a, vs, rfl, h1, by rw [List.append_nil]; exact h2⟩))
        · obtain ⟨c1, s1⟩ := c.allocW (ho := .tup (vs ++ ws)) ht
          exact k _ α _ _ s1 (Grow.refl _) c1 (isP_fr.mpr (is_tup.mpr ⟨t, _, rfl, upd_same, (h2.append h4).mono s1⟩))
      · cases e
  · split at e
    · cases e
    · rename_i ps e1
      split at e
      · cases e
      · rename_i qs e2
        split at e
        · rename_i hz
          obtain ⟨a, vs, rfl, h1, h2⟩ := lst_at c ip e1
          obtain ⟨b, ws, rfl, h3, h4⟩ := lst_at c iq e2
          refine .inr (.inl ⟨a, b, vs, ws, rfl, rfl, h1, h3, by rw [← h2.len, ← h4.len]; exact sz_of hz, fun l hl => ?_⟩)
          obtain ⟨β, W1, s1, l1, c1, i1⟩ := c.fresh hl (mkL_is (h2.append h4)) e
          exact k _ β W1 _ s1 l1 c1 i1
        · cases e
/-- of two ints an int, a bool -/
def gI (g : Int → Int → D) (C : Int → Int → Bool) (hp : List O) (p q : PV) : Option (PV × List O) := match p, q with
  | .fr (.int m), .fr (.int n) => if C m n then some (.fr (g m n), hp) else none
  | _, _ => none
theorem g_I {g : Int → Int → D} {g' : Int → Int → V} {C : Int → Int → Bool} {C' : Int → Int → Prop} (hC : ∀ m n, C m n = true → C' m n) (hg : ∀ W m n, Is G.b W (g m n) (g' m n)) : G2 G (rI C' g') (gI g C) := fun α W F H σ en hp p q v w y hp' Q c ip iq e k => by
  unfold gI at e
  split at e
  · split at e
    · rename_i hc
      cases e
      exact ⟨_, _, isP_int.mp ip, isP_int.mp iq, hC _ _ hc, k _ α W H (Same.refl _) (Grow.refl _) c (isP_fr.mpr (hg _ _ _))⟩
    · cases e
  · cases e
theorem g_I0 {g : Int → Int → D} {g' : Int → Int → V} (hg : ∀ W m n, Is G.b W (g m n) (g' m n)) : G2 G (rI0 g') (gI g fun _ _ => true) := fun α W F H σ en hp p q v w y hp' Q c ip iq e k => by
  unfold gI at e
  split at e
  · rw [if_pos rfl] at e
    cases e
    exact ⟨_, _, isP_int.mp ip, isP_int.mp iq, k _ α W H (Same.refl _) (Grow.refl _) c (isP_fr.mpr (hg _ _ _))⟩
  · cases e
def gSub := gI (fun m n => .int (m - n)) fun _ _ => true
theorem g_sub : G2 G (rI0 fun i j => .int (i - j)) gSub := g_I0 fun W m n => is_int.mpr rfl
def gMod := gI (fun m n => .int (m % n)) fun _ n => decide (0 < n)
theorem g_mod : G2 G (rI (fun _ j => 0 < j) fun i j => .int (i % j)) gMod := g_I (fun m n h => of_decide_eq_true h) fun W m n => is_int.mpr rfl
def gFdv := gI (fun m n => .int (m / n)) fun _ n => decide (0 < n) && decide (n.natAbs.log2 < 9000)
theorem g_fdv : G2 G (rI CDivW fun i j => .int (i / j)) gFdv := g_I (fun m n h => by rw [Bool.and_eq_true, decide_eq_true_eq, decide_eq_true_eq] at h; exact h) fun W m n => is_int.mpr rfl
def cPow (m n : Int) : Bool := decide (0 ≤ n) && decide (n ≤ 1000000) && decide (m.natAbs < 2 ^ 64)
def gPow := gI (fun m n => .int (m ^ n.toNat)) cPow
theorem g_pow : G2 G (rI CPow fun i j => .int (i ^ j.toNat)) gPow := g_I (fun m n h => by unfold cPow at h; simp only [Bool.and_eq_true, decide_eq_true_eq] at h; exact ⟨h.1.1, h.1.2, h.2⟩) fun W m n => is_int.mpr rfl
def rMulB : R2 := fun x y H Q => (rI CMulW fun i j => .int (i * j)) x y H Q ∨ (rI CMul fun i j => .int (i * j)) x y H Q ∨ rRep x y H Q
theorem op_mulB {X : Cx} : OpR X (binaryOp .Mult) rMulB := op_mulW.or (op_mul.or op_rep)
def cMul (m n : Int) : Bool := (decide (-(2 ^ 64) < m) && decide (m < 2 ^ 64)) || (decide (-(2 ^ 64) < n) && decide (n < 2 ^ 64))
def cMulW (m n : Int) : Bool := decide (m.natAbs.log2 + n.natAbs.log2 < 1000000)
def gMul (z : Bool) (hp : List O) (p q : PV) : Option (PV × List O) := match p, q with
  | .fr (.int m), .fr (.int n) => if cMul m n || cMulW m n then some (.fr (.int (m * n)), hp) else none
  | p, .fr (.int n) => match isLst hp p with
    | none => none
    | some ps => if decide (-100000 ≤ n) && decide (n ≤ 100000) && sz (ps.length * n.toNat) then fresh z (mkL (List.replicate n.toNat ps).flatten) hp else none
  | _, _ => none
theorem isPs_rep {vs : List V} (h : IsPs G α W ps vs) : ∀ n : Nat, IsPs G α W (List.replicate n ps).flatten (List.replicate n vs).flatten
  | 0 => IsPs.nil
  | n + 1 => by
    rw [List.replicate_succ, List.replicate_succ, List.flatten_cons, List.flatten_cons]
    exact h.append (isPs_rep h n)
theorem g_mul {z : Bool} : G2 G rMulB (gMul z) := fun α W F H σ en hp p q v w y hp' Q c ip iq e k => by
  unfold gMul at e
  split at e
  · rename_i m n
    split at e
    · rename_i hc
      cases e
      rw [Bool.or_eq_true] at hc
      rcases hc with hc | hc
      · refine .inr (.inl ⟨_, _, isP_int.mp ip, isP_int.mp iq, ?_, k _ α W H (Same.refl _) (Grow.refl _) c (isP_int.mpr rfl)⟩)
        unfold cMul at hc
        simp only [Bool.or_eq_true, Bool.and_eq_true, decide_eq_true_eq] at hc
        exact hc
      · exact .inl ⟨_, _, isP_int.mp ip, isP_int.mp iq, (by unfold cMulW at hc; rw [decide_eq_true_eq] at hc; exact hc), k _ α W H (Same.refl _) (Grow.refl _) c (isP_int.mpr rfl)⟩
    · cases e
  · rename_i n _
    split at e
    · cases e
    · rename_i ps e1
      split at e
      · rename_i hc
        simp only [Bool.and_eq_true, decide_eq_true_eq] at hc
        obtain ⟨a, vs, rfl, h1, h2⟩ := lst_at c ip e1
        refine .inr (.inr ⟨a, n, vs, rfl, isP_int.mp iq, h1, by omega, by omega, by rw [← h2.len]; exact sz_of hc.2, fun l hl => ?_⟩)
        obtain ⟨β, W1, s1, l1, c1, i1⟩ := c.fresh hl (mkL_is (isPs_rep h2 n.toNat)) e
        exact k _ β W1 _ s1 l1 c1 i1
      · cases e
  · cases e
def gLt := gI (fun m n => .bl (decide (m < n))) fun _ _ => true
def gLe := gI (fun m n => .bl (decide (m ≤ n))) fun _ _ => true
def gGt := gI (fun m n => .bl (decide (n < m))) fun _ _ => true
def gGe := gI (fun m n => .bl (decide (n ≤ m))) fun _ _ => true
theorem g_lt : G2 G (rI0 fun i j => .bl (decide (i < j))) gLt := g_I0 fun W m n => is_bl.mpr rfl
theorem g_le : G2 G (rI0 fun i j => .bl (decide (i ≤ j))) gLe := g_I0 fun W m n => is_bl.mpr rfl
theorem g_gt : G2 G (rI0 fun i j => .bl (decide (j < i))) gGt := g_I0 fun W m n => is_bl.mpr rfl
theorem g_ge : G2 G (rI0 fun i j => .bl (decide (j ≤ i))) gGe := g_I0 fun W m n => is_bl.mpr rfl
/-- == and != of data -/
def eqPy (x y : D) : Bool := PyData.eqv (toPy x) (toPy y)
def gEqD (neg : Bool) (hp : List O) (p q : PV) : Option (PV × List O) := match pvD hp p with
  | none => none
  | some x => match pvD hp q with
    | none => none
    | some y => if okD 60 x && okD 60 y then some (.fr (.bl (if neg then !eqPy x y else eqPy x y)), hp) else none
theorem eqD_at {q : PV} {w : V} {x y : D} (c : Cf G α W F H σ en hp) (ip : IsP G α W p v) (iq : IsP G α W q w) (e1 : pvD hp p = some x) (e2 : pvD hp q = some y) (hx : okD 60 x = true) (hy : okD 60 y = true) :
    Dp G.b.K H v (toPy x) ∧ Dp G.b.K H w (toPy y) ∧ SeqAt.shaped (toPy x) = true ∧ SeqAt.shaped (toPy y) = true := by
  obtain ⟨W1, _, s1, i1⟩ := pvD_at c ip e1
  obtain ⟨W2, _, s2, i2⟩ := pvD_at c iq e2
  exact ⟨dp_of s1 hx i1, dp_of s2 hy i2, okD_shaped hx, okD_shaped hy⟩
theorem g_eqD : G2 G (rEqD G.b.K) (gEqD false) := fun α W F H σ en hp p q v w y hp' Q c ip iq e k => by
  unfold gEqD at e
  split at e
  · cases e
  · rename_i dx e1
    split at e
    · cases e
    · rename_i dy e2
      split at e
      · rename_i hh
        cases e
        rw [Bool.and_eq_true] at hh
        obtain ⟨h1, h2, h3, h4⟩ := eqD_at c ip iq e1 e2 hh.1 hh.2
        exact ⟨_, _, h1, h2, h3, h4, k _ α W H (Same.refl _) (Grow.refl _) c (isP_bl.mpr rfl)⟩
      · cases e
theorem g_neD : G2 G (rNeD G.b.K) (gEqD true) := fun α W F H σ en hp p q v w y hp' Q c ip iq e k => by
  unfold gEqD at e
  split at e
  · cases e
  · rename_i dx e1
    split at e
    · cases e
    · rename_i dy e2
      split at e
      · rename_i hh
        cases e
        rw [Bool.and_eq_true] at hh
        obtain ⟨h1, h2, h3, h4⟩ := eqD_at c ip iq e1 e2 hh.1 hh.2
        exact ⟨_, _, h1, h2, h3, h4, k _ α W H (Same.refl _) (Grow.refl _) c (isP_bl.mpr rfl)⟩
      · cases e
/-- is None -/
def isNonP : PV → Bool
  | .fr .non => true
  | _ => false
theorem is_nonD (h : Is G.b W d v) : decide (v = .non) = isNonP (.fr d) := by
  cases d with
  | non => rw [is_non] at h; subst h; rfl
  | bl _ => rw [is_bl] at h; subst h; rfl
  | int _ => rw [is_int] at h; subst h; rfl
  | str _ => rw [is_str] at h; subst h; rfl
  | ty _ => rw [is_ty] at h; subst h; rfl
  | cls _ => rw [is_cls] at h; subst h; rfl
  | lst _ => rw [is_lst] at h; obtain ⟨a, vs, rfl, _⟩ := h; rfl
  | rol _ => rw [is_rol] at h; obtain ⟨a, vs, rfl, _⟩ := h; rfl
  | tup _ => rw [is_tup] at h; obtain ⟨a, vs, rfl, _⟩ := h; rfl
  | rot _ => rw [is_rot] at h; obtain ⟨a, vs, rfl, _⟩ := h; rfl
  | ins _ _ _ => rw [is_ins] at h; obtain ⟨a, dx, vs, rfl, _⟩ := h; rfl
  | dct _ _ => rw [is_dct] at h; obtain ⟨a, vs, rfl, _⟩ := h; rfl
  | dtt _ _ => rw [is_dtt] at h; obtain ⟨a, vs, rfl, _⟩ := h; rfl
theorem is_nonP (h : IsP G α W p v) : decide (v = .non) = isNonP p := by
  cases p with
  | fr d => exact is_nonD h
  | rf i => obtain ⟨a, _, rfl⟩ := h; rfl
  | ex _ _ _ => obtain ⟨_, rfl, _⟩ := h; rfl
def gIsN (hp : List O) (p q : PV) : Option (PV × List O) := match q with
  | .fr .non => some (.fr (.bl (isNonP p)), hp)
  | _ => none
def gNotN (hp : List O) (p q : PV) : Option (PV × List O) := match q with
  | .fr .non => some (.fr (.bl (!isNonP p)), hp)
  | _ => none
theorem g_isN : G2 G (fun x y H Q => y = .non ∧ Q (.bl (decide (x = .non))) H) gIsN := fun α W F H σ en hp p q v w y hp' Q c ip iq e k => by
  unfold gIsN at e
  split at e
  · cases e
    exact ⟨isP_non.mp iq, k _ α W H (Same.refl _) (Grow.refl _) c (isP_bl.mpr (by rw [is_nonP ip]))⟩
  · cases e
theorem g_notN : G2 G (fun x y H Q => y = .non ∧ Q (.bl (!decide (x = .non))) H) gNotN := fun α W F H σ en hp p q v w y hp' Q c ip iq e k => by
  unfold gNotN at e
  split at e
  · cases e
    exact ⟨isP_non.mp iq, k _ α W H (Same.refl _) (Grow.refl _) c (isP_bl.mpr (by rw [is_nonP ip]))⟩
  · cases e
/-- is True, is False -/
def isBlP (b : Bool) : PV → Bool
  | .fr (.bl k) => k == b
  | _ => false
theorem is_blP {b : Bool} (h : IsP G α W p v) : decide (v = .bl b) = isBlP b p := by
  cases p with
  | rf i => obtain ⟨a, _, rfl⟩ := h; rfl
  | ex _ _ _ => obtain ⟨_, rfl, _⟩ := h; rfl
  | fr d =>
    replace h := isP_fr.mp h
    cases d with
    | non => rw [is_non] at h; subst h; rfl
    | bl k =>
      rw [is_bl] at h
      subst h
      show decide (V.bl k = V.bl b) = (k == b)
      cases k <;> cases b <;> rfl
    | int _ => rw [is_int] at h; subst h; rfl
    | str _ => rw [is_str] at h; subst h; rfl
    | ty _ => rw [is_ty] at h; subst h; rfl
    | cls _ => rw [is_cls] at h; subst h; rfl
    | lst _ => rw [is_lst] at h; obtain ⟨a, vs, rfl, _⟩ := h; rfl
    | rol _ => rw [is_rol] at h; obtain ⟨a, vs, rfl, _⟩ := h; rfl
    | tup _ => rw [is_tup] at h; obtain ⟨a, vs, rfl, _⟩ := h; rfl
    | rot _ => rw [is_rot] at h; obtain ⟨a, vs, rfl, _⟩ := h; rfl
    | ins _ _ _ => rw [is_ins] at h; obtain ⟨a, dx, vs, rfl, _⟩ := h; rfl
    | dct _ _ => rw [is_dct] at h; obtain ⟨a, vs, rfl, _⟩ := h; rfl
    | dtt _ _ => rw [is_dtt] at h; obtain ⟨a, vs, rfl, _⟩ := h; rfl
def rIsB (neg : Bool) : R2 := fun x y H Q => ∃ b : Bool, y = .bl b ∧ Q (.bl (if neg then !decide (x = .bl b) else decide (x = .bl b))) H
def gIsB (neg : Bool) (hp : List O) (p q : PV) : Option (PV × List O) := match q with
  | .fr (.bl b) => some (.fr (.bl (if neg then !isBlP b p else isBlP b p)), hp)
  | _ => none
theorem g_isB {neg : Bool} : G2 G (rIsB neg) (gIsB neg) := fun α W F H σ en hp p q v w y hp' Q c ip iq e k => by
  unfold gIsB at e
  split at e
  · cases e
    exact ⟨_, isP_bl.mp iq, k _ α W H (Same.refl _) (Grow.refl _) c (isP_bl.mpr (by rw [is_blP ip]))⟩
  · cases e
/-- flat values: what they are as such -/
def flD : D → Option V
  | .non => some .non
  | .bl b => some (.bl b)
  | .int i => some (.int i)
  | .str x => some (.str x)
  | _ => none
def flP : PV → Option V
  | .fr d => flD d
  | _ => none
def flPs : List PV → Option (List V)
  | [] => some []
  | p :: ps => match flP p with
    | none => none
    | some v => match flPs ps with
      | none => none
      | some vs => some (v :: vs)
theorem flP_at {w : V} (h : IsP G α W p v) (e : flP p = some w) : v = w ∧ flatV w = true := by
  cases p with
  | rf _ => cases e
  | ex _ _ _ => cases e
  | fr d =>
    replace h := isP_fr.mp h
    cases d <;> first | cases e | skip
    · exact ⟨is_non.mp h, rfl⟩
    · exact ⟨is_bl.mp h, rfl⟩
    · exact ⟨is_int.mp h, rfl⟩
    · exact ⟨is_str.mp h, rfl⟩
theorem flPs_at : ∀ {ps : List PV} {vs ws : List V}, IsPs G α W ps vs → flPs ps = some ws → vs = ws ∧ ws.all flatV = true
  | [], vs, ws, h, e => by cases e; exact ⟨h, rfl⟩
  | p :: ps, vs, ws, ⟨v, us, h1, h2, h3⟩, e => by
    unfold flPs at e
    split at e
    · cases e
    · rename_i w e1
      split at e
      · cases e
      · rename_i ws1 e2
        cases e
        obtain ⟨k1, k2⟩ := flP_at h2 e1
        obtain ⟨k3, k4⟩ := flPs_at h3 e2
        subst h1 k1 k3
        exact ⟨rfl, by rw [List.all_cons, k2, k4]; rfl⟩
def gIn (neg : Bool) (hp : List O) (p q : PV) : Option (PV × List O) := match flP p with
  | none => none
  | some v => match vseq hp q with
    | none => none
    | some z => match flPs z.2 with
      | none => none
      | some vs => some (.fr (.bl (if neg then !inV v vs else inV v vs)), hp)
theorem g_in {neg : Bool} : G2 G (rIn G.b.K neg) (gIn neg) := fun α W F H σ en hp p q v w y hp' Q c ip iq e k => by
  unfold gIn at e
  split at e
  · cases e
  · rename_i v1 e1
    split at e
    · cases e
    · rename_i z e2
      split at e
      · cases e
      · rename_i vs e3
        cases e
        obtain ⟨rfl, f1⟩ := flP_at ip e1
        obtain ⟨a, ws, rfl, h1, h2⟩ := seq_at c iq (k := z.1) (ps := z.2) e2
        obtain ⟨rfl, f2⟩ := flPs_at h2 e3
        exact ⟨a, _, rfl, h1.or, f1, f2, k _ α W H (Same.refl _) (Grow.refl _) c (isP_bl.mpr rfl)⟩
/-- xs[i] -/
def gIx (hp : List O) (p q : PV) : Option (PV × List O) := match q with
  | .fr (.int n) => match p with
    | .fr (.str z) => if sz z.length then match atI z.cps.toList n with
        | none => none
        | some ch => some (.fr (.str ⟨#[ch]⟩), hp)
      else none
    | p => match vseq hp p with
      | none => none
      | some z => match atI z.2 n with
        | none => none
        | some r => some (r, hp)
  | _ => none
theorem g_ix : G2 G (rIx G.b.K) gIx := fun α W F H σ en hp p q v w y hp' Q c ip iq e k => by
  unfold gIx at e
  split at e
  · rename_i n
    have hn := isP_int.mp iq
    split at e
    · rename_i z
      split at e
      · rename_i hz
        split at e
        · cases e
        · rename_i ch e1
          cases e
          exact .inr (.inr ⟨z, n, ch, isP_str.mp ip, hn, sz_of hz, e1, k _ α W H (Same.refl _) (Grow.refl _) c (isP_str.mpr rfl)⟩)
      · cases e
    · split at e
      · cases e
      · rename_i z e1
        split at e
        · cases e
        · rename_i r e2
          cases e
          obtain ⟨a, vs, rfl, h1, h2⟩ := seq_at c ip (k := z.1) (ps := z.2) e1
          unfold atI at e2
          rw [Option.bind_eq_some_iff] at e2
          obtain ⟨j, k1, k2⟩ := e2
          obtain ⟨u, k3, k4⟩ := h2.get k2
          have hat : atI vs n = some u := by unfold atI; rw [← h2.len, k1]; exact k3
          rcases h1.or with h | h
          · exact .inl ⟨a, vs, n, u, rfl, hn, h, hat, k _ α W H (Same.refl _) (Grow.refl _) c k4⟩
          · exact .inr (.inl ⟨a, vs, n, u, rfl, hn, h, hat, k _ α W H (Same.refl _) (Grow.refl _) c k4⟩)
  · cases e
def gNeg (hp : List O) (p : PV) : Option (PV × List O) := match p with
  | .fr (.int n) => some (.fr (.int (-n)), hp)
  | _ => none
theorem g_neg : G1 G (rU fun i => .int (-i)) gNeg := fun α W F H σ en hp p v z hp' Q c ip e k => by
  unfold gNeg at e
  split at e
  · cases e
    exact ⟨_, isP_int.mp ip, k _ α W H (Same.refl _) (Grow.refl _) c (isP_int.mpr rfl)⟩
  · cases e
end
end ML

namespace ML
open PySem L2 PySem.Spec PyProof.Rows

/-! ### sameness of our own lists -/
mutual
def deq : D → D → Bool
  | .non, .non => true
  | .bl a, .bl b => a == b
  | .int a, .int b => a == b
  | .str a, .str b => decide (a = b)
  | .ty a, .ty b => a == b
  | .cls a, .cls b => a == b
  | .lst xs, .lst ys => deqL xs ys
  | .rol xs, .rol ys => deqL xs ys
  | .tup xs, .tup ys => deqL xs ys
  | .rot xs, .rot ys => deqL xs ys
  | .ins C ns xs, .ins C' ns' ys => decide (C = C') && decide (ns = ns') && deqL xs ys
  | .dct ks xs, .dct ks' ys => decide (ks = ks') && deqL xs ys
  | .dtt ks xs, .dtt ks' ys => decide (ks = ks') && deqL xs ys
  | _, _ => false
def deqL : List D → List D → Bool
  | [], [] => true
  | x :: xs, y :: ys => deq x y && deqL xs ys
  | _, _ => false
end
mutual
theorem deq_eq : ∀ {x y : D}, deq x y = true → x = y
  | .non, y, h => by cases y <;> simp [deq] at h ⊢
  | .bl a, y, h => by cases y <;> simp [deq] at h ⊢; exact h
  | .int a, y, h => by cases y <;> simp [deq] at h ⊢; exact h
  | .str a, y, h => by cases y <;> simp [deq] at h ⊢; exact h
  | .ty a, y, h => by cases y <;> simp [deq] at h ⊢; exact h
  | .cls a, y, h => by cases y <;> simp [deq] at h ⊢; exact h
  | .lst a, y, h => by cases y <;> simp [deq] at h ⊢; exact deqL_eq h
  | .rol a, y, h => by cases y <;> simp [deq] at h ⊢; exact deqL_eq h
  | .tup a, y, h => by cases y <;> simp [deq] at h ⊢; exact deqL_eq h
  | .rot a, y, h => by cases y <;> simp [deq] at h ⊢; exact deqL_eq h
  | .ins C ns a, y, h => by cases y <;> simp [deq] at h ⊢; exact ⟨h.1.1, h.1.2, deqL_eq h.2⟩
  | .dct ks a, y, h => by cases y <;> simp [deq] at h ⊢; exact ⟨h.1, deqL_eq h.2⟩
  | .dtt ks a, y, h => by cases y <;> simp [deq] at h ⊢; exact ⟨h.1, deqL_eq h.2⟩
theorem deqL_eq : ∀ {xs ys : List D}, deqL xs ys = true → xs = ys
  | [], ys, h => by cases ys <;> simp [deqL] at h ⊢
  | x :: xs, ys, h => by
    cases ys with
    | nil => simp [deqL] at h
    | cons y ys =>
      simp [deqL] at h
      rw [deq_eq h.1, deqL_eq h.2]
end
mutual
theorem deq_refl : ∀ x : D, deq x x = true
  | .non => by simp [deq]
  | .bl a => by simp [deq]
  | .int a => by simp [deq]
  | .str a => by simp [deq]
  | .ty a => by simp [deq]
  | .cls a => by simp [deq]
  | .lst a => by simp [deq, deqL_refl a]
  | .rol a => by simp [deq, deqL_refl a]
  | .tup a => by simp [deq, deqL_refl a]
  | .rot a => by simp [deq, deqL_refl a]
  | .ins C ns a => by simp [deq, deqL_refl a]
  | .dct ks a => by simp [deq, deqL_refl a]
  | .dtt ks a => by simp [deq, deqL_refl a]
theorem deqL_refl : ∀ xs : List D, deqL xs xs = true
  | [] => by simp [deqL]
  | x :: xs => by simp [deqL, deq_refl x, deqL_refl xs]
end
def peq : List PV → List PV → Bool
  | [], [] => true
  | .fr x :: ps, .fr y :: qs => deq x y && peq ps qs
  | .rf i :: ps, .rf j :: qs => (i == j) && peq ps qs
  | _, _ => false
theorem peq_eq : ∀ {ps qs : List PV}, peq ps qs = true → ps = qs
  | [], qs, h => by cases qs <;> simp [peq] at h ⊢
  | .fr x :: ps, qs, h => by
    cases qs with
    | nil => simp [peq] at h
    | cons q qs => cases q <;> simp [peq] at h; rw [deq_eq h.1, peq_eq h.2]
  | .rf x :: ps, qs, h => by
    cases qs with
    | nil => simp [peq] at h
    | cons q qs => cases q <;> simp [peq] at h; rw [h.1, peq_eq h.2]
  | .ex _ _ _ :: ps, qs, h => by cases qs <;> simp [peq] at h
def oeq : O → O → Bool
  | .lst xs, .lst ys => deqL xs ys
  | .mix ps, .mix qs => peq ps qs
  | _, _ => false
theorem oeq_eq {o o' : O} (h : oeq o o' = true) : o = o' := by
  cases o <;> cases o' <;> simp [oeq] at h ⊢
  · exact deqL_eq h
  · exact peq_eq h
theorem oeq_refl (xs : List D) : oeq (.lst xs) (.lst xs) = true := deqL_refl xs
/-- the walked thing is as it was -/
def ckP (hp : List O) (p : PV) : List O → Bool := match p with
  | .rf i => match hp[i]? with
    | some (.lst ds) => fun hp' => match hp'[i]? with
      | some o' => oeq (.lst ds) o'
      | none => false
    | some (.mix ps) => fun hp' => match hp'[i]? with
      | some o' => oeq (.mix ps) o'
      | none => false
    | _ => fun _ => true
  | _ => fun _ => true

section
variable {G : Ct} {Ex : WX} {α β : List Addr} {W W' F H H' : Hp} {σ : L2.St} {en : En} {hp hp' : List O} {te ta tb : TE} {tt : TT} {tas : TA} {x y : XE} {xt : XT} {xas : XA} {v : V} {p q : PV} {k : Bool} {ps items : List PV} {d : D} {a : Addr}
theorem itl_ok {ck : List O → Bool} (h : ∀ F β W' H σ en hp, Cf G β W' F H σ en hp → Same W W' → Grow α β → ck hp = true → ∃ vs, SqL G.b.K H a vs ∧ IsPs G β W' items vs) : ItOk G α W (Itl G.b.K a) items ck where
  stop := fun F β W' H σ en hp c s l hc => by
    obtain ⟨vs, h1, h2⟩ := h F β W' H σ en hp c s l hc
    exact ⟨vs, h1, by rw [h2.len]; exact Nat.le_refl _⟩
  go := fun F i p β W' H σ en hp hi c s l hc => by
    obtain ⟨vs, h1, h2⟩ := h F β W' H σ en hp c s l hc
    obtain ⟨v, h3, h4⟩ := h2.get hi
    refine ⟨⟨vs, v, h1, h3⟩, fun x H' ⟨e, y⟩ => ?_⟩
    subst e
    have := y vs h1
    rw [h3] at this
    cases this
    exact ⟨W', Same.refl _, c, h4⟩
theorem itt_ok {ck : List O → Bool} (h : ∀ F β W' H σ en hp, Cf G β W' F H σ en hp → Same W W' → Grow α β → ck hp = true → ∃ vs, SqT G.b.K H a vs ∧ IsPs G β W' items vs) : ItOk G α W (Itt G.b.K a) items ck where
  stop := fun F β W' H σ en hp c s l hc => by
    obtain ⟨vs, h1, h2⟩ := h F β W' H σ en hp c s l hc
    exact ⟨vs, h1, by rw [h2.len]; exact Nat.le_refl _⟩
  go := fun F i p β W' H σ en hp hi c s l hc => by
    obtain ⟨vs, h1, h2⟩ := h F β W' H σ en hp c s l hc
    obtain ⟨v, h3, h4⟩ := h2.get hi
    refine ⟨⟨vs, v, h1, h3⟩, fun x H' ⟨e, y⟩ => ?_⟩
    subst e
    have := y vs h1
    rw [h3] at this
    cases this
    exact ⟨W', Same.refl _, c, h4⟩
/-- what is read now is read later -/
theorem seq_later (c : Cf G α W F H σ en hp) (i : IsP G α W p v) (e : vseq hp p = some (k, ps)) : ∃ a, v = .ref a ∧ ∀ F β W' H' σ' en' hp', Cf G β W' F H' σ' en' hp' → Same W W' → Grow α β → ckP hp p hp' = true → ∃ vs, SqK G.b.K k H' a vs ∧ IsPs G β W' ps vs := by
  obtain ⟨a, vs, rfl, h1, h2⟩ := seq_at c i e
  refine ⟨a, rfl, fun F β W' H' σ' en' hp' c' s l hck => ?_⟩
  have again : IsP G β W' p (.ref a) := i.mono s l
  have done : vseq hp' p = some (k, ps) → ∃ vs, SqK G.b.K k H' a vs ∧ IsPs G β W' ps vs := fun e' => by
    obtain ⟨a', ws, k1, k2, k3⟩ := seq_at c' again e'
    cases k1
    exact ⟨ws, k2, k3⟩
  cases p with
  | fr d => exact done e
  | ex _ _ _ => cases e
  | rf j =>
    unfold ckP at hck
    dsimp only at hck
    replace e : (match hp[j]? with
      | some (.lst ds) => some (false, ds.map PV.fr)
      | some (.mix ps) => some (false, ps)
      | some (.ice d) => match itemsD d with
        | none => none
        | some z => some (z.1, z.2.map .fr)
      | _ => none) = some (k, ps) := e
    split at e
    · rename_i ds ho
      rw [ho] at hck
      dsimp only at hck
      split at hck
      · rename_i o' ho'
        have := oeq_eq hck
        subst this
        refine done ?_
        show (match hp'[j]? with
          | some (.lst ds) => some (false, ds.map PV.fr)
          | some (.mix ps) => some (false, ps)
          | some (.ice d) => match itemsD d with
            | none => none
            | some z => some (z.1, z.2.map .fr)
          | _ => none) = _
        rw [ho']
        exact e
      · cases hck
    · rename_i qs ho
      rw [ho] at hck
      dsimp only at hck
      split at hck
      · rename_i o' ho'
        have := oeq_eq hck
        subst this
        refine done ?_
        show (match hp'[j]? with
          | some (.lst ds) => some (false, ds.map PV.fr)
          | some (.mix ps) => some (false, ps)
          | some (.ice d) => match itemsD d with
            | none => none
            | some z => some (z.1, z.2.map .fr)
          | _ => none) = _
        rw [ho']
        exact e
      · cases hck
    · rename_i d ho
      split at e
      · cases e
      · rename_i z ez
        cases e
        obtain ⟨a2, h3, h4⟩ := i
        cases h4
        have hi : Is G.b W d (.ref a) := c.own j _ a ho h3
        obtain ⟨a', ws, k1, k2, k3⟩ := items_at (K := G.b.K) c'.sW (hi.mono s) ez
        cases k1
        exact ⟨ws, k2, isPs_fr.mpr k3⟩
    · cases e
/-- a list or a tuple -/
def iSeq (K : PySem.W.Frag) (tl : TE) : TI := fun σ H R => iList K tl σ H R ∨ iTup K tl σ H R
theorem pi_seq {X : Cx} {tg e : Expr} {tl : TE} (K : PySem.W.Frag) (h : X.K = K) (hl : PE X e tl) : PI X tg e (iSeq K tl) := by
  subst h
  exact ⟨fun pins s σ H R I q => by
    rcases q with q | q
    · exact (pi_list hl).run pins s σ H R I q
    · exact (pi_tup hl).run pins s σ H R I q⟩
def xiSeq (x : XE) : XI := fun en hp => xb (x en hp) fun p hp1 => match vseq hp1 p with
  | none => none
  | some z => some (.ok (z.2, ckP hp1 p) hp1)
/-- .. by which of them it is -/
theorem si_seq (h : SE G Ex te x) : SI G Ex (iSeq G.b.K te) (xiSeq x) := fun α W F H σ en hp r Q c e g => by
  unfold xiSeq at e
  rcases xb_cases e with ⟨p, hp', e1, e2⟩ | ⟨C, ns, ds, hp', e1, e2⟩
  · split at e2
    · cases e2
    · rename_i z ez
      cases e2
      cases hz : z.1 with
      | false =>
        refine .inl (h α W F H σ en hp _ _ c e1 fun v β W1 H1 s1 l1 c1 i1 => ?_)
        obtain ⟨a, rfl, hh⟩ := seq_later c1 i1 (k := z.1) (ps := z.2) ez
        obtain ⟨a', vs, h3, h4, h5⟩ := seq_at c1 i1 (k := z.1) (ps := z.2) ez
        cases h3
        rw [hz] at hh h4
        exact ⟨a, rfl, ⟨vs, h4⟩, g _ β W1 H1 s1 l1 c1 (itl_ok fun F2 γ W2 H2 σ2 en2 hp2 c2 s2 l2 hc => hh F2 γ W2 H2 σ2 en2 hp2 c2 s2 l2 hc)⟩
      | true =>
        refine .inr (h α W F H σ en hp _ _ c e1 fun v β W1 H1 s1 l1 c1 i1 => ?_)
        obtain ⟨a, rfl, hh⟩ := seq_later c1 i1 (k := z.1) (ps := z.2) ez
        obtain ⟨a', vs, h3, h4, h5⟩ := seq_at c1 i1 (k := z.1) (ps := z.2) ez
        cases h3
        rw [hz] at hh h4
        exact ⟨a, rfl, ⟨vs, h4⟩, g _ β W1 H1 s1 l1 c1 (itt_ok fun F2 γ W2 H2 σ2 en2 hp2 c2 s2 l2 hc => hh F2 γ W2 H2 σ2 en2 hp2 c2 s2 l2 hc)⟩
  · cases e2
    exact .inl (h α W F H σ en hp _ _ c e1 g)
/-- range -/
def rangeP (lo : Int) (n : Nat) : List PV := (List.range n).map fun i => .fr (.int (lo + (i : Nat)))
theorem itr_ok (lo : Int) (n : Nat) : ItOk G α W (Itr lo n) (rangeP lo n) (fun _ => true) where
  stop := fun F β W' H σ en hp c s l hc => by
    show n ≤ (rangeP lo n).length
    unfold rangeP
    simp
  go := fun F i p β W' H σ en hp hi c s l hc => by
    unfold rangeP at hi
    rw [List.getElem?_map, Option.map_eq_some_iff] at hi
    obtain ⟨j, h1, rfl⟩ := hi
    have h2 := List.getElem?_eq_some_iff.mp h1
    obtain ⟨h3, h4⟩ := h2
    rw [List.length_range] at h3
    rw [List.getElem_range] at h4
    subst h4
    refine ⟨h3, fun x H' ⟨e1, e2⟩ => ?_⟩
    subst e1 e2
    exact ⟨W', Same.refl _, c, isP_int.mpr rfl⟩
def smI (n : Int) : Bool := decide (-1000000 ≤ n) && decide (n ≤ 1000000)
def xiR1 (a : XA) : XI := fun en hp => xb (a en hp) fun ps hp1 => match ps with
  | [.fr (.int n)] => if smI n then some (.ok (rangeP 0 n.toNat, fun _ => true) hp1) else none
  | _ => none
def xiR2 (a : XA) : XI := fun en hp => xb (a en hp) fun ps hp1 => match ps with
  | [.fr (.int m), .fr (.int n)] => if smI m && smI n then some (.ok (rangeP m (n - m).toNat, fun _ => true) hp1) else none
  | _ => none
theorem smI_b {n : Int} (h : smI n = true) : -(2 ^ 62) ≤ n ∧ n < 2 ^ 62 := by
  unfold smI at h
  simp only [Bool.and_eq_true, decide_eq_true_eq] at h
  omega
theorem isPs1 {vs : List V} (h : IsPs G α W [p] vs) : ∃ v, vs = [v] ∧ IsP G α W p v := by
  obtain ⟨v, ws, rfl, h2, h3⟩ := h
  rw [show ws = [] from h3]
  exact ⟨v, rfl, h2⟩
theorem isPs2 {vs : List V} (h : IsPs G α W [p, q] vs) : ∃ v w, vs = [v, w] ∧ IsP G α W p v ∧ IsP G α W q w := by
  obtain ⟨v, ws, rfl, h2, h3⟩ := h
  obtain ⟨w, rfl, h4⟩ := isPs1 h3
  exact ⟨v, w, rfl, h2, h4⟩
theorem si_r1 (h : SA G Ex tas xas) : SI G Ex (iRng1 tas) (xiR1 xas) := fun α W F H σ en hp r Q c e g => by
  unfold xiR1 at e
  rcases xb_cases e with ⟨ps, hp', e1, e2⟩ | ⟨C, ns, ds, hp', e1, e2⟩
  · split at e2
    · rename_i n
      split at e2
      · rename_i hn
        cases e2
        refine h α W F H σ en hp _ _ c e1 fun vs β W1 H1 s1 l1 c1 i1 => ?_
        obtain ⟨v, rfl, iv⟩ := isPs1 i1
        have := isP_int.mp iv
        subst this
        exact ⟨n, rfl, (smI_b hn).1, (smI_b hn).2, g _ β W1 H1 s1 l1 c1 (itr_ok 0 n.toNat)⟩
      · cases e2
    · cases e2
  · cases e2
    exact h α W F H σ en hp _ _ c e1 g
theorem si_r2 (h : SA G Ex tas xas) : SI G Ex (iRng2 tas) (xiR2 xas) := fun α W F H σ en hp r Q c e g => by
  unfold xiR2 at e
  rcases xb_cases e with ⟨ps, hp', e1, e2⟩ | ⟨C, ns, ds, hp', e1, e2⟩
  · split at e2
    · rename_i m n
      split at e2
      · rename_i hn
        cases e2
        rw [Bool.and_eq_true] at hn
        refine h α W F H σ en hp _ _ c e1 fun vs β W1 H1 s1 l1 c1 i1 => ?_
        obtain ⟨v, w, rfl, iv, iw⟩ := isPs2 i1
        have h1 := isP_int.mp iv
        have h2 := isP_int.mp iw
        subst h1 h2
        exact ⟨m, n, rfl, ⟨(smI_b hn.1).1, (smI_b hn.1).2, (smI_b hn.2).1, (smI_b hn.2).2⟩, g _ β W1 H1 s1 l1 c1 (itr_ok m (n - m).toNat)⟩
      · cases e2
    · cases e2
  · cases e2
    exact h α W F H σ en hp _ _ c e1 g
/-- enumerate -/
def enumP : Nat → List D → List PV
  | _, [] => []
  | k, d :: ds => .fr (.tup [.int (k : Nat), d]) :: enumP (k + 1) ds
theorem enumP_get : ∀ {ds : List D} {k i : Nat} {p : PV}, (enumP k ds)[i]? = some p → ∃ d, ds[i]? = some d ∧ p = .fr (.tup [.int ((k + i : Nat) : Int), d])
  | [], k, i, p, h => by simp [enumP] at h
  | d :: ds, k, 0, p, h => by
    simp [enumP] at h
    exact ⟨d, rfl, h.symm⟩
  | d :: ds, k, i + 1, p, h => by
    have h' : (enumP (k + 1) ds)[i]? = some p := by simpa [enumP] using h
    obtain ⟨d', h1, h2⟩ := enumP_get h'
    exact ⟨d', by simpa using h1, by rw [h2, show k + 1 + i = k + (i + 1) by omega]⟩
theorem enumP_len : ∀ {ds : List D} {k : Nat}, (enumP k ds).length = ds.length
  | [], k => rfl
  | d :: ds, k => by simp [enumP, enumP_len]
theorem newTup (c : Cf G α W F H σ en hp) {vs : List V} {ds : List D} {t : Addr} (hq : H t = none) (i : IsL G.b W ds vs) : ∃ W', Same W W' ∧ Cf G α W' F (upd H t (.tup vs)) σ en hp ∧ IsP G α W' (.fr (.tup ds)) (.ref t) := by
  obtain ⟨c1, s1⟩ := c.allocW (ho := .tup vs) hq
  exact ⟨_, s1, c1, isP_fr.mpr (is_tup.mpr ⟨t, vs, rfl, upd_same, i.mono s1⟩)⟩
def xiEn (a : XA) : XI := fun en hp => xb (a en hp) fun ps hp1 => match ps with
  | [p] => match vseq hp1 p with
    | some (false, qs) => match unfr qs with
      | some ds => some (.ok (enumP 0 ds, ckP hp1 p) hp1)
      | none => none
    | _ => none
  | _ => none
theorem si_en (h : SA G Ex tas xas) : SI G Ex (iEnum G.b.K tas) (xiEn xas) := fun α W F H σ en hp r Q c e g => by
  unfold xiEn at e
  rcases xb_cases e with ⟨ps, hp', e1, e2⟩ | ⟨C, ns, ds, hp', e1, e2⟩
  · split at e2
    · rename_i p
      split at e2
      · rename_i qs ez
        split at e2
        · rename_i ds ed
          cases e2
          have hq := unfr_some ed
          subst hq
          refine h α W F H σ en hp _ _ c e1 fun vs β W1 H1 s1 l1 c1 i1 => ?_
          obtain ⟨v, rfl, iv⟩ := isPs1 i1
          obtain ⟨a, rfl, hh⟩ := seq_later c1 iv ez
          obtain ⟨a', ws, h3, h4, h5⟩ := seq_at c1 iv ez
          cases h3
          refine ⟨a, ws, rfl, h4, g _ β W1 H1 s1 l1 c1 ⟨fun F2 γ W2 H2 σ2 en2 hp2 c2 s2 l2 hc => ?_, fun F2 i p γ W2 H2 σ2 en2 hp2 hi c2 s2 l2 hc => ?_⟩⟩
          · obtain ⟨us, k1, k2⟩ := hh F2 γ W2 H2 σ2 en2 hp2 c2 s2 l2 hc
            exact ⟨us, k1, by rw [enumP_len, (isPs_fr.mp k2).len]; exact Nat.le_refl _⟩
          · obtain ⟨us, k1, k2⟩ := hh F2 γ W2 H2 σ2 en2 hp2 c2 s2 l2 hc
            obtain ⟨d, k3, rfl⟩ := enumP_get hi
            obtain ⟨u, k4, k5⟩ := (isPs_fr.mp k2).get k3
            refine ⟨⟨us, u, k1, k4⟩, fun x H' ⟨T, w, ev, hT, eH, hw⟩ => ?_⟩
            subst ev eH
            have := hw us k1
            rw [k4] at this
            cases this
            rw [Nat.zero_add]
            exact newTup c2 hT (IsL.cons (is_int.mpr rfl) (IsL.one k5))
        · cases e2
      · cases e2
    · cases e2
  · cases e2
    exact h α W F H σ en hp _ _ c e1 g
/-- zip of two lists, of two tuples -/
def zipP : List D → List D → List PV
  | x :: xs, y :: ys => .fr (.tup [x, y]) :: zipP xs ys
  | _, _ => []
theorem zipP_get : ∀ {xs ys : List D} {i : Nat} {p : PV}, (zipP xs ys)[i]? = some p → ∃ x y, xs[i]? = some x ∧ ys[i]? = some y ∧ p = .fr (.tup [x, y])
  | [], ys, i, p, h => by simp [zipP] at h
  | x :: xs, [], i, p, h => by simp [zipP] at h
  | x :: xs, y :: ys, 0, p, h => by
    simp [zipP] at h
    exact ⟨x, y, rfl, rfl, h.symm⟩
  | x :: xs, y :: ys, i + 1, p, h => by
    obtain ⟨x', y', h1, h2, h3⟩ := zipP_get (xs := xs) (ys := ys) (i := i) (p := p) (by simpa [zipP] using h)
    exact ⟨x', y', by simpa using h1, by simpa using h2, h3⟩
theorem zipP_len : ∀ {xs ys : List D}, (zipP xs ys).length = min xs.length ys.length
  | [], ys => by simp [zipP]
  | x :: xs, [] => by simp [zipP]
  | x :: xs, y :: ys => by simp [zipP, zipP_len]
def xiZip (a : XA) : XI := fun en hp => xb (a en hp) fun ps hp1 => match ps with
  | [p, q] => match vseq hp1 p, vseq hp1 q with
    | some (k, xs), some (k', ys) => if k = k' then match unfr xs, unfr ys with
        | some ds, some es => some (.ok (zipP ds es, fun hp => ckP hp1 p hp && ckP hp1 q hp) hp1)
        | _, _ => none
      else none
    | _, _ => none
  | _ => none
theorem si_zip (h : SA G Ex tas xas) : SI G Ex (RZ.iZipA G.b.K tas) (xiZip xas) := fun α W F H σ en hp r Q c e g => by
  unfold xiZip at e
  rcases xb_cases e with ⟨ps, hp', e1, e2⟩ | ⟨C, ns, ds, hp', e1, e2⟩
  · split at e2
    · rename_i p q
      split at e2
      · rename_i k xs k' ys ez1 ez2
        split at e2
        · rename_i hk
          subst hk
          split at e2
          · rename_i ds es ed1 ed2
            cases e2
            have hq := unfr_some ed1
            have hq2 := unfr_some ed2
            subst hq hq2
            refine h α W F H σ en hp _ _ c e1 fun vs β W1 H1 s1 l1 c1 i1 => ?_
            obtain ⟨v, w, rfl, iv, iw⟩ := isPs2 i1
            obtain ⟨a, rfl, hh1⟩ := seq_later c1 iv ez1
            obtain ⟨b, rfl, hh2⟩ := seq_later c1 iw ez2
            obtain ⟨a', ws, h3, h4, h5⟩ := seq_at c1 iv ez1
            cases h3
            obtain ⟨b', us, h3, h6, h7⟩ := seq_at c1 iw ez2
            cases h3
            cases k with
            | false =>
              refine ⟨a, b, ws, us, rfl, .inl ⟨h4, h6, g _ β W1 H1 s1 l1 c1 ⟨fun F2 γ W2 H2 σ2 en2 hp2 c2 s2 l2 hc => ?_, fun F2 i p γ W2 H2 σ2 en2 hp2 hi c2 s2 l2 hc => ?_⟩⟩⟩
              · rw [Bool.and_eq_true] at hc
                obtain ⟨xs1, k1, k2⟩ := hh1 F2 γ W2 H2 σ2 en2 hp2 c2 s2 l2 hc.1
                obtain ⟨ys1, k3, k4⟩ := hh2 F2 γ W2 H2 σ2 en2 hp2 c2 s2 l2 hc.2
                refine ⟨xs1, ys1, k1, k3, ?_⟩
                rw [zipP_len, (isPs_fr.mp k2).len, (isPs_fr.mp k4).len]
                omega
              · rw [Bool.and_eq_true] at hc
                obtain ⟨xs1, k1, k2⟩ := hh1 F2 γ W2 H2 σ2 en2 hp2 c2 s2 l2 hc.1
                obtain ⟨ys1, k3, k4⟩ := hh2 F2 γ W2 H2 σ2 en2 hp2 c2 s2 l2 hc.2
                obtain ⟨x, y, k5, k6, rfl⟩ := zipP_get hi
                obtain ⟨u, k7, k8⟩ := (isPs_fr.mp k2).get k5
                obtain ⟨u', k9, k10⟩ := (isPs_fr.mp k4).get k6
                refine ⟨⟨xs1, ys1, u, u', k1, k3, k7, k9⟩, fun x H' ⟨T, w1, w2, ev, hT, eH, hw1, hw2⟩ => ?_⟩
                subst ev eH
                have z1 := hw1 xs1 k1
                have z2 := hw2 ys1 k3
                rw [k7] at z1
                rw [k9] at z2
                cases z1
                cases z2
                exact newTup c2 hT (IsL.cons k8 (IsL.one k10))
            | true =>
              refine ⟨a, b, ws, us, rfl, .inr ⟨h4, h6, g _ β W1 H1 s1 l1 c1 ⟨fun F2 γ W2 H2 σ2 en2 hp2 c2 s2 l2 hc => ?_, fun F2 i p γ W2 H2 σ2 en2 hp2 hi c2 s2 l2 hc => ?_⟩⟩⟩
              · rw [Bool.and_eq_true] at hc
                obtain ⟨xs1, k1, k2⟩ := hh1 F2 γ W2 H2 σ2 en2 hp2 c2 s2 l2 hc.1
                obtain ⟨ys1, k3, k4⟩ := hh2 F2 γ W2 H2 σ2 en2 hp2 c2 s2 l2 hc.2
                refine ⟨xs1, ys1, k1, k3, ?_⟩
                rw [zipP_len, (isPs_fr.mp k2).len, (isPs_fr.mp k4).len]
                omega
              · rw [Bool.and_eq_true] at hc
                obtain ⟨xs1, k1, k2⟩ := hh1 F2 γ W2 H2 σ2 en2 hp2 c2 s2 l2 hc.1
                obtain ⟨ys1, k3, k4⟩ := hh2 F2 γ W2 H2 σ2 en2 hp2 c2 s2 l2 hc.2
                obtain ⟨x, y, k5, k6, rfl⟩ := zipP_get hi
                obtain ⟨u, k7, k8⟩ := (isPs_fr.mp k2).get k5
                obtain ⟨u', k9, k10⟩ := (isPs_fr.mp k4).get k6
                refine ⟨⟨xs1, ys1, u, u', k1, k3, k7, k9⟩, fun x H' ⟨T, w1, w2, ev, hT, eH, hw1, hw2⟩ => ?_⟩
                subst ev eH
                have z1 := hw1 xs1 k1
                have z2 := hw2 ys1 k3
                rw [k7] at z1
                rw [k9] at z2
                cases z1
                cases z2
                exact newTup c2 hT (IsL.cons k8 (IsL.one k10))
          · cases e2
        · cases e2
      · cases e2
    · cases e2
  · cases e2
    exact h α W F H σ en hp _ _ c e1 g
end
end ML

namespace ML
open PySem L2 PySem.Spec PyProof.Rows

section
variable {G : Ct} {Ex : WX} {α β : List Addr} {W W' F H H' : Hp} {σ : L2.St} {en : En} {hp hp' : List O} {te ta tb tv : TE} {tt : TT} {tas : TA} {x y xo xv xi : XE} {xt : XT} {xas : XA} {v : V} {p q : PV} {k : Bool} {ps items : List PV} {d : D} {a : Addr}
/-! ### displays -/
def xLst (z : Bool) (a : XA) : XE := fun en hp => xb (a en hp) fun ps hp1 => if sz ps.length then lf (fresh z (mkL ps) hp1) else none
def xTup (a : XA) : XE := fun en hp => xb (a en hp) fun ps hp1 => if sz ps.length then match mkT ps with
    | none => none
    | some d => some (.ok (.fr d) hp1)
  else none
theorem se_lst {z : Bool} (h : SA G Ex tas xas) : SE G Ex (tLst tas) (xLst z xas) := fun α W F H σ en hp r Q c e g => h.bind c e g.gx fun ps hp1 vs β W1 H1 e1 s1 l1 c1 i1 => by
  split at e1
  · rename_i hz
    obtain ⟨pv, hp2, e2, rfl⟩ := lf_some e1
    refine ⟨by rw [← i1.len]; exact sz_of hz, fun a ha => ?_⟩
    obtain ⟨γ, W2, s2, l2, c2, i2⟩ := c1.fresh ha (mkL_is i1) e2
    exact g _ γ W2 _ (s1.trans s2) (l1.trans l2) c2 i2
  · cases e1
theorem se_tup (h : SA G Ex tas xas) : SE G Ex (tTup tas) (xTup xas) := fun α W F H σ en hp r Q c e g => h.bind c e g.gx fun ps hp1 vs β W1 H1 e1 s1 l1 c1 i1 => by
  split at e1
  · rename_i hz
    split at e1
    · cases e1
    · rename_i d ed
      cases e1
      refine ⟨by rw [← i1.len]; exact sz_of hz, fun a ha => ?_⟩
      obtain ⟨W2, s2, c2, i2⟩ := newT c1 ha i1 ed
      exact g _ β W2 _ (s1.trans s2) l1 c2 (isP_fr.mpr i2)
  · cases e1

/-! ### built-in calls -/
def rLenB (K : PySem.W.Frag) : List V → Hp → VK → Prop := fun xs H Q => (∃ p ys, xs = [.ref p] ∧ (SqL K H p ys ∨ SqT K H p ys) ∧ Q (.int ys.length) H) ∨ ∃ z, xs = [.str z] ∧ z.length ≤ sizeLine ∧ Q (.int z.length) H
theorem call_lenB {X : Cx} (K : PySem.W.Frag) (h : X.K = K) : CallR X (.builtin "len") (rLenB K) := h ▸ call_len_seq.or call_len_str
def gLen (hp : List O) (ps : List PV) : Option (PV × List O) := match ps with
  | [.fr (.str z)] => if sz z.length then some (.fr (.int z.length), hp) else none
  | [p] => match vseq hp p with
    | none => none
    | some z => some (.fr (.int z.2.length), hp)
  | _ => none
theorem g_len : GN G (rLenB G.b.K) gLen := fun α W F H σ en hp ps vs z hp' Q c i e kk => by
  unfold gLen at e
  split at e
  · split at e
    · rename_i hz
      cases e
      obtain ⟨v, rfl, iv⟩ := isPs1 i
      exact .inr ⟨_, by rw [isP_str.mp iv], sz_of hz, kk _ α W H (Same.refl _) (Grow.refl _) c (isP_int.mpr rfl)⟩
    · cases e
  · split at e
    · cases e
    · rename_i z ez
      cases e
      obtain ⟨v, rfl, iv⟩ := isPs1 i
      obtain ⟨a, ws, rfl, h1, h2⟩ := seq_at c iv (k := z.1) (ps := z.2) ez
      exact .inl ⟨a, ws, rfl, h1.or, kk _ α W H (Same.refl _) (Grow.refl _) c (isP_int.mpr (by rw [h2.len]))⟩
  · cases e
def rIntB : List V → Hp → VK → Prop := fun xs H Q => (∃ i, xs = [.int i] ∧ Q (.int i) H) ∨ ∃ k, xs = [.bl k] ∧ Q (.int (if k then 1 else 0)) H
theorem call_intB {X : Cx} : CallR X (.type "int") rIntB := call_int1
def gInt (hp : List O) (ps : List PV) : Option (PV × List O) := match ps with
  | [.fr (.int n)] => some (.fr (.int n), hp)
  | [.fr (.bl b)] => some (.fr (.int (if b then 1 else 0)), hp)
  | _ => none
theorem g_int : GN G rIntB gInt := fun α W F H σ en hp ps vs z hp' Q c i e kk => by
  unfold gInt at e
  split at e
  · cases e
    obtain ⟨v, rfl, iv⟩ := isPs1 i
    exact .inl ⟨_, by rw [isP_int.mp iv], kk _ α W H (Same.refl _) (Grow.refl _) c (isP_int.mpr rfl)⟩
  · cases e
    obtain ⟨v, rfl, iv⟩ := isPs1 i
    exact .inr ⟨_, by rw [isP_bl.mp iv], kk _ α W H (Same.refl _) (Grow.refl _) c (isP_int.mpr rfl)⟩
  · cases e
def rListB (K : PySem.W.Frag) : List V → Hp → VK → Prop := fun xs H Q => ∃ p ys, xs = [.ref p] ∧ (SqL K H p ys ∨ SqT K H p ys) ∧ ∀ l, H l = none → Q (.ref l) (upd H l (.lst ys))
theorem call_listB {X : Cx} (K : PySem.W.Frag) (h : X.K = K) : CallR X (.type "list") (rListB K) := h ▸ call_list_of
def gList (z : Bool) (hp : List O) (ps : List PV) : Option (PV × List O) := match ps with
  | [p] => match vseq hp p with
    | none => none
    | some y => fresh z (mkL y.2) hp
  | _ => none
theorem g_list {z : Bool} : GN G (rListB G.b.K) (gList z) := fun α W F H σ en hp ps vs w hp' Q c i e kk => by
  unfold gList at e
  split at e
  · split at e
    · cases e
    · rename_i y ey
      obtain ⟨v, rfl, iv⟩ := isPs1 i
      obtain ⟨a, ws, rfl, h1, h2⟩ := seq_at c iv (k := y.1) (ps := y.2) ey
      refine ⟨a, ws, rfl, h1.or, fun l hl => ?_⟩
      obtain ⟨γ, W2, s2, l2, c2, i2⟩ := c.fresh hl (mkL_is h2) e
      exact kk _ γ W2 _ s2 l2 c2 i2
  · cases e
def rTupB (K : PySem.W.Frag) : List V → Hp → VK → Prop := fun xs H Q => ∃ p ys, xs = [.ref p] ∧ ((SqL K H p ys ∧ ∀ l, H l = none → Q (.ref l) (upd H l (.tup ys))) ∨ (SqT K H p ys ∧ Q (.ref p) H))
theorem call_tupB {X : Cx} (K : PySem.W.Frag) (h : X.K = K) : CallR X (.type "tuple") (rTupB K) := h ▸ call_tuple_of
def gTupF (hp : List O) (ps : List PV) : Option (PV × List O) := match ps with
  | [p] => match vseq hp p with
    | none => none
    | some (true, _) => some (p, hp)
    | some (false, qs) => match mkT qs with
      | none => none
      | some d => some (.fr d, hp)
  | _ => none
theorem g_tupF : GN G (rTupB G.b.K) gTupF := fun α W F H σ en hp ps vs w hp' Q c i e kk => by
  unfold gTupF at e
  split at e
  · split at e
    · cases e
    · rename_i qs ey
      cases e
      obtain ⟨v, rfl, iv⟩ := isPs1 i
      obtain ⟨a, ws, rfl, h1, h2⟩ := seq_at c iv ey
      exact ⟨a, ws, rfl, .inr ⟨h1, kk _ α W H (Same.refl _) (Grow.refl _) c iv⟩⟩
    · rename_i qs ey
      split at e
      · cases e
      · rename_i d ed
        cases e
        obtain ⟨v, rfl, iv⟩ := isPs1 i
        obtain ⟨a, ws, rfl, h1, h2⟩ := seq_at c iv ey
        refine ⟨a, ws, rfl, .inl ⟨h1, fun l hl => ?_⟩⟩
        obtain ⟨W2, s2, c2, i2⟩ := newT c hl h2 ed
        exact kk _ α W2 _ s2 (Grow.refl _) c2 (isP_fr.mpr i2)
  · cases e
/-- the numbers, the truths of a list -/
def intsP : List PV → Option (List Int)
  | [] => some []
  | .fr (.int n) :: ps => match intsP ps with
    | none => none
    | some ns => some (n :: ns)
  | _ => none
def blsP : List PV → Option (List Bool)
  | [] => some []
  | .fr (.bl n) :: ps => match blsP ps with
    | none => none
    | some ns => some (n :: ns)
  | _ => none
theorem intsP_at : ∀ {ps : List PV} {ns : List Int} {vs : List V}, intsP ps = some ns → IsPs G α W ps vs → vs = ns.map V.int
  | [], ns, vs, e, h => by cases e; exact h
  | .fr d :: ps, ns, vs, e, ⟨v, ws, h1, h2, h3⟩ => by
    cases d <;> first | cases e | skip
    rename_i n
    unfold intsP at e
    split at e
    · cases e
    · rename_i ns1 e1
      cases e
      rw [h1, isP_int.mp h2, intsP_at e1 h3, List.map_cons]
  | .rf _ :: ps, ns, vs, e, h => by cases e
  | .ex _ _ _ :: ps, ns, vs, e, h => by cases e
theorem blsP_at : ∀ {ps : List PV} {ns : List Bool} {vs : List V}, blsP ps = some ns → IsPs G α W ps vs → vs = ns.map V.bl
  | [], ns, vs, e, h => by cases e; exact h
  | .fr d :: ps, ns, vs, e, ⟨v, ws, h1, h2, h3⟩ => by
    cases d <;> first | cases e | skip
    rename_i n
    unfold blsP at e
    split at e
    · cases e
    · rename_i ns1 e1
      cases e
      rw [h1, isP_bl.mp h2, blsP_at e1 h3, List.map_cons]
  | .rf _ :: ps, ns, vs, e, h => by cases e
  | .ex _ _ _ :: ps, ns, vs, e, h => by cases e
def vints (hp : List O) (p : PV) : Option (List Int) := match vseq hp p with
  | some (false, ps) => intsP ps
  | _ => none
def vbls (hp : List O) (p : PV) : Option (List Bool) := match vseq hp p with
  | some (false, ps) => blsP ps
  | _ => none
theorem vints_at {ns : List Int} (c : Cf G α W F H σ en hp) (i : IsP G α W p v) (e : vints hp p = some ns) : ∃ a, v = .ref a ∧ SqL G.b.K H a (ns.map V.int) := by
  unfold vints at e
  split at e
  · rename_i qs ey
    obtain ⟨a, ws, rfl, h1, h2⟩ := seq_at c i ey
    rw [intsP_at e h2] at h1
    exact ⟨a, rfl, h1⟩
  · cases e
theorem vbls_at {ns : List Bool} (c : Cf G α W F H σ en hp) (i : IsP G α W p v) (e : vbls hp p = some ns) : ∃ a, v = .ref a ∧ SqL G.b.K H a (ns.map V.bl) := by
  unfold vbls at e
  split at e
  · rename_i qs ey
    obtain ⟨a, ws, rfl, h1, h2⟩ := seq_at c i ey
    rw [blsP_at e h2] at h1
    exact ⟨a, rfl, h1⟩
  · cases e
def minI (ns : List Int) : Int := match ns with
  | [] => 0
  | n :: ns => ns.foldl min n
def maxI (ns : List Int) : Int := match ns with
  | [] => 0
  | n :: ns => ns.foldl max n
theorem foldl_min : ∀ (ns : List Int) (n : Int), (ns.foldl min n = n ∨ ns.foldl min n ∈ ns) ∧ ns.foldl min n ≤ n ∧ ∀ m ∈ ns, ns.foldl min n ≤ m
  | [], n => ⟨.inl rfl, Int.le_refl _, fun m h => by cases h⟩
  | x :: ns, n => by
    obtain ⟨h1, h2, h3⟩ := foldl_min ns (min n x)
    show (ns.foldl min (min n x) = n ∨ _) ∧ ns.foldl min (min n x) ≤ n ∧ _
    refine ⟨?_, by omega, fun m hm => ?_⟩
    · rcases h1 with h | h
      · by_cases q : n ≤ x
        · exact .inl (by rw [h]; omega)
        · exact .inr (by rw [List.foldl_cons, h, show min n x = x by omega]; exact List.mem_cons_self)
      · exact .inr (List.mem_cons_of_mem _ h)
    · rcases List.mem_cons.mp hm with rfl | hm
      · show ns.foldl min (min n m) ≤ m
        omega
      · exact h3 m hm
theorem foldl_max : ∀ (ns : List Int) (n : Int), (ns.foldl max n = n ∨ ns.foldl max n ∈ ns) ∧ n ≤ ns.foldl max n ∧ ∀ m ∈ ns, m ≤ ns.foldl max n
  | [], n => ⟨.inl rfl, Int.le_refl _, fun m h => by cases h⟩
  | x :: ns, n => by
    obtain ⟨h1, h2, h3⟩ := foldl_max ns (max n x)
    show (ns.foldl max (max n x) = n ∨ _) ∧ n ≤ ns.foldl max (max n x) ∧ _
    refine ⟨?_, by omega, fun m hm => ?_⟩
    · rcases h1 with h | h
      · by_cases q : x ≤ n
        · exact .inl (by rw [h]; omega)
        · exact .inr (by rw [List.foldl_cons, h, show max n x = x by omega]; exact List.mem_cons_self)
      · exact .inr (List.mem_cons_of_mem _ h)
    · rcases List.mem_cons.mp hm with rfl | hm
      · show m ≤ ns.foldl max (max n m)
        omega
      · exact h3 m hm
theorem minI_spec {ns : List Int} (h : ns ≠ []) : minI ns ∈ ns ∧ ∀ m ∈ ns, minI ns ≤ m := by
  cases ns with
  | nil => exact absurd rfl h
  | cons n ns =>
    obtain ⟨h1, h2, h3⟩ := foldl_min ns n
    refine ⟨?_, fun m hm => ?_⟩
    · rcases h1 with h | h
      · show ns.foldl min n ∈ n :: ns
        rw [h]; exact List.mem_cons_self
      · exact List.mem_cons_of_mem _ h
    · rcases List.mem_cons.mp hm with rfl | hm
      · exact h2
      · exact h3 m hm
theorem maxI_spec {ns : List Int} (h : ns ≠ []) : maxI ns ∈ ns ∧ ∀ m ∈ ns, m ≤ maxI ns := by
  cases ns with
  | nil => exact absurd rfl h
  | cons n ns =>
    obtain ⟨h1, h2, h3⟩ := foldl_max ns n
    refine ⟨?_, fun m hm => ?_⟩
    · rcases h1 with h | h
      · show ns.foldl max n ∈ n :: ns
        rw [h]; exact List.mem_cons_self
      · exact List.mem_cons_of_mem _ h
    · rcases List.mem_cons.mp hm with rfl | hm
      · exact h2
      · exact h3 m hm
/-- sorted -/
def insI (n : Int) : List Int → List Int
  | [] => [n]
  | m :: ms => if n ≤ m then n :: m :: ms else m :: insI n ms
def sortI : List Int → List Int
  | [] => []
  | n :: ns => insI n (sortI ns)
theorem insI_perm (n : Int) : ∀ l, (insI n l).Perm (n :: l)
  | [] => List.Perm.refl _
  | m :: ms => by
    unfold insI
    split
    · exact List.Perm.refl _
    · exact ((insI_perm n ms).cons m).trans (List.Perm.swap n m ms)
theorem sortI_perm : ∀ l, (sortI l).Perm l
  | [] => List.Perm.refl _
  | n :: ns => (insI_perm n _).trans ((sortI_perm ns).cons n)
theorem insI_sorted (n : Int) : ∀ l : List Int, l.Pairwise (· ≤ ·) → (insI n l).Pairwise (· ≤ ·)
  | [], _ => by simp [insI]
  | m :: ms, h => by
    unfold insI
    rw [List.pairwise_cons] at h
    split
    · rename_i hn
      refine List.pairwise_cons.mpr ⟨fun a ha => ?_, List.pairwise_cons.mpr h⟩
      rcases List.mem_cons.mp ha with rfl | ha
      · exact hn
      · have := h.1 a ha; omega
    · rename_i hn
      refine List.pairwise_cons.mpr ⟨fun a ha => ?_, insI_sorted n ms h.2⟩
      rcases List.mem_cons.mp ((insI_perm n ms).mem_iff.mp ha) with rfl | ha
      · omega
      · exact h.1 a ha
theorem sortI_sorted : ∀ l, (sortI l).Pairwise (· ≤ ·)
  | [] => List.Pairwise.nil
  | n :: ns => insI_sorted n _ (sortI_sorted ns)
theorem sorted_same : ∀ {l m : List Int}, l.Perm m → l.Pairwise (· ≤ ·) → m.Pairwise (· ≤ ·) → l = m
  | [], m, p, _, _ => (List.nil_perm.mp p).symm
  | a :: l, [], p, _, _ => absurd p.length_eq (by simp)
  | a :: l, b :: m, p, h1, h2 => by
    rw [List.pairwise_cons] at h1 h2
    have e : a = b := by
      have ha := p.mem_iff.mp (List.mem_cons_self : a ∈ a :: l)
      have hb := p.mem_iff.mpr (List.mem_cons_self : b ∈ b :: m)
      have q1 : b ≤ a := by
        rcases List.mem_cons.mp ha with rfl | ha
        · exact Int.le_refl _
        · exact h2.1 a ha
      have q2 : a ≤ b := by
        rcases List.mem_cons.mp hb with rfl | hb
        · exact Int.le_refl _
        · exact h1.1 b hb
      omega
    subst e
    rw [sorted_same (List.Perm.cons_inv p) h1.2 h2.2]
theorem isL_ints : ∀ {ks : List Int}, IsL G.b W (ks.map D.int) (ks.map V.int)
  | [] => IsL.nil
  | k :: ks => IsL.cons (is_int.mpr rfl) isL_ints
def gSum (hp : List O) (ps : List PV) : Option (PV × List O) := match ps with
  | [p] => match vints hp p with
    | none => none
    | some ns => some (.fr (.int ns.sum), hp)
  | _ => none
def gMin (hp : List O) (ps : List PV) : Option (PV × List O) := match ps with
  | [p] => match vints hp p with
    | none => none
    | some ns => if ns.isEmpty then none else some (.fr (.int (minI ns)), hp)
  | _ => none
def gMax (hp : List O) (ps : List PV) : Option (PV × List O) := match ps with
  | [p] => match vints hp p with
    | none => none
    | some ns => if ns.isEmpty then none else some (.fr (.int (maxI ns)), hp)
  | _ => none
def gAny (hp : List O) (ps : List PV) : Option (PV × List O) := match ps with
  | [p] => match vbls hp p with
    | none => none
    | some ns => some (.fr (.bl (ns.any id)), hp)
  | _ => none
def gAll (hp : List O) (ps : List PV) : Option (PV × List O) := match ps with
  | [p] => match vbls hp p with
    | none => none
    | some ns => some (.fr (.bl (ns.all id)), hp)
  | _ => none
def gSorted (z : Bool) (hp : List O) (ps : List PV) : Option (PV × List O) := match ps with
  | [p] => match vints hp p with
    | none => none
    | some ns => if decide (ns.length < 64) then fresh z (.lst ((sortI ns).map .int)) hp else none
  | _ => none
theorem g_sum : GN G (rSum G.b.K) gSum := fun α W F H σ en hp ps vs w hp' Q c i e kk => by
  unfold gSum at e
  split at e
  · split at e
    · cases e
    · rename_i ns en
      cases e
      obtain ⟨v, rfl, iv⟩ := isPs1 i
      obtain ⟨a, rfl, h1⟩ := vints_at c iv en
      exact ⟨a, ns, rfl, h1, kk _ α W H (Same.refl _) (Grow.refl _) c (isP_int.mpr rfl)⟩
  · cases e
theorem g_min : GN G (rMin G.b.K) gMin := fun α W F H σ en hp ps vs w hp' Q c i e kk => by
  unfold gMin at e
  split at e
  · split at e
    · cases e
    · rename_i ns en
      split at e
      · cases e
      · rename_i hne
        cases e
        have hn : ns ≠ [] := fun z => hne (by rw [z]; rfl)
        obtain ⟨v, rfl, iv⟩ := isPs1 i
        obtain ⟨a, rfl, h1⟩ := vints_at c iv en
        obtain ⟨m1, m2⟩ := minI_spec hn
        refine ⟨a, ns, rfl, h1, List.length_pos_iff.mpr hn, fun m hm hl => ?_⟩
        have : m = minI ns := by have := m2 m hm; have := hl _ m1; omega
        subst this
        exact kk _ α W H (Same.refl _) (Grow.refl _) c (isP_int.mpr rfl)
  · cases e
theorem g_max : GN G (rMax G.b.K) gMax := fun α W F H σ en hp ps vs w hp' Q c i e kk => by
  unfold gMax at e
  split at e
  · split at e
    · cases e
    · rename_i ns en
      split at e
      · cases e
      · rename_i hne
        cases e
        have hn : ns ≠ [] := fun z => hne (by rw [z]; rfl)
        obtain ⟨v, rfl, iv⟩ := isPs1 i
        obtain ⟨a, rfl, h1⟩ := vints_at c iv en
        obtain ⟨m1, m2⟩ := maxI_spec hn
        refine ⟨a, ns, rfl, h1, List.length_pos_iff.mpr hn, fun m hm hl => ?_⟩
        have : m = maxI ns := by have := m2 m hm; have := hl _ m1; omega
        subst this
        exact kk _ α W H (Same.refl _) (Grow.refl _) c (isP_int.mpr rfl)
  · cases e
theorem g_any : GN G (rAny G.b.K) gAny := fun α W F H σ en hp ps vs w hp' Q c i e kk => by
  unfold gAny at e
  split at e
  · split at e
    · cases e
    · rename_i ns en
      cases e
      obtain ⟨v, rfl, iv⟩ := isPs1 i
      obtain ⟨a, rfl, h1⟩ := vbls_at c iv en
      exact ⟨a, ns, rfl, h1, kk _ α W H (Same.refl _) (Grow.refl _) c (isP_bl.mpr rfl)⟩
  · cases e
theorem g_all : GN G (rAll G.b.K) gAll := fun α W F H σ en hp ps vs w hp' Q c i e kk => by
  unfold gAll at e
  split at e
  · split at e
    · cases e
    · rename_i ns en
      cases e
      obtain ⟨v, rfl, iv⟩ := isPs1 i
      obtain ⟨a, rfl, h1⟩ := vbls_at c iv en
      exact ⟨a, ns, rfl, h1, kk _ α W H (Same.refl _) (Grow.refl _) c (isP_bl.mpr rfl)⟩
  · cases e
theorem g_sorted {z : Bool} : GN G (rSorted G.b.K) (gSorted z) := fun α W F H σ en hp ps vs w hp' Q c i e kk => by
  unfold gSorted at e
  split at e
  · split at e
    · cases e
    · rename_i ns en
      split at e
      · rename_i hl
        obtain ⟨v, rfl, iv⟩ := isPs1 i
        obtain ⟨a, rfl, h1⟩ := vints_at c iv en
        refine ⟨a, ns, rfl, h1, of_decide_eq_true hl, fun ns' p hp1 hs hn => ?_⟩
        have : ns' = sortI ns := sorted_same (hp1.trans (sortI_perm ns).symm) hs (sortI_sorted ns)
        subst this
        obtain ⟨γ, W2, s2, l2, c2, i2⟩ := c.fresh (o := .lst ((sortI ns).map .int)) (ho := .lst ((sortI ns).map V.int)) hn ⟨_, rfl, isL_ints⟩ e
        exact kk _ γ W2 _ s2 l2 c2 i2
      · cases e
  · cases e
def gAbs (hp : List O) (ps : List PV) : Option (PV × List O) := match ps with
  | [.fr (.int n)] => some (.fr (.int (if n < 0 then -n else n)), hp)
  | _ => none
theorem g_abs : GN G (fun xs H Q => ∃ i, xs = [.int i] ∧ Q (.int (if i < 0 then -i else i)) H) gAbs := fun α W F H σ en hp ps vs w hp' Q c i e kk => by
  unfold gAbs at e
  split at e
  · cases e
    obtain ⟨v, rfl, iv⟩ := isPs1 i
    exact ⟨_, by rw [isP_int.mp iv], kk _ α W H (Same.refl _) (Grow.refl _) c (isP_int.mpr rfl)⟩
  · cases e
def gStrI (hp : List O) (ps : List PV) : Option (PV × List O) := match ps with
  | [.fr (.int n)] => if decide (n.natAbs.log2 < 1920) then some (.fr (.str (toString n)), hp) else none
  | _ => none
theorem g_strI : GN G (fun xs H Q => ∃ i, xs = [.int i] ∧ i.natAbs.log2 < 1920 ∧ Q (.str (toString i)) H) gStrI := fun α W F H σ en hp ps vs w hp' Q c i e kk => by
  unfold gStrI at e
  split at e
  · split at e
    · rename_i hn
      cases e
      obtain ⟨v, rfl, iv⟩ := isPs1 i
      exact ⟨_, by rw [isP_int.mp iv], of_decide_eq_true hn, kk _ α W H (Same.refl _) (Grow.refl _) c (isP_str.mpr rfl)⟩
    · cases e
  · cases e
/-- isinstance: the types by numbers, own classes from 100 on -/
def tyD : D → Option Nat
  | .non => some 0
  | .bl _ => some 1
  | .int _ => some 2
  | .str _ => some 3
  | .lst _ => some 4
  | .tup _ => some 5
  | .ins C _ _ => some (100 + C)
  | _ => none
def tyO : O → Option Nat
  | .lst _ => some 4
  | .mix _ => some 4
  | .ins C _ _ => some (100 + C)
  | .ice d => tyD d
  | _ => none
def tyP (hp : List O) (p : PV) : Option Nat := match p with
  | .fr d => tyD d
  | .rf i => match hp[i]? with
    | none => none
    | some o => tyO o
  | .ex _ _ _ => none
def clP (p : PV) : Option Nat := match p with
  | .fr (.ty n) => some n
  | .fr (.cls C) => some (100 + C)
  | _ => none
def tyVal (b : Bs) (n : Nat) : Value := if n < 100 then .type (tyName n) else .ref (b.cl (n - 100))
structure InsTy (K : PySem.W.Frag) (C : Addr) : Prop where
  cl : Cls K C
  ha : PySem.W.findIn K (.ref C) "__class__" = some (some (.builtin "object.__class__"))
  hn : PySem.W.specialIn K (.builtin "object.__class__") "__get__" = some (some (.builtin "getset_descriptor.__get__"))
  ht : PySem.W.takesIn K (.builtin "object.__class__") = some true
  hm : PySem.W.mroIn K C (.type "object") = some true
/-- the answers that are known: type, class, answer -/
def KitOk (b : Bs) (L : List (Nat × Nat × Bool)) : Prop := ∀ e ∈ L, PySem.W.kitOne b.K (tyVal b e.1) (tyVal b e.2.1) = some e.2.2 ∧ (100 ≤ e.1 → InsTy b.K (b.cl (e.1 - 100)))
def kitL (L : List (Nat × Nat × Bool)) (t u : Nat) : Option Bool := (L.find? fun e => e.1 == t && e.2.1 == u).map (·.2.2)
def gIsi (L : List (Nat × Nat × Bool)) (hp : List O) (ps : List PV) : Option (PV × List O) := match ps with
  | [p, q] => match tyP hp p with
    | none => none
    | some t => match clP q with
      | none => none
      | some u => match kitL L t u with
        | none => none
        | some b => some (.fr (.bl b), hp)
  | _ => none
theorem tyD_at {t : Nat} (s : Same W H) (i : Is G.b W d v) (e : tyD d = some t) (hc : 100 ≤ t → InsTy G.b.K (G.b.cl (t - 100))) : TyX G.b.K H v (tyVal G.b t) := by
  cases d <;> first | cases e | skip
  · rw [is_non.mp i]; exact .base .non
  · rw [is_bl.mp i]; exact .base (.bl _)
  · rw [is_int.mp i]; exact .base (.int _)
  · rw [is_str.mp i]; exact .base (.str _)
  · obtain ⟨a, vs, rfl, h1, _⟩ := is_lst.mp i
    exact .base (.lst (s _ _ h1))
  · obtain ⟨a, vs, rfl, h1, _⟩ := is_tup.mp i
    exact .base (.tup (s _ _ h1))
  · rename_i C ns ds
    obtain ⟨a, dx, vs, rfl, h1, _⟩ := is_ins.mp i
    have hi := hc (by omega)
    have e1 : tyVal G.b (100 + C) = .ref (G.b.cl C) := by
      unfold tyVal
      rw [if_neg (by omega), show 100 + C - 100 = C by omega]
    rw [e1]
    rw [show 100 + C - 100 = C by omega] at hi
    exact .base (.ins (s _ _ h1) hi.cl hi.ha hi.hn hi.ht hi.hm)
theorem tyP_at {t : Nat} (c : Cf G α W F H σ en hp) (i : IsP G α W p v) (e : tyP hp p = some t) (hc : 100 ≤ t → InsTy G.b.K (G.b.cl (t - 100))) : TyX G.b.K H v (tyVal G.b t) := by
  cases p with
  | fr d => exact tyD_at c.sW i e hc
  | ex _ _ _ => cases e
  | rf j =>
    obtain ⟨a, h1, rfl⟩ := i
    replace e : (match hp[j]? with | none => none | some o => tyO o) = some t := e
    split at e
    · cases e
    · rename_i o ho
      cases o <;> first | cases e | skip
      · obtain ⟨u, k1, ⟨vs, rfl, k3⟩, _, _⟩ := (ownAt_live rfl).mp (c.own j _ a ho h1)
        exact .base (.lst k1)
      · obtain ⟨u, k1, ⟨vs, rfl, k3⟩, _, _⟩ := (ownAt_live rfl).mp (c.own j _ a ho h1)
        exact .base (.lst k1)
      · rename_i C ns qs
        obtain ⟨u, k1, ⟨dx, vs, rfl, k3, k4⟩, _, _⟩ := (ownAt_live rfl).mp (c.own j _ a ho h1)
        have hi := hc (by omega)
        have e1 : tyVal G.b (100 + C) = .ref (G.b.cl C) := by
          unfold tyVal
          rw [if_neg (by omega), show 100 + C - 100 = C by omega]
        rw [e1]
        rw [show 100 + C - 100 = C by omega] at hi
        exact .base (.ins k1 hi.cl hi.ha hi.hn hi.ht hi.hm)
      · exact tyD_at c.sW (c.own j _ a ho h1) e hc
theorem clP_at {u : Nat} (i : IsP G α W p v) (e : clP p = some u) (hs : ∀ n, p = .fr (.ty n) → n < 100) : ClsV v (tyVal G.b u) := by
  unfold clP at e
  split at e
  · rename_i n
    cases e
    rw [is_ty.mp (isP_fr.mp i)]
    unfold tyVal
    rw [if_pos (hs _ rfl)]
    exact .ty _
  · rename_i C
    cases e
    rw [is_cls.mp (isP_fr.mp i)]
    unfold tyVal
    rw [if_neg (by omega), show 100 + C - 100 = C by omega]
    exact .own _
  · cases e
/-- known types only -/
def clP' (p : PV) : Bool := match p with
  | .fr (.ty n) => decide (n < 100)
  | _ => true
def gIsi' (L : List (Nat × Nat × Bool)) (hp : List O) (ps : List PV) : Option (PV × List O) := match ps with
  | [p, q] => if clP' q then gIsi L hp [p, q] else none
  | _ => none
theorem g_isi {L : List (Nat × Nat × Bool)} (hL : KitOk G.b L) : GN G (rIsi G.b.K) (gIsi' L) := fun α W F H σ en hp ps vs w hp' Q c i e kk => by
  unfold gIsi' at e
  split at e
  · rename_i p q
    split at e
    · rename_i hq
      unfold gIsi at e
      dsimp only at e
      split at e
      · cases e
      · rename_i t et
        split at e
        · cases e
        · rename_i u eu
          split at e
          · cases e
          · rename_i b eb
            cases e
            obtain ⟨v, w, rfl, iv, iw⟩ := isPs2 i
            unfold kitL at eb
            rw [Option.map_eq_some_iff] at eb
            obtain ⟨y, hy, rfl⟩ := eb
            have hm := List.mem_of_find?_eq_some hy
            have hp := List.find?_some hy
            rw [Bool.and_eq_true, beq_iff_eq, beq_iff_eq] at hp
            obtain ⟨h1, h2⟩ := hL y hm
            rw [hp.1, hp.2] at h1
            rw [hp.1] at h2
            refine ⟨v, w, _, _, _, rfl, clP_at iw eu (fun n en => ?_), tyP_at c iv et h2, h1, kk _ α W H (Same.refl _) (Grow.refl _) c (isP_bl.mpr rfl)⟩
            subst en
            exact of_decide_eq_true hq
    · cases e
  · cases e
end
end ML

namespace ML
open PySem L2 PySem.Spec PyProof.Rows

section
variable {G : Ct} {Ex : WX} {α β : List Addr} {W W' F H H' : Hp} {σ : L2.St} {en : En} {hp hp' : List O} {te ta tb tv : TE} {tt : TT} {tas : TA} {x y xo xv xi : XE} {xt : XT} {xas : XA} {v : V} {p q : PV} {k : Bool} {ps items : List PV} {d : D} {a : Addr} {o : O} {i j : Nat}
/-! ### slices -/
abbrev XO := En → List O → Option (R (Option Int))
def GoodO (G : Ct) (Ex : WX) (α : List Addr) (W F : Hp) (σ : L2.St) (en : En) (Q : Option Int → Hp → Prop) : R (Option Int) → Prop
  | .ok b hp => ∀ β W' H', Same W W' → Grow α β → Cf G β W' F H' σ en hp → Q b H'
  | .exc C ns ds hp => GoodX G Ex α W F σ en C ns ds hp
def SO (G : Ct) (Ex : WX) (t : TO) (x : XO) : Prop := ∀ α W F H σ en hp r Q, Cf G α W F H σ en hp → x en hp = some r → GoodO G Ex α W F σ en Q r → t σ H Q
def xoNo : XO := fun _ hp => some (.ok none hp)
def xoAt (x : XE) : XO := fun en hp => xb (x en hp) fun p hp1 => match p with
  | .fr (.int n) => some (.ok (some n) hp1)
  | _ => none
theorem so_no : SO G Ex tNoPart xoNo := fun α W F H σ en hp r Q c e g => by cases e; exact g α W H (Same.refl _) (Grow.refl _) c
theorem GoodO.gx {Q : Option Int → Hp → Prop} {z : R (Option Int)} (g : GoodO G Ex α W F σ en Q z) : ∀ C ns ds hp, z = .exc C ns ds hp → GoodX G Ex α W F σ en C ns ds hp := fun C ns ds hp e => by subst e; exact g
theorem so_at (h : SE G Ex te x) : SO G Ex (tPart te) (xoAt x) := fun α W F H σ en hp r Q c e g => h.bind c e g.gx fun p hp1 v β W1 H1 e1 s1 l1 c1 i1 => by
  split at e1
  · rename_i n
    cases e1
    exact ⟨n, isP_int.mp i1, g β W1 H1 s1 l1 c1⟩
  · cases e1
theorem SO.bind {δ : Type} {to : TO} {xo : XO} {Q : Option Int → Hp → Prop} {k : Option Int → List O → Option (R δ)} {z : R δ} (h : SO G Ex to xo) (c : Cf G α W F H σ en hp) (e : xb (xo en hp) k = some z)
    (gx : ∀ C ns ds hp, z = .exc C ns ds hp → GoodX G Ex α W F σ en C ns ds hp)
    (step : ∀ b hp' β W' H', k b hp' = some z → Same W W' → Grow α β → Cf G β W' F H' σ en hp' → Q b H') : to σ H Q := by
  rcases xb_cases e with ⟨p, hp', e1, e2⟩ | ⟨C, ns, ds, hp', e1, e2⟩
  · exact h α W F H σ en hp _ Q c e1 fun β W' H' s l c' => step p hp' β W' H' e2 s l c'
  · exact h α W F H σ en hp _ Q c e1 (gx C ns ds hp' e2)
def cutD {γ : Type} (xs : List γ) (lo hi : Option Int) : List γ := (xs.drop (HT.sIx xs.length 0 lo)).take (HT.sIx xs.length xs.length hi - HT.sIx xs.length 0 lo)
theorem isPs_drop : ∀ {ps : List PV} {vs : List V} (n : Nat), IsPs G α W ps vs → IsPs G α W (ps.drop n) (vs.drop n)
  | ps, vs, 0, h => h
  | [], vs, n + 1, h => by rw [show vs = [] from h]; exact rfl
  | p :: ps, vs, n + 1, ⟨v, ws, h1, h2, h3⟩ => by subst h1; exact isPs_drop n h3
theorem isPs_take : ∀ {ps : List PV} {vs : List V} (n : Nat), IsPs G α W ps vs → IsPs G α W (ps.take n) (vs.take n)
  | ps, vs, 0, h => by simp; exact IsPs.nil
  | [], vs, n + 1, h => by rw [show vs = [] from h]; exact rfl
  | p :: ps, vs, n + 1, ⟨v, ws, h1, h2, h3⟩ => by subst h1; exact IsPs.cons h2 (isPs_take n h3)
theorem isPs_cut {vs : List V} (h : IsPs G α W ps vs) (lo hi : Option Int) : IsPs G α W (cutD ps lo hi) (cutV vs lo hi) := by
  unfold cutD cutV
  rw [h.len]
  exact isPs_take _ (isPs_drop _ h)
def rSlB (K : PySem.W.Frag) : V → Option Int → Option Int → Hp → VK → Prop := fun x lo hi H Q => rSlL K x lo hi H Q ∨ rSlT K x lo hi H Q ∨ rSlS x lo hi H Q
theorem SlR.or {X : Cx} {r r' : V → Option Int → Option Int → Hp → VK → Prop} (h : SlR X r) (h' : SlR X r') : SlR X (fun x l u H Q => r x l u H Q ∨ r' x l u H Q) := by
  intro pins s σ H x v vl vu lo hi sl Q I rx hs pl pu q
  rcases q with q | q
  · exact h pins s σ H x v vl vu lo hi sl Q I rx hs pl pu q
  · exact h' pins s σ H x v vl vu lo hi sl Q I rx hs pl pu q
theorem sl_B {X : Cx} (K : PySem.W.Frag) (h : X.K = K) : SlR X (rSlB K) := h ▸ SlR.or sl_list (SlR.or sl_tup sl_str)
def gSl (z : Bool) (hp : List O) (p : PV) (lo hi : Option Int) : Option (PV × List O) := match p with
  | .fr (.str s) => if sz s.length then some (.fr (.str (cutS s lo hi)), hp) else none
  | p => match vseq hp p with
    | some (false, ps) => fresh z (mkL (cutD ps lo hi)) hp
    | some (true, ps) => if decide (HT.sIx ps.length 0 lo = 0) && decide (HT.sIx ps.length ps.length hi = ps.length) then none else match mkT (cutD ps lo hi) with
      | none => none
      | some d => some (.fr d, hp)
    | none => none
def xSl (z : Bool) (x : XE) (l u : XO) : XE := fun en hp => xb (x en hp) fun p hp1 => xb (l en hp1) fun lo hp2 => xb (u en hp2) fun hi hp3 => lf (gSl z hp3 p lo hi)
theorem se_sl {z : Bool} {tl tu : TO} {l u : XO} (h : SE G Ex te x) (hl : SO G Ex tl l) (hu : SO G Ex tu u) : SE G Ex (tSl (rSlB G.b.K) te tl tu) (xSl z x l u) := fun α W F H σ en hp r Q c e g =>
  h.bind c e g.gx fun p hp1 v β W1 H1 e1 s1 l1 c1 i1 => hl.bind c1 e1 (g.mono s1 l1).gx fun lo hp2 γ W2 H2 e2 s2 l2 c2 => hu.bind c2 e2 ((g.mono s1 l1).mono s2 l2).gx fun hi hp3 δ W3 H3 e3 s3 l3 c3 => by
    obtain ⟨pv, hp4, e4, rfl⟩ := lf_some e3
    have i3 : IsP G δ W3 p v := (i1.mono s2 l2).mono s3 l3
    have ss := (s1.trans s2).trans s3
    have ll := (l1.trans l2).trans l3
    unfold gSl at e4
    split at e4
    · split at e4
      · rename_i hz
        cases e4
        exact .inr (.inr ⟨_, isP_str.mp i3, sz_of hz, g _ δ W3 H3 ss ll c3 (isP_str.mpr rfl)⟩)
      · cases e4
    · split at e4
      · rename_i ps ey
        obtain ⟨a, ws, rfl, h1, h2⟩ := seq_at c3 i3 ey
        refine .inl ⟨a, ws, rfl, h1, fun b hb => ?_⟩
        obtain ⟨ε, W4, s4, l4, c4, i4⟩ := c3.fresh hb (mkL_is (isPs_cut h2 lo hi)) e4
        exact g _ ε W4 _ (ss.trans s4) (ll.trans l4) c4 i4
      · rename_i ps ey
        obtain ⟨a, ws, rfl, h1, h2⟩ := seq_at c3 i3 ey
        split at e4
        · cases e4
        · rename_i hn
          split at e4
          · cases e4
          · rename_i d ed
            cases e4
            refine .inr (.inl ⟨a, ws, rfl, h1, fun hh => hn ?_, fun b hb => ?_⟩)
            · rw [← h2.len] at hh
              simp [hh.1, hh.2]
            · obtain ⟨W4, s4, c4, i4⟩ := newT c3 hb (isPs_cut h2 lo hi) ed
              exact g _ δ W4 _ (ss.trans s4) ll c4 (isP_fr.mpr i4)
      · cases e4
/-- list(range(n)) -/
def upto (n : Int) : List Int := (List.range n.toNat).map Int.ofNat
def xListR1 (z : Bool) (x : XE) : XE := fun en hp => xb (x en hp) fun p hp1 => match p with
  | .fr (.int n) => if smI n then lf (fresh z (.lst ((upto n).map .int)) hp1) else none
  | _ => none
theorem se_listR1 {z : Bool} (h : SE G Ex te x) : SE G Ex (tLstRg (tRg1 te)) (xListR1 z x) := fun α W F H σ en hp r Q c e g => h.bind c e g.gx fun p hp1 v β W1 H1 e1 s1 l1 c1 i1 => by
  split at e1
  · rename_i n
    split at e1
    · rename_i hn
      obtain ⟨pv, hp2, e2, rfl⟩ := lf_some e1
      have hb := smI_b hn
      unfold smI at hn
      simp only [Bool.and_eq_true, decide_eq_true_eq] at hn
      refine ⟨n, isP_int.mp i1, ⟨by omega, by omega, by omega, by omega, by omega⟩, fun b hb => ?_⟩
      have e3 : rgV 0 n = (upto n).map V.int := by
        unfold rgV upto
        rw [List.map_map, Int.sub_zero]
        apply List.map_congr_left
        intro i _
        simp
      obtain ⟨γ, W2, s2, l2, c2, i2⟩ := c1.fresh (o := .lst ((upto n).map .int)) (ho := .lst (rgV 0 n)) hb ⟨_, rfl, by rw [e3]; exact isL_ints⟩ e2
      exact g _ γ W2 _ (s1.trans s2) (l1.trans l2) c2 i2
    · cases e1
  · cases e1

/-! ### methods of lists -/
/-- what a method makes of our own list -/
def GM (G : Ct) (r : V → List V → Hp → VK → Prop) (g : List O → PV → List PV → Option (PV × List O)) : Prop := ∀ α W F H σ en hp p ps v vs z hp' (Q : VK), Cf G α W F H σ en hp → IsP G α W p v → IsPs G α W ps vs → g hp p ps = some (z, hp') →
  (∀ u β W' H', Same W W' → Grow α β → Cf G β W' F H' σ en hp' → IsP G β W' z u → Q u H') → r v vs H Q
def isL (hp : List O) (p : PV) : Bool := match vseq hp p with
  | some (false, _) => true
  | _ => false
def xBM (g : List O → PV → List PV → Option (PV × List O)) (x : XE) (a : XA) : XE := fun en hp => xb (x en hp) fun p hp1 => if isL hp1 p then xb (a en hp1) fun ps hp2 => lf (g hp2 p ps) else none
theorem se_bm {r : V → List V → Hp → VK → Prop} {g : List O → PV → List PV → Option (PV × List O)} (hg : GM G r g) (h : SE G Ex te x) (ha : SA G Ex tas xas) : SE G Ex (tBM G.b.K "list" r te tas) (xBM g x xas) := fun α W F H σ en hp r' Q c e k =>
  h.bind c e k.gx fun p hp1 v β W1 H1 e1 s1 l1 c1 i1 => by
    split at e1
    · rename_i hl
      unfold isL at hl
      split at hl
      · rename_i ps ey
        obtain ⟨a, ws, rfl, h1, h2⟩ := seq_at c1 i1 ey
        refine ⟨.inl ⟨rfl, ws, h1⟩, ha.bind c1 e1 (k.mono s1 l1).gx fun qs hp2 vs γ W2 H2 e2 s2 l2 c2 i2 => ?_⟩
        obtain ⟨z, hp3, e3, rfl⟩ := lf_some e2
        exact hg γ W2 F H2 σ en hp2 p qs _ vs z hp3 Q c2 (i1.mono s2 l2) i2 e3 fun u δ W3 H3 s3 l3 c3 i3 => k u δ W3 H3 ((s1.trans s2).trans s3) ((l1.trans l2).trans l3) c3 i3
      · cases hl
    · cases e1
theorem se_bm0 {r : V → List V → Hp → VK → Prop} {g : List O → PV → List PV → Option (PV × List O)} (hg : GM G r g) (h : SE G Ex te x) : SE G Ex (tBM0 G.b.K "list" r te) (xBM g x xNil) := fun α W F H σ en hp r' Q c e k =>
  h.bind c e k.gx fun p hp1 v β W1 H1 e1 s1 l1 c1 i1 => by
    split at e1
    · rename_i hl
      unfold isL at hl
      split at hl
      · rename_i ps ey
        obtain ⟨a, ws, rfl, h1, h2⟩ := seq_at c1 i1 ey
        obtain ⟨z, hp3, e3, rfl⟩ := lf_some e1
        exact ⟨.inl ⟨rfl, ws, h1⟩, hg β W1 F H1 σ en hp1 p [] _ [] z hp3 Q c1 i1 IsPs.nil e3 fun u δ W3 H3 s3 l3 c3 i3 => k u δ W3 H3 (s1.trans s3) (l1.trans l3) c3 i3⟩
      · cases hl
    · cases e1
/-- our own list: its number, its items -/
def ownL (hp : List O) (p : PV) : Option (Nat × List PV) := match p with
  | .rf i => match hp[i]? with
    | some (.lst ds) => some (i, ds.map .fr)
    | some (.mix ps) => some (i, ps)
    | _ => none
  | _ => none
theorem ownL_at (c : Cf G α W F H σ en hp) (ip : IsP G α W p v) (e : ownL hp p = some (i, ps)) : ∃ a vs, v = .ref a ∧ H a = some (.lst vs) ∧ IsPs G α W ps vs ∧ ∀ qs ws, IsPs G α W qs ws → Cf G α W F (upd H a (.lst ws)) σ en (hp.set i (mkL qs)) := by
  unfold ownL at e
  split at e
  · rename_i j
    obtain ⟨a, h1, rfl⟩ := ip
    split at e
    · rename_i ds ho
      cases e
      obtain ⟨u, k1, ⟨vs, rfl, k3⟩, _, _⟩ := (ownAt_live rfl).mp (c.own _ _ a ho h1)
      exact ⟨a, vs, rfl, k1, isPs_fr.mpr k3, fun qs ws iq => c.put ho rfl h1 (mkL_is iq).live (mkL_is iq)⟩
    · rename_i qs ho
      cases e
      obtain ⟨u, k1, ⟨vs, rfl, k3⟩, _, _⟩ := (ownAt_live rfl).mp (c.own _ _ a ho h1)
      exact ⟨a, vs, rfl, k1, k3, fun qs ws iq => c.put ho rfl h1 (mkL_is iq).live (mkL_is iq)⟩
    · cases e
  · cases e
def gAppend (hp : List O) (p : PV) (as : List PV) : Option (PV × List O) := match as with
  | [q] => match ownL hp p with
    | none => none
    | some z => if sz (z.2.length + 1) then some (.fr .non, hp.set z.1 (mkL (z.2 ++ [q]))) else none
  | _ => none
theorem g_append : GM G rAppend gAppend := fun α W F H σ en hp p ps v vs z hp' Q c i is e kk => by
  unfold gAppend at e
  split at e
  · split at e
    · cases e
    · rename_i y ey
      split at e
      · rename_i hz
        cases e
        obtain ⟨w, rfl, iw⟩ := isPs1 is
        obtain ⟨a, ws, rfl, h1, h2, h3⟩ := ownL_at c i (i := y.1) (ps := y.2) ey
        have hz' := sz_of hz
        exact ⟨a, ws, w, rfl, rfl, h1, by rw [← h2.len]; omega, kk _ α W _ (Same.refl _) (Grow.refl _) (h3 _ _ (h2.append (IsPs.cons iw IsPs.nil))) (isP_non.mpr rfl)⟩
      · cases e
  · cases e
def gPop (hp : List O) (p : PV) (as : List PV) : Option (PV × List O) := match as with
  | [] => match ownL hp p with
    | none => none
    | some z => match z.2[z.2.length - 1]? with
      | none => none
      | some r => some (r, hp.set z.1 (mkL (z.2.take (z.2.length - 1))))
  | _ => none
theorem g_pop : GM G rPop gPop := fun α W F H σ en hp p ps v vs z hp' Q c i is e kk => by
  unfold gPop at e
  split at e
  · split at e
    · cases e
    · rename_i y ey
      split at e
      · cases e
      · rename_i r er
        cases e
        have hv : vs = [] := is
        subst hv
        obtain ⟨a, ws, rfl, h1, h2, h3⟩ := ownL_at c i (i := y.1) (ps := y.2) ey
        obtain ⟨u, k1, k2⟩ := h2.get er
        refine ⟨a, ws, u, rfl, rfl, h1, by rw [← h2.len]; exact k1, kk _ α W _ (Same.refl _) (Grow.refl _) ?_ k2⟩
        rw [List.dropLast_eq_take, ← h2.len]
        exact h3 _ _ (isPs_take _ h2)
  · cases e
theorem isPs_erase : ∀ {ps : List PV} {vs : List V} (n : Nat), IsPs G α W ps vs → IsPs G α W (ps.eraseIdx n) (vs.eraseIdx n)
  | [], vs, n, h => by rw [show vs = [] from h]; exact rfl
  | p :: ps, vs, 0, ⟨v, ws, h1, h2, h3⟩ => by subst h1; exact h3
  | p :: ps, vs, n + 1, ⟨v, ws, h1, h2, h3⟩ => by subst h1; exact IsPs.cons h2 (isPs_erase n h3)
def gPopAt (hp : List O) (p : PV) (as : List PV) : Option (PV × List O) := match as with
  | [.fr (.int n)] => match ownL hp p with
    | none => none
    | some z => if decide (0 ≤ n) && smI n then match z.2[n.toNat]? with
        | none => none
        | some r => some (r, hp.set z.1 (mkL (z.2.eraseIdx n.toNat)))
      else none
  | _ => none
theorem g_popAt : GM G rPopAt gPopAt := fun α W F H σ en hp p ps v vs z hp' Q c i is e kk => by
  unfold gPopAt at e
  split at e
  · rename_i n
    split at e
    · cases e
    · rename_i y ey
      split at e
      · rename_i hn
        split at e
        · cases e
        · rename_i r er
          cases e
          rw [Bool.and_eq_true, decide_eq_true_eq] at hn
          obtain ⟨m, rfl⟩ := Int.eq_ofNat_of_zero_le hn.1
          have hb := smI_b hn.2
          obtain ⟨w, rfl, iw⟩ := isPs1 is
          obtain ⟨a, ws, rfl, h1, h2, h3⟩ := ownL_at c i (i := y.1) (ps := y.2) ey
          rw [Int.toNat_natCast] at er
          obtain ⟨u, k1, k2⟩ := h2.get er
          have hm := (List.getElem?_eq_some_iff.mp k1).1
          refine ⟨a, ws, m, m, u, rfl, by rw [isP_int.mp iw], h1, by omega, by omega, ?_, k1, kk _ α W _ (Same.refl _) (Grow.refl _) ?_ k2⟩
          · have hx : ixN ws.length (m : Int) = some m := by
              unfold ixN
              rw [if_pos (by omega), if_pos (by omega)]
              simp
            exact (ixN_seq hx).1
          · rw [Int.toNat_natCast]
            exact h3 _ _ (isPs_erase _ h2)
      · cases e
  · cases e
def gClear (hp : List O) (p : PV) (as : List PV) : Option (PV × List O) := match as with
  | [] => match ownL hp p with
    | none => none
    | some z => some (.fr .non, hp.set z.1 (mkL []))
  | _ => none
theorem g_clear : GM G rClear gClear := fun α W F H σ en hp p ps v vs z hp' Q c i is e kk => by
  unfold gClear at e
  split at e
  · split at e
    · cases e
    · rename_i y ey
      cases e
      have hv : vs = [] := is
      subst hv
      obtain ⟨a, ws, rfl, h1, h2, h3⟩ := ownL_at c i (i := y.1) (ps := y.2) ey
      exact ⟨a, ws, rfl, rfl, h1, kk _ α W _ (Same.refl _) (Grow.refl _) (h3 _ _ IsPs.nil) (isP_non.mpr rfl)⟩
  · cases e
theorem isPs_reverse : ∀ {ps : List PV} {vs : List V}, IsPs G α W ps vs → IsPs G α W ps.reverse vs.reverse
  | [], vs, h => by rw [show vs = [] from h]; exact rfl
  | p :: ps, vs, ⟨v, ws, h1, h2, h3⟩ => by
    subst h1
    rw [List.reverse_cons, List.reverse_cons]
    exact (isPs_reverse h3).append (IsPs.cons h2 IsPs.nil)
def gReverse (hp : List O) (p : PV) (as : List PV) : Option (PV × List O) := match as with
  | [] => match ownL hp p with
    | none => none
    | some z => some (.fr .non, hp.set z.1 (mkL z.2.reverse))
  | _ => none
theorem g_reverse : GM G rReverse gReverse := fun α W F H σ en hp p ps v vs z hp' Q c i is e kk => by
  unfold gReverse at e
  split at e
  · split at e
    · cases e
    · rename_i y ey
      cases e
      have hv : vs = [] := is
      subst hv
      obtain ⟨a, ws, rfl, h1, h2, h3⟩ := ownL_at c i (i := y.1) (ps := y.2) ey
      exact ⟨a, ws, rfl, rfl, h1, kk _ α W _ (Same.refl _) (Grow.refl _) (h3 _ _ (isPs_reverse h2)) (isP_non.mpr rfl)⟩
  · cases e
def gExtend (hp : List O) (p : PV) (as : List PV) : Option (PV × List O) := match as with
  | [q] => match ownL hp p with
    | none => none
    | some z => match isLst hp q with
      | none => none
      | some qs => if sz (z.2.length + qs.length) then some (.fr .non, hp.set z.1 (mkL (z.2 ++ qs))) else none
  | _ => none
theorem g_extend : GM G rExtend gExtend := fun α W F H σ en hp p ps v vs z hp' Q c i is e kk => by
  unfold gExtend at e
  split at e
  · split at e
    · cases e
    · rename_i y ey
      split at e
      · cases e
      · rename_i qs eq
        split at e
        · rename_i hz
          cases e
          obtain ⟨w, rfl, iw⟩ := isPs1 is
          obtain ⟨a, ws, rfl, h1, h2, h3⟩ := ownL_at c i (i := y.1) (ps := y.2) ey
          obtain ⟨b, us, rfl, h4, h5⟩ := lst_at c iw eq
          exact ⟨a, b, ws, us, rfl, rfl, h1, h4, by rw [← h2.len, ← h5.len]; exact sz_of hz, kk _ α W _ (Same.refl _) (Grow.refl _) (h3 _ _ (h2.append h5)) (isP_non.mpr rfl)⟩
        · cases e
  · cases e
/-- the first place -/
def idxV (y : V) : List V → Option Nat
  | [] => none
  | z :: zs => if eqV z y = true then some 0 else match idxV y zs with
    | none => none
    | some j => some (j + 1)
theorem idxV_spec {y : V} : ∀ {vs : List V} {j : Nat}, idxV y vs = some j → ∃ z, vs[j]? = some z ∧ eqV z y = true ∧ ∀ (m : Nat) z', m < j → vs[m]? = some z' → eqV z' y = false
  | [], j, h => by cases h
  | z :: zs, j, h => by
    unfold idxV at h
    split at h
    · rename_i hz
      cases h
      exact ⟨z, rfl, hz, fun m z' hm => by omega⟩
    · rename_i hz
      split at h
      · cases h
      · rename_i j' hj
        cases h
        obtain ⟨z1, h1, h2, h3⟩ := idxV_spec hj
        refine ⟨z1, by simpa using h1, h2, fun m z' hm he => ?_⟩
        cases m with
        | zero =>
          simp at he
          subst he
          simpa using hz
        | succ m => exact h3 m z' (by omega) (by simpa using he)
def gIndex (hp : List O) (p : PV) (as : List PV) : Option (PV × List O) := match as with
  | [q] => match flP q with
    | none => none
    | some y => match vseq hp p with
      | some (false, ps) => match flPs ps with
        | none => none
        | some vs => match idxV y vs with
          | none => none
          | some j => some (.fr (.int (j : Nat)), hp)
      | _ => none
  | _ => none
theorem g_index : GM G (rIndex G.b.K) gIndex := fun α W F H σ en hp p ps v vs z hp' Q c i is e kk => by
  unfold gIndex at e
  split at e
  · split at e
    · cases e
    · rename_i y ey
      split at e
      · rename_i qs eq
        split at e
        · cases e
        · rename_i us eu
          split at e
          · cases e
          · rename_i j ej
            cases e
            obtain ⟨w, rfl, iw⟩ := isPs1 is
            obtain ⟨rfl, f1⟩ := flP_at iw ey
            obtain ⟨a, ws, rfl, h1, h2⟩ := seq_at c i eq
            obtain ⟨rfl, f2⟩ := flPs_at h2 eu
            obtain ⟨z1, k1, k2, k3⟩ := idxV_spec ej
            exact ⟨a, _, _, j, z1, rfl, rfl, h1, f1, f2, k1, k2, k3, kk _ α W _ (Same.refl _) (Grow.refl _) c (isP_int.mpr rfl)⟩
      · cases e
  · cases e
/-- xs[i] = e -/
def zSet (xv xo xi : XE) : XS := fun en hp => xs en (xv en hp) fun q hp1 => xs en (xo en hp1) fun p hp2 => xs en (xi en hp2) fun r hp3 => match r with
  | .fr (.int n) => match ownL hp3 p with
    | none => none
    | some z => match ixN z.2.length n with
      | none => none
      | some j => some (.next en (hp3.set z.1 (mkL (z.2.set j q))))
  | _ => none
theorem ss_set (hv : SE G Ex tv xv) (ho : SE G Ex ta xo) (hi : SE G Ex tb xi) : SS G Ex (tAsg tv (L2.gSub ta tb rSetL)) (zSet xv xo xi) := fun α W F H σ en hp r D c e g =>
  hv.stm c e g fun q hp1 w β W1 H1 e1 s1 l1 c1 i1 => ho.stm c1 e1 (g.mono s1 l1) fun p hp2 v γ W2 H2 e2 s2 l2 c2 i2 => hi.stm c2 e2 ((g.mono s1 l1).mono s2 l2) fun u hp3 n δ W3 H3 e3 s3 l3 c3 i3 => by
    split at e3
    · rename_i m
      split at e3
      · cases e3
      · rename_i z ez
        split at e3
        · cases e3
        · rename_i j ej
          cases e3
          obtain ⟨a, ws, rfl, h1, h2, h3⟩ := ownL_at c3 (i2.mono s3 l3) (i := z.1) (ps := z.2) ez
          refine ⟨a, ws, m, j, rfl, isP_int.mp i3, h1, by rw [← h2.len]; exact ej, ?_⟩
          exact g δ W3 _ σ ((s1.trans s2).trans s3) ((l1.trans l2).trans l3) (h3 _ _ (h2.set j ((i1.mono s2 l2).mono s3 l3)))
    · cases e3

/-! ### dicts -/
def keyD : D → Option Key
  | .int n => some (.inl n)
  | .str x => some (.inr x)
  | _ => none
def keyL : List D → Option (List Key)
  | [] => some []
  | d :: ds => match keyD d with
    | none => none
    | some k => match keyL ds with
      | none => none
      | some ks => some (k :: ks)
theorem keyD_at {key : Key} (i : Is G.b W d v) (e : keyD d = some key) : v = kV key := by
  cases d <;> first | cases e | skip
  · exact is_int.mp i
  · exact is_str.mp i
theorem keyL_at : ∀ {ds : List D} {ks : List Key} {vs : List V}, IsL G.b W ds vs → keyL ds = some ks → vs = ks.map kV
  | [], ks, vs, h, e => by cases e; exact h.nil_inv
  | d :: ds, ks, vs, h, e => by
    unfold keyL at e
    split at e
    · cases e
    · rename_i k1 e1
      split at e
      · cases e
      · rename_i ks1 e2
        cases e
        obtain ⟨w, ws, rfl, h1, h2⟩ := h.uncons
        rw [keyD_at h1 e1, keyL_at h2 e2, List.map_cons]
/-- the entry at a key -/
def atK {κ : Type} [DecidableEq κ] : List (κ × D) → κ → Option D
  | [], _ => none
  | y :: r, k => if y.1 = k then some y.2 else atK r k
def putD {κ : Type} [DecidableEq κ] : List (κ × D) → κ → D → List (κ × D)
  | [], k, d => [(k, d)]
  | y :: r, k, d => if y.1 = k then (y.1, d) :: r else y :: putD r k d
def OptIs (b : Bs) (W : Hp) (r : Option V) : Option D → Prop
  | some d => ∃ v, r = some v ∧ Is b W d v
  | none => r = none
theorem valV_at {κ : Type} [DecidableEq κ] {k : κ} : ∀ {kvs : List (κ × D)} {vs : List V}, IsL G.b W (kvs.map (·.2)) vs → OptIs G.b W (valV ((kvs.map (·.1)).zip vs) k) (atK kvs k)
  | [], vs, h => by
    rw [h.nil_inv]
    rfl
  | y :: r, vs, h => by
    obtain ⟨w, ws, rfl, h1, h2⟩ := h.uncons
    rw [List.map_cons, List.zip_cons_cons]
    unfold atK
    by_cases q : y.1 = k
    · rw [if_pos q, valV_pos q]
      exact ⟨w, rfl, h1⟩
    · rw [if_neg q, valV_neg q]
      exact valV_at h2
/-- putK as one walks -/
def putV {κ : Type} [DecidableEq κ] : List (κ × V) → κ → V → List (κ × V)
  | [], k, d => [(k, d)]
  | y :: r, k, d => if y.1 = k then (y.1, d) :: r else y :: putV r k d
theorem map_id_of {κ : Type} [DecidableEq κ] {k : κ} {v : V} : ∀ {r : List (κ × V)}, k ∉ r.map (·.1) → r.map (fun kv => if kv.1 = k then (kv.1, v) else kv) = r
  | [], _ => rfl
  | y :: r, h => by
    rw [List.map_cons, if_neg (fun z => h (by rw [← z]; exact List.mem_cons_self)), map_id_of (fun z => h (List.mem_cons_of_mem _ z))]
theorem putV_eq {κ : Type} [DecidableEq κ] {k : κ} {v : V} : ∀ {r : List (κ × V)}, (r.map (·.1)).Nodup → putK r k v = putV r k v
  | [], _ => rfl
  | y :: r, hn => by
    rw [List.map_cons, List.nodup_cons] at hn
    have ih := putV_eq (k := k) (v := v) hn.2
    unfold putK at ih ⊢
    unfold putV
    by_cases q : y.1 = k
    · rw [if_pos q, if_pos (by rw [List.any_cons, decide_eq_true q, Bool.true_or]), List.map_cons, if_pos q, map_id_of (by rw [← q]; exact hn.1)]
    · rw [if_neg q, ← ih, List.any_cons, decide_eq_false q, Bool.false_or]
      split
      · rw [List.map_cons, if_neg q]
      · rfl
theorem putD_keys {κ : Type} [DecidableEq κ] {k : κ} : ∀ {r : List (κ × D)} {vs : List V} {v : V} {d : D}, IsL G.b W (r.map (·.2)) vs → Is G.b W d v → ∃ ws, putV ((r.map (·.1)).zip vs) k v = ((putD r k d).map (·.1)).zip ws ∧ IsL G.b W ((putD r k d).map (·.2)) ws
  | [], vs, v, d, h, hv => by
    rw [h.nil_inv]
    exact ⟨[v], rfl, IsL.one hv⟩
  | y :: r, vs, v, d, h, hv => by
    obtain ⟨w, ws, rfl, h1, h2⟩ := h.uncons
    rw [List.map_cons, List.zip_cons_cons]
    unfold putV putD
    by_cases q : y.1 = k
    · rw [if_pos q, if_pos q]
      exact ⟨v :: ws, rfl, IsL.cons hv h2⟩
    · rw [if_neg q, if_neg q]
      obtain ⟨us, e1, e2⟩ := putD_keys (k := k) h2 hv
      exact ⟨w :: us, by rw [e1]; rfl, IsL.cons h1 e2⟩
/-- a new dict; tk: its keys will be tuples -/
def tDNewA : TE := fun σ H Q => tDNewK σ H Q ∨ tDNewT σ H Q
theorem pe_dnewA {X : Cx} {pos : Pos} : PE X (.Dict [] [] pos) tDNewA := ⟨fun pins s σ H Q I h => by
  rcases h with h | h
  · exact pe_dnewK.run pins s σ H Q I h
  · exact pe_dnewT.run pins s σ H Q I h⟩
def xDNew (tk : Bool) : XE := fun _ hp => some (.ok (.rf hp.length) (hp ++ [if tk then .dT [] else .dK []]))
theorem se_dnew {tk : Bool} : SE G Ex tDNewA (xDNew tk) := fun α W F H σ en hp r Q c e g => by
  cases e
  cases tk with
  | true =>
    refine .inr fun a ha => ?_
    obtain ⟨c1, g1⟩ := c.new (o := .dT []) (ho := .dT []) ha rfl ⟨[], rfl, IsL.nil⟩
    exact g _ _ W _ (Same.refl _) g1 c1 ⟨a, by rw [← c.al, List.getElem?_append_right (Nat.le_refl _)]; simp, rfl⟩
  | false =>
    refine .inl fun a ha => ?_
    obtain ⟨c1, g1⟩ := c.new (o := .dK []) (ho := .dK []) ha rfl ⟨[], rfl, IsL.nil⟩
    exact g _ _ W _ (Same.refl _) g1 c1 ⟨a, by rw [← c.al, List.getElem?_append_right (Nat.le_refl _)]; simp, rfl⟩
/-- a dict as it is read: at a key -/
def dGo (q : PV) (o : O) : Option (Option D) := match o with
  | .dK kvs => match q with
    | .fr d => match keyD d with
      | none => none
      | some k => some (atK kvs k)
    | _ => none
  | .dT kvs => match q with
    | .fr (.tup ds) => match keyL ds with
      | none => none
      | some k => some (atK kvs k)
    | _ => none
  | _ => none
def dAt (hp : List O) (p q : PV) : Option (Option D) := match p with
  | .rf i => match hp[i]? with
    | none => none
    | some o => dGo q o
  | _ => none
theorem dAt_at {w : V} {z : Option D} (c : Cf G α W F H σ en hp) (ip : IsP G α W p v) (iq : IsP G α W q w) (e : dAt hp p q = some z) : ∃ a r, v = .ref a ∧ DGet H a w r ∧ OptIs G.b W r z := by
  cases p with
  | fr _ => cases e
  | ex _ _ _ => cases e
  | rf j =>
    replace e : (match hp[j]? with | none => none | some o => dGo q o) = some z := e
    obtain ⟨a, h1, rfl⟩ := ip
    split at e
    · cases e
    · rename_i o ho
      unfold dGo at e
      split at e
      · rename_i kvs
        obtain ⟨u, k1, ⟨vs, rfl, k3⟩, _, _⟩ := (ownAt_live rfl).mp (c.own _ _ a ho h1)
        split at e
        · rename_i d
          split at e
          · cases e
          · rename_i key ek
            cases e
            rw [keyD_at (isP_fr.mp iq) ek]
            refine ⟨a, _, rfl, DGet.k k1, ?_⟩
            exact valV_at (k := key) k3
        · cases e
      · rename_i kvs
        obtain ⟨u, k1, ⟨vs, rfl, k3⟩, _, _⟩ := (ownAt_live rfl).mp (c.own _ _ a ho h1)
        split at e
        · rename_i ds
          split at e
          · cases e
          · rename_i key ek
            cases e
            obtain ⟨b, us, rfl, h3, h4⟩ := is_tup.mp (isP_fr.mp iq)
            have h5 := keyL_at h4 ek
            subst h5
            refine ⟨a, _, rfl, DGet.t k1 (c.sW _ _ h3), ?_⟩
            exact valV_at (k := key) k3
        · cases e
      · cases e
def xDIn (neg : Bool) (xk xd : XE) : XE := fun en hp => xb (xk en hp) fun q hp1 => xb (xd en hp1) fun p hp2 => match dAt hp2 p q with
  | none => none
  | some z => some (.ok (.fr (.bl (if neg then !z.isSome else z.isSome))) hp2)
theorem se_din {xk xd : XE} (hk : SE G Ex ta xk) (hd : SE G Ex tb xd) : SE G Ex (tDIn ta tb) (xDIn false xk xd) := fun α W F H σ en hp r Q c e g =>
  hk.bind c e g.gx fun q hp1 w β W1 H1 e1 s1 l1 c1 i1 => hd.bind c1 e1 (g.mono s1 l1).gx fun p hp2 v γ W2 H2 e2 s2 l2 c2 i2 => by
    split at e2
    · cases e2
    · rename_i z ez
      cases e2
      obtain ⟨a, r, h1, h2, h3⟩ := dAt_at c2 i2 (i1.mono s2 l2) ez
      refine ⟨a, r, h1, h2, g _ γ W2 H2 (s1.trans s2) (l1.trans l2) c2 (isP_bl.mpr ?_)⟩
      cases z with
      | none => rw [show r = none from h3]; rfl
      | some d => obtain ⟨u, rfl, _⟩ := h3; rfl
theorem se_dnotin {xk xd : XE} (hk : SE G Ex ta xk) (hd : SE G Ex tb xd) : SE G Ex (tDNotIn ta tb) (xDIn true xk xd) := fun α W F H σ en hp r Q c e g =>
  hk.bind c e g.gx fun q hp1 w β W1 H1 e1 s1 l1 c1 i1 => hd.bind c1 e1 (g.mono s1 l1).gx fun p hp2 v γ W2 H2 e2 s2 l2 c2 i2 => by
    split at e2
    · cases e2
    · rename_i z ez
      cases e2
      obtain ⟨a, r, h1, h2, h3⟩ := dAt_at c2 i2 (i1.mono s2 l2) ez
      refine ⟨a, r, h1, h2, g _ γ W2 H2 (s1.trans s2) (l1.trans l2) c2 (isP_bl.mpr ?_)⟩
      cases z with
      | none => rw [show r = none from h3]; rfl
      | some d => obtain ⟨u, rfl, _⟩ := h3; rfl
def xDGet (xd xk : XE) : XE := fun en hp => xb (xd en hp) fun p hp1 => xb (xk en hp1) fun q hp2 => match dAt hp2 p q with
  | some (some d) => some (.ok (.fr d) hp2)
  | _ => none
theorem se_dget {xk xd : XE} (hd : SE G Ex ta xd) (hk : SE G Ex tb xk) : SE G Ex (tDGet ta tb) (xDGet xd xk) := fun α W F H σ en hp r Q c e g =>
  hd.bind c e g.gx fun p hp1 v β W1 H1 e1 s1 l1 c1 i1 => hk.bind c1 e1 (g.mono s1 l1).gx fun q hp2 w γ W2 H2 e2 s2 l2 c2 i2 => by
    split at e2
    · rename_i d ez
      cases e2
      obtain ⟨a, r, h1, h2, u, rfl, h3⟩ := dAt_at c2 (i1.mono s2 l2) i2 ez
      exact ⟨a, u, h1, h2, g _ γ W2 H2 (s1.trans s2) (l1.trans l2) c2 (isP_fr.mpr h3)⟩
    · cases e2
/-- the keys differ -/
def nodupK {κ : Type} [DecidableEq κ] (kvs : List (κ × D)) : Bool := decide (kvs.map (·.1)).Nodup
def dPut (hp : List O) (p q r : PV) : Option (List O) := match r with
  | .fr d => match p with
    | .rf i => match hp[i]? with
      | some (.dK kvs) => match q with
        | .fr e => match keyD e with
          | none => none
          | some k => if nodupK kvs && sz (kvs.length + 1) then some (hp.set i (.dK (putD kvs k d))) else none
        | _ => none
      | some (.dT kvs) => match q with
        | .fr (.tup es) => match keyL es with
          | none => none
          | some k => if nodupK kvs && sz (kvs.length + 1) then some (hp.set i (.dT (putD kvs k d))) else none
        | _ => none
      | _ => none
    | _ => none
  | _ => none
theorem zip_fst {κ : Type} : ∀ {ks : List κ} {vs : List V}, ks.length = vs.length → (ks.zip vs).map (·.1) = ks
  | [], vs, h => rfl
  | k :: ks, [], h => by simp at h
  | k :: ks, v :: vs, h => by rw [List.zip_cons_cons, List.map_cons, zip_fst (by simpa using h)]
theorem dPut_at {r : PV} {w u : V} (c : Cf G α W F H σ en hp) (ip : IsP G α W p v) (iq : IsP G α W q w) (ir : IsP G α W r u) (e : dPut hp p q r = some hp') : ∃ a H', v = .ref a ∧ DPut H a w u H' ∧ Cf G α W F H' σ en hp' := by
  unfold dPut at e
  split at e
  · rename_i d
    split at e
    · rename_i j
      obtain ⟨a, h1, rfl⟩ := ip
      split at e
      · rename_i kvs ho
        obtain ⟨ho', k1, ⟨vs, rfl, k3⟩, _, _⟩ := (ownAt_live rfl).mp (c.own _ _ a ho h1)
        split at e
        · rename_i e0
          split at e
          · cases e
          · rename_i key ek
            split at e
            · rename_i hz
              cases e
              rw [Bool.and_eq_true] at hz
              have hl : (kvs.map (·.1)).length = vs.length := by rw [List.length_map, ← k3.len, List.length_map]
              have hsz := sz_of hz.2
              have e1 := keyD_at (isP_fr.mp iq) ek
              subst e1
              obtain ⟨us, q1, q2⟩ := putD_keys (k := key) k3 (isP_fr.mp ir)
              have hn : (((kvs.map (·.1)).zip vs).map (·.1)).Nodup := by rw [zip_fst hl]; exact of_decide_eq_true hz.1
              refine ⟨a, _, rfl, DPut.k k1 (by rw [List.length_zip, ← hl, List.length_map]; omega), ?_⟩
              rw [putV_eq hn, q1]
              exact c.put ho rfl h1 rfl ⟨us, rfl, q2⟩
            · cases e
        · cases e
      · rename_i kvs ho
        obtain ⟨ho', k1, ⟨vs, rfl, k3⟩, _, _⟩ := (ownAt_live rfl).mp (c.own _ _ a ho h1)
        split at e
        · rename_i es
          split at e
          · cases e
          · rename_i key ek
            split at e
            · rename_i hz
              cases e
              rw [Bool.and_eq_true] at hz
              have hl : (kvs.map (·.1)).length = vs.length := by rw [List.length_map, ← k3.len, List.length_map]
              have hsz := sz_of hz.2
              obtain ⟨b, ws, rfl, h3, h4⟩ := is_tup.mp (isP_fr.mp iq)
              have h5 := keyL_at h4 ek
              subst h5
              obtain ⟨us, q1, q2⟩ := putD_keys (k := key) k3 (isP_fr.mp ir)
              have hn : (((kvs.map (·.1)).zip vs).map (·.1)).Nodup := by rw [zip_fst hl]; exact of_decide_eq_true hz.1
              refine ⟨a, _, rfl, DPut.t k1 (c.sW _ _ h3) (by rw [List.length_zip, ← hl, List.length_map]; omega), ?_⟩
              rw [putV_eq hn, q1]
              exact c.put ho rfl h1 rfl ⟨us, rfl, q2⟩
            · cases e
        · cases e
      · cases e
    · cases e
  · cases e
def zDPut (xd xk xv : XE) : XS := fun en hp => xs en (xv en hp) fun r hp1 => xs en (xd en hp1) fun p hp2 => xs en (xk en hp2) fun q hp3 => match dPut hp3 p q r with
  | none => none
  | some hp4 => some (.next en hp4)
theorem ss_dput {xd xk : XE} (hd : SE G Ex ta xd) (hk : SE G Ex tb xk) (hv : SE G Ex tv xv) : SS G Ex (sDPut ta tb tv) (zDPut xd xk xv) := fun α W F H σ en hp r D c e g =>
  hv.stm c e g fun r1 hp1 u β W1 H1 e1 s1 l1 c1 i1 => hd.stm c1 e1 (g.mono s1 l1) fun p hp2 v γ W2 H2 e2 s2 l2 c2 i2 => hk.stm c2 e2 ((g.mono s1 l1).mono s2 l2) fun q hp3 w δ W3 H3 e3 s3 l3 c3 i3 => by
    split at e3
    · cases e3
    · rename_i hp4 e4
      cases e3
      obtain ⟨a, H4, h1, h2, h3⟩ := dPut_at c3 (i2.mono s3 l3) i3 ((i1.mono s2 l2).mono s3 l3) e4
      exact ⟨a, H4, h1, h2, g δ W3 H4 σ ((s1.trans s2).trans s3) ((l1.trans l2).trans l3) h3⟩

/-! ### fields -/
/-- the class has plain instances, the name is no attribute of it -/
def FldOk (b : Bs) (L : List (Nat × Nat)) : Prop := ∀ e ∈ L, Cls b.K (b.cl e.1) ∧ NoAttr b.K (b.cl e.1) (b.nm e.2)
def fldP (ns : List Nat) (ps : List PV) (f : Nat) : Option PV := match ns, ps with
  | n :: ns, p :: ps => if n = f then some p else fldP ns ps f
  | _, _ => none
theorem fldP_at {f : Nat} {b : Bs} : ∀ {ns : List Nat} {ps : List PV} {vs : List V} {p : PV}, IsPs G α W ps vs → fldP ns ps f = some p → ∃ v, ((ns.map b.nm).zip vs).lookup (b.nm f) = some v ∧ IsP G α W p v
  | [], ps, vs, p, h, e => by unfold fldP at e; cases e
  | n :: ns, [], vs, p, h, e => by unfold fldP at e; cases e
  | n :: ns, q :: ps, vs, p, ⟨v, ws, h1, h2, h3⟩, e => by
    subst h1
    unfold fldP at e
    rw [List.map_cons, List.zip_cons_cons, List.lookup_cons]
    split at e
    · rename_i hn
      cases e
      subst hn
      exact ⟨v, by simp, h2⟩
    · rename_i hn
      have : (b.nm f == b.nm n) = false := by simpa using fun z => hn (b.inj _ _ z).symm
      rw [this]
      exact fldP_at h3 e
def xFld (L : List (Nat × Nat)) (f : Nat) (x : XE) : XE := fun en hp => xb (x en hp) fun p hp1 => match insOf hp1 p with
  | none => none
  | some z => if (z.1, f) ∈ L then match fldP z.2.1 z.2.2 f with
      | none => none
      | some r => some (.ok r hp1)
    else none
theorem se_fld {L : List (Nat × Nat)} {f : Nat} {fn : Str} (hL : FldOk G.b L) (hf : G.b.nm f = fn) (h : SE G Ex te x) : SE G Ex (tFld G.b.K te fn) (xFld L f x) := fun α W F H σ en hp r Q c e g => h.bind c e g.gx fun p hp1 v β W1 H1 e1 s1 l1 c1 i1 => by
  subst hf
  split at e1
  · cases e1
  · rename_i z ez
    split at e1
    · rename_i hm
      split at e1
      · cases e1
      · rename_i r er
        cases e1
        obtain ⟨a, dx, vs, rfl, h1, h2, h3⟩ := ins_at c1 i1 (C := z.1) (ns := z.2.1) (qs := z.2.2) ez
        obtain ⟨u, k1, k2⟩ := fldP_at (b := G.b) h3 er
        obtain ⟨k3, k4⟩ := hL _ hm
        exact ⟨a, _, dx, _, u, rfl, h1, k3, k4, k1, g u β W1 H1 s1 l1 c1 k2⟩
    · cases e1
/-- o.f = e: an instance of our own -/
def putFP (f : Nat) (q : PV) : List Nat → List PV → List Nat × List PV
  | n :: ns, p :: ps => if n = f then (n :: ns, q :: ps) else let z := putFP f q ns ps; (n :: z.1, p :: z.2)
  | _, _ => ([f], [q])
theorem putFP_at {f : Nat} {b : Bs} {q : PV} {w : V} (iq : IsP G α W q w) : ∀ {ns : List Nat} {ps : List PV} {vs : List V}, ns.length = vs.length → IsPs G α W ps vs → ∃ ws, putF (b.nm f) w ((ns.map b.nm).zip vs) = ((putFP f q ns ps).1.map b.nm).zip ws ∧ (putFP f q ns ps).1.length = ws.length ∧ IsPs G α W (putFP f q ns ps).2 ws
  | [], ps, vs, hl, h => by
    have : vs = [] := List.length_eq_zero_iff.mp hl.symm
    subst this
    exact ⟨[w], by cases ps <;> rfl, by cases ps <;> rfl, by cases ps <;> exact IsPs.cons iq IsPs.nil⟩
  | n :: ns, [], vs, hl, h => by rw [show vs = [] from h] at hl; simp at hl
  | n :: ns, p :: ps, vs, hl, ⟨v, ws, h1, h2, h3⟩ => by
    subst h1
    rw [List.map_cons, List.zip_cons_cons]
    unfold putF putFP
    by_cases e : n = f
    · rw [if_pos e, if_pos (by rw [e])]
      exact ⟨w :: ws, rfl, by simpa using hl, IsPs.cons iq h3⟩
    · rw [if_neg e, if_neg (fun z => e (b.inj _ _ z))]
      obtain ⟨us, k1, k2, k3⟩ := putFP_at (b := b) (f := f) iq (ns := ns) (by simpa using hl) h3
      exact ⟨v :: us, by rw [k1]; rfl, by simpa using k2, IsPs.cons h2 k3⟩
def zFld (L : List (Nat × Nat)) (f : Nat) (xo xv : XE) : XS := fun en hp => xs en (xv en hp) fun q hp1 => xs en (xo en hp1) fun p hp2 => match p with
  | .rf i => match hp2[i]? with
    | some (.ins C ns ps) => if (C, f) ∈ L then if decide (ns.length < 1000) then some (.next en (hp2.set i (.ins C (putFP f q ns ps).1 (putFP f q ns ps).2))) else none else none
    | _ => none
  | _ => none
theorem ss_fld {L : List (Nat × Nat)} {f : Nat} {fn : Str} (hL : FldOk G.b L) (hf : G.b.nm f = fn) (ho : SE G Ex ta xo) (hv : SE G Ex tv xv) : SS G Ex (sFld G.b.K ta tv fn) (zFld L f xo xv) := fun α W F H σ en hp r D c e g =>
  hv.stm c e g fun q hp1 w β W1 H1 e1 s1 l1 c1 i1 => ho.stm c1 e1 (g.mono s1 l1) fun p hp2 v γ W2 H2 e2 s2 l2 c2 i2 => by
    subst hf
    split at e2
    · rename_i j
      obtain ⟨a, h1, rfl⟩ := i2
      split at e2
      · rename_i C ns ps ho
        split at e2
        · rename_i hm
          split at e2
          · rename_i hz
            cases e2
            obtain ⟨ho', k1, ⟨dx, vs, rfl, k3, k4⟩, _, _⟩ := (ownAt_live rfl).mp (c2.own _ _ a ho h1)
            obtain ⟨ws, k5, k6, k7⟩ := putFP_at (b := G.b) (f := f) (i1.mono s2 l2) k3 k4
            obtain ⟨k8, k9⟩ := hL _ hm
            refine ⟨a, _, dx, _, rfl, k1, k8, k9, ?_, ?_⟩
            · have := of_decide_eq_true hz
              rw [List.length_zip, List.length_map, ← k3]
              omega
            · rw [k5]
              exact g γ W2 _ σ (s1.trans s2) (l1.trans l2) (c2.put ho rfl h1 rfl ⟨dx, ws, rfl, k6, k7⟩)
          · cases e2
        · cases e2
      · cases e2
    · cases e2
/-- a constant of a class -/
def xCon (C : Nat) (d : D) (x : XE) : XE := fun en hp => xb (x en hp) fun p hp1 => match p with
  | .fr (.cls C') => if C' = C then some (.ok (.fr d) hp1) else none
  | _ => none
theorem se_con {C : Nat} {d : D} {fn : Str} (hc : ∃ mc v u, ClX.CRead G.b.K (G.b.cl C) mc ∧ ClX.CVal G.b.K (G.b.cl C) mc fn v u ∧ ∀ W, Is G.b W d v) (h : SE G Ex te x) : SE G Ex (ClX.tCVal G.b.K te fn) (xCon C d x) := fun α W F H σ en hp r Q c e g => h.bind c e g.gx fun p hp1 v β W1 H1 e1 s1 l1 c1 i1 => by
  split at e1
  · rename_i C'
    split at e1
    · rename_i hC
      cases e1
      subst hC
      obtain ⟨mc, v', u, h1, h2, h3⟩ := hc
      exact ⟨_, mc, v', u, is_cls.mp (isP_fr.mp i1), h1, h2, g _ β W1 H1 s1 l1 c1 (isP_fr.mpr (h3 W1))⟩
    · cases e1
  · cases e1
end
end ML

namespace DL
open PySem L2 PySem.Spec PyProof.Rows
/-! ### a def that is called by its name; a method; a class -/
structure Cal (P : Program) (w : World) (K : PySem.W.Frag) (mg : Str → Option Value) (base : Heap) (CX : CXT) (k : Nat) (x : Str) (ps : List Str) (sp : Sp) : Prop where
  ex : ∃ f fd, mg x = some (.ref f) ∧ PySem.W.keepIn K (.ref f) = true ∧ Binds K fd ps [] ∧ FnOk P w K mg base CX k f fd ps sp
structure CalM (P : Program) (w : World) (K : PySem.W.Frag) (mg : Str → Option Value) (base : Heap) (CX : CXT) (k : Nat) (C : Addr) (m : Str) (ps : List Str) (sp : Sp) : Prop where
  ex : ∃ f fd, Cls K C ∧ Meth K C m f ∧ Binds K fd ps [] ∧ FnOk P w K mg base CX k f fd ps sp
structure CalC (P : Program) (w : World) (K : PySem.W.Frag) (mg : Str → Option Value) (base : Heap) (CX : CXT) (k : Nat) (x : Str) (C : Addr) (ps : List Str) (sp : Sp) : Prop where
  ex : ∃ f fd, mg x = some (.ref C) ∧ Mk K C f ∧ Binds K fd ps [] ∧ FnOk P w K mg base CX k f fd ps sp
section
variable {X : Cx} {CX : CXT} {k j : Nat} {C : Addr} {ps : List Str} {sp : Sp} {E : XK} {x m : Str} {p pos apos : Pos} {e o : Expr} {es : List Expr} {ta : TE} {t : TA}
theorem pe_cal (c : Cal X.prog X.w X.K X.mg X.base CX k x ps sp) (hr : Room j X.A) (hk : k ≤ j) (hx : Passes CX X E) (ha : PA X (e :: es) t) (hg : Gl X x := by rfl)
    (hdb : (x == ("__debug__" : Str)) = false := by decide) (he : starEach (e :: es) X.env = (false, eval e X.env) :: starEach es X.env := by rfl) (hpl : (backTo pos (starEach es X.env)).any (·.1) = false := by rfl) :
    PE X (.Call (.Name x p) (e :: es) [] pos) (tCall sp [] E t) := by
  obtain ⟨f, fd, h1, h2, h3, h4⟩ := c.ex
  exact pe_call h4 (hr.mono hk) hg h1 h2 h3 .nil hx ha hdb he hpl
theorem pe_cal0 (c : Cal X.prog X.w X.K X.mg X.base CX k x ps sp) (hr : Room j X.A) (hk : k ≤ j) (hx : Passes CX X E) (hg : Gl X x := by rfl) (hdb : (x == ("__debug__" : Str)) = false := by decide) :
    PE X (.Call (.Name x p) [] [] pos) (tCall sp [] E tNil) := by
  obtain ⟨f, fd, h1, h2, h3, h4⟩ := c.ex
  exact pe_call0 h4 (hr.mono hk) hg h1 h2 h3 .nil hx hdb
theorem pe_calM {pl : Sem Bool} (c : CalM X.prog X.w X.K X.mg X.base CX k C m ps sp) (hr : Room j X.A) (hk : k ≤ j) (hx : Passes CX X E) (ho : PE X o ta) (ha : PA X (e :: es) t)
    (hst : starEach (e :: es) X.env = (false, eval e X.env) :: starEach es X.env := by rfl) (hpl : (backTo pos (starEach es X.env)).any (·.1) = false := by rfl)
    (ht : eval (.Call (.Attribute o m apos) (e :: es) [] pos) X.env = (do
      let ov ← eval o X.env
      standAt apos.atName
      let (f, first) ← holding [ov] (getMethod ov m pl)
      callWith pos f first (backTo pos (starEach (e :: es) X.env)) (backToKw pos (keywordEach [] X.env))) := by rfl) :
    PE X (.Call (.Attribute o m apos) (e :: es) [] pos) (tMeth C m sp [] E ta t) := by
  obtain ⟨f, fd, h1, h2, h3, h4⟩ := c.ex
  exact pe_meth ho h1 h2 h4 (hr.mono hk) h3 .nil hx ha hst hpl ht
theorem pe_calM0 {pl : Sem Bool} (c : CalM X.prog X.w X.K X.mg X.base CX k C m ps sp) (hr : Room j X.A) (hk : k ≤ j) (hx : Passes CX X E) (ho : PE X o ta)
    (ht : eval (.Call (.Attribute o m apos) [] [] pos) X.env = (do
      let ov ← eval o X.env
      standAt apos.atName
      let (f, first) ← holding [ov] (getMethod ov m pl)
      callWith pos f first (backTo pos (starEach [] X.env)) (backToKw pos (keywordEach [] X.env))) := by rfl) :
    PE X (.Call (.Attribute o m apos) [] [] pos) (tMeth C m sp [] E ta tNil) := by
  obtain ⟨f, fd, h1, h2, h3, h4⟩ := c.ex
  exact pe_meth0 ho h1 h2 h4 (hr.mono hk) h3 .nil hx ht
theorem pe_calC (c : CalC X.prog X.w X.K X.mg X.base CX k x C ps sp) (hr : Room j X.A) (hk : k + 1 ≤ j) (hx : Passes CX X E) (ha : PA X (e :: es) t) (hg : Gl X x := by rfl)
    (hdb : (x == ("__debug__" : Str)) = false := by decide) (he : starEach (e :: es) X.env = (false, eval e X.env) :: starEach es X.env := by rfl) (hpl : (backTo pos (starEach es X.env)).any (·.1) = false := by rfl) :
    PE X (.Call (.Name x p) (e :: es) [] pos) (tMake C sp [] E t) := by
  obtain ⟨f, fd, h1, h2, h3, h4⟩ := c.ex
  exact pe_make h2 h4 (hr.mono hk) hg h1 h3 .nil hx ha hdb he hpl
end


end DL
namespace DL
open PySem L2 PySem.Spec PyProof.Rows
/-! ### the rules, the written part named (within a comprehension's block it cannot be found) -/
section
variable {X : Cx} {K : PySem.W.Frag} {e o a b : Expr} {es : List Expr} {te ta tb to tl : TE} {t : TA} {pos apos p : Pos} {f name : Str} {T id : String} {r : V → List V → Hp → VK → Prop}
theorem ix_seqK (K : PySem.W.Frag) (h : X.K = K) : IxR X (rIx K) := h ▸ ix_seq
theorem sl_listK (K : PySem.W.Frag) (h : X.K = K) : SlR X (rSlL K) := h ▸ sl_list
theorem sl_tupK (K : PySem.W.Frag) (h : X.K = K) : SlR X (rSlT K) := h ▸ sl_tup
theorem call_isiK' (K : PySem.W.Frag) (h : X.K = K) : CallR X (.builtin "isinstance") (rIsi K) := h ▸ call_isi
theorem op_inK (K : PySem.W.Frag) (h : X.K = K) : OpR X (compareOp .In) (rIn K false) := h ▸ op_in_seq
theorem op_notInK (K : PySem.W.Frag) (h : X.K = K) : OpR X (compareOp .NotIn) (rIn K true) := h ▸ op_notIn_seq
theorem mt_indexK (K : PySem.W.Frag) (h : X.K = K) : MtR X "list.index" (rIndex K) := h ▸ mt_index
theorem cr_sumK (K : PySem.W.Frag) (h : X.K = K) (hc : X.calm = true) : CallR X (.builtin "sum") (rSum K) := h ▸ cr_sum hc
theorem cr_minK (K : PySem.W.Frag) (h : X.K = K) (hc : X.calm = true) : CallR X (.builtin "min") (rMin K) := h ▸ cr_min hc
theorem cr_maxK (K : PySem.W.Frag) (h : X.K = K) (hc : X.calm = true) : CallR X (.builtin "max") (rMax K) := h ▸ cr_max hc
theorem cr_anyK (K : PySem.W.Frag) (h : X.K = K) (hc : X.calm = true) : CallR X (.builtin "any") (rAny K) := h ▸ cr_any hc
theorem cr_allK (K : PySem.W.Frag) (h : X.K = K) (hc : X.calm = true) : CallR X (.builtin "all") (rAll K) := h ▸ cr_all hc
theorem cr_sortedK (K : PySem.W.Frag) (h : X.K = K) : CallR X (.builtin "sorted") (rSorted K) := h ▸ cr_sorted
theorem pe_fldK (K : PySem.W.Frag) (h : X.K = K) (he : PE X e ta) (hb : attributeBase e f X.env (eval e X.env) = eval e X.env) : PE X (.Attribute e f pos) (tFld K ta f) := h ▸ pe_fld he hb
theorem ps_fldK {tv : TE} {value : Expr} {pos' : Pos} (K : PySem.W.Frag) (h : X.K = K) (ha : PE X o ta) (hv : PE X value tv) (hs : swapsWith value (some (.Attribute o f pos')) pos.line X.env = pure false) : PS X (.Assign [.Attribute o f pos'] value pos) (sFld K ta tv f) := h ▸ ps_fld ha hv hs
theorem pi_listK {tg : Expr} (K : PySem.W.Frag) (h : X.K = K) (hl : PE X e tl) : PI X tg e (iList K tl) := h ▸ pi_list hl
theorem pi_tupK {tg : Expr} (K : PySem.W.Frag) (h : X.K = K) (hl : PE X e tl) : PI X tg e (iTup K tl) := h ▸ pi_tup hl
theorem pi_enumK {elts : List Expr} {kk : Nat} {tpos : Pos} (K : PySem.W.Frag) (h : X.K = K) (hg : Gl X "enumerate") (hm : X.mg "enumerate" = none) (ha : PA X [e] t) (hs : starEach [e] X.env = [(false, eval e X.env)] := by rfl) : PI X (.Tuple elts kk tpos) (.Call (.Name "enumerate" p) [e] [] pos) (iEnum K t) := h ▸ pi_enum hg hm ha hs
theorem pg_tupK {tgs : TGs} {k n : Nat} (K : PySem.W.Frag) (h : X.K = K) (hc : X.calm = true) (hp : PGs X es tgs)
    (hn : (assignEach es X.env).length = n := by rfl) (hst : (assignEach es X.env).findIdx? (·.1) = none := by rfl) : PG X (.Tuple es k pos) (gTup K n tgs) := h ▸ pg_tup hc hp hn hst
theorem pe_bm0K (K : PySem.W.Frag) (h : X.K = K) (pa : PlainAttrs T) (slot : Slot T name id) (hty : typeOf (.builtin id) = pure (.type "method_descriptor")) (hm : MtR X id r) (ho : PE X o to)
    (hbase : attributeBase o name X.env (eval o X.env) = eval o X.env := by rfl) (hline : (apos.endLine == pos.line) = true := by rfl) : PE X (.Call (.Attribute o name apos) [] [] pos) (tBM0 K T r to) := h ▸ pe_bm0 pa slot hty hm ho hbase hline
theorem pe_bmK (K : PySem.W.Frag) (h : X.K = K) (pa : PlainAttrs T) (slot : Slot T name id) (hty : typeOf (.builtin id) = pure (.type "method_descriptor")) (hm : MtR X id r) (ho : PE X o to) (ha : PA X (e :: es) t)
    (hbase : attributeBase o name X.env (eval o X.env) = eval o X.env := by rfl)
    (hfew : ((backTo pos (starEach (e :: es) X.env)).all (fun x => !x.1) && (backToKw pos (keywordEach [] X.env)).all (fun x => x.1.isSome)
      && decide ((e :: es).length + ([] : List Keyword).length + (if ([] : List Keyword).isEmpty then 0 else 1) < 30)) = true := by rfl)
    (hline : (apos.endLine == pos.line) = true := by rfl) (hs : starEach (e :: es) X.env = (false, eval e X.env) :: starEach es X.env := by rfl) (hplain : (backTo pos (starEach es X.env)).any (·.1) = false := by rfl) :
    PE X (.Call (.Attribute o name apos) (e :: es) [] pos) (tBM K T r to t) := h ▸ pe_bm pa slot hty hm ho ha hbase hfew hline hs hplain
end
end DL

namespace DL
open PySem L2 PySem.Spec PyProof.Rows
/-! ### an exception class whose __init__ begins with super().__init__(text) -/
section
open PySem.W PySem.Calls
variable {prog : Program} {w : World} {A : Around} {E : Value → Shared → Prop} {h : Heap} {g : Array GenState} {d : Drawn} {t : Nat} {os : OsState}
variable {nm q : Str} {C N : Addr} {bs bm : List Value} {hdct : Bool} {sn : List Str} {sub : List Value} {ab : Bool} {col : Option Bool} {dd : Option Addr} {k0 k1 k2 k3 k5 : Option Value}
theorem call_mwV {u e t0 : Addr} {rest : List Value} {Q : Value → Shared → Prop}
    (hC : h.get? C = some (excClassObj nm q C N bs bm hdct sn sub ab col dd k0 k1 k2 k3 k5 "ValueError.__new__")) (he : h.get? e = some (HandSPX.excO C t0)) (hu : h.get? u = some (kxs_mw "ValueError.__init__" e)) (hrest : rest.length ≤ sizeLine)
    (hq : ∀ h' t1, (∀ b o, b ≠ e → h.get? b = some o → h'.get? b = some o) → h'.get? e = some (HandSPX.excO C t1) → Q .none ⟨h', g, d, t, os⟩) :
    wpAny (model prog w) A (call (.ref u) rest) Q E ⟨h, g, d, t, os⟩ := by
  refine wpAny_call (codeAny_of_tree ?_)
  show wpAny _ A.in1 (callAny (.ref u) ⟨rest, []⟩) _ _ _
  simp only [callAny]
  refine wpAny_bind (wpAny_load hu ?_)
  simp only [kxs_mw, show (Value.type "method-wrapper" == Value.type "method" || Value.type "method-wrapper" == Value.type "builtin_function_or_method" || Value.type "method-wrapper" == Value.type "method-wrapper") = true by decide, if_true]
  refine W.KFB.if_so (by decide) ?_
  refine wpAny_bind (ESX.check_bound F.excBase_ValueError hC he rfl ?_)
  refine wpAny_bind (wpAny_pure (wpAny_pure ?_))
  refine ⟨Code.quiet_builtin _ (by decide +kernel), codeAny_builtin F.excBase_ValueError.initEntry ?_⟩
  rw [Around.under_plainId F.excBase_ValueError.init.plain _]
  wp_walk
  refine hq _ h.objs.size (fun b o hb ho => ?_) ?_
  · rw [Heap.get?_update_other _ _ (Ne.symm hb)]
    exact Heap.get?_push_of_some _ ho
  · rw [Heap.get?_update_self _ (Heap.get?_push_of_some _ he) rfl]
    rfl
end
/-- what the written part says of the class at C and its __init__ at fI -/
structure XInit (prog : Program) (K : PySem.W.Frag) (mg : Str → Option Value) (C fI cc cda : Addr) (qual : Str) (params : Arguments) (body : List Stmt) (scope : Scope) (fd : FuncData) : Prop where
  oex : OexC K C
  iC : PySem.W.findIn K (.ref C) "__init__" = some (some (.ref fI))
  tI : PySem.W.typeIn K (.ref fI) = some (.type "function")
  code : ∃ (ccl : Value) (cdd : Option Addr) (vs : Array Value) (ccs : Array (Option Value)) (file : Str) (tf : Tok), K.lookup cda = some ⟨ccl, cdd, .fields vs, ccs⟩ ∧ vs[2]? = some (.str file tf) ∧ ((prog.main.file : Str) == file) = true
  cell : ∃ (cl : Value) (cld : Option Addr) (csl : Array (Option Value)), K.lookup cc = some ⟨cl, cld, .cell (some (.ref C)), csl⟩
  sub : PySem.W.mroIn K C (.ref C) = some true
  nsup : mg "super" = none
  tp : PySem.W.nsIn K PySem.cStatics "thirdparty.any" = some none
  sin : PySem.W.ks_superIn K C C "__init__" = some (some (.builtin "ValueError.__init__"))
  sVE : PySem.W.subIn K (.ref C) (.type "ValueError") = some true
  fn : ∃ (oc : Value) (od : Option Addr) (kV doc pm ct : Value) (an : Option Addr) (osl : Array (Option Value)), K.lookup fI = some ⟨oc, od, .func fd, osl⟩ ∧ fd = PySem.W.ksFn "__init__" qual params body scope .none kV doc pm an (.ref cda) ct cc
  cd : PySem.W.codeIn K (.ref cda) qual = true
  htop : (prog.main.scope.names.lookup ("super" : Str)).isSome = false
abbrev nfOf (qual : Str) (params : Arguments) (body : List Stmt) (scope : Scope) (cc cda : Addr) : NdefX.NF := ⟨"__init__", qual, params, body, scope, [("__class__", cc)], cda⟩
section
variable {CX : CXT} {P : Program} {w : World} {K : PySem.W.Frag} {mg : Str → Option Value} {base : Heap} {N ps : List Str} {qual : Str} {params : Arguments} {body : List Stmt} {scope : Scope} {fd : FuncData} {C fI cc cda : Addr}
/-- super().__init__(e, ..) as a statement: the exception's args are laid anew, nothing else -/
theorem super_stmt {A : Around} {outer : List Env} {s0 s : Shared} {H0 H : Hp} {E : XK} {σ : L2.St} {a : Addr} {p0 p1 p2 p3 p4 : Pos} {e : Expr} {es : List Expr} {ar : Arg} {ta : TA}
    (T : XInit P K mg C fI cc cda qual params body scope fd) (I : Inv (NdefX.ncx CX P w K mg base N (nfOf qual params body scope cc cda) fI A outer s0 H0 E) [] σ H s)
    (hN0 : N[0]? = some ar.arg) (hs0 : σ[0]? = some (some (.ref a))) (hp : (params.posonlyargs ++ params.args).head? = some ar)
    (hks : scope.names.lookup ("super" : Str) = some .globalImplicit) (hkc : scope.names.lookup ("__class__" : Str) = some .free) (hka : scope.names.lookup ar.arg = some .local) (hk : scope.kind = .function)
    (ha : PA (NdefX.ncx CX P w K mg base N (nfOf qual params body scope cc cda) fI A outer s0 H0 E) (e :: es) ta) (R : L2.St → Hp → Prop)
    (ht : ta σ H fun vs H1 => H1 a = some (exo a C none) ∧ vs.length ≤ 1000 ∧ R σ H1)
    (hr : H a = some (exo a C none))
    {Q : Flow → Shared → Prop} (k : ∀ H1 s1, Inv (NdefX.ncx CX P w K mg base N (nfOf qual params body scope cc cda) fI A outer s0 H0 E) [] σ H1 s1 → H1 a = some (exo a C none) → R σ H1 → Q .next s1)
    (he : starEach (e :: es) (NdefX.envF (nfOf qual params body scope cc cda) fI s0.heap.objs.size) = (false, eval e (NdefX.envF (nfOf qual params body scope cc cda) fI s0.heap.objs.size)) :: starEach es (NdefX.envF (nfOf qual params body scope cc cda) fI s0.heap.objs.size))
    (hpl : (backTo p3 (starEach es (NdefX.envF (nfOf qual params body scope cc cda) fI s0.heap.objs.size))).any (·.1) = false)
    (hint : interactive (NdefX.envF (nfOf qual params body scope cc cda) fI s0.heap.objs.size) = false)
    (hsw : swapsWith (.Call (.Attribute (.Call (.Name "super" p0) [] [] p1) "__init__" p2) (e :: es) [] p3) none p4.line (NdefX.envF (nfOf qual params body scope cc cda) fI s0.heap.objs.size) = pure false)
    {pl : Sem Bool} (hev : eval (.Call (.Attribute (.Call (.Name "super" p0) [] [] p1) "__init__" p2) (e :: es) [] p3) (NdefX.envF (nfOf qual params body scope cc cda) fI s0.heap.objs.size) = (do
      let ov ← attributeBase (.Call (.Name "super" p0) [] [] p1) "__init__" (NdefX.envF (nfOf qual params body scope cc cda) fI s0.heap.objs.size) (eval (.Call (.Name "super" p0) [] [] p1) (NdefX.envF (nfOf qual params body scope cc cda) fI s0.heap.objs.size))
      standAt p2.atName
      let (f, first) ← holding [ov] (getMethod ov "__init__" pl)
      callWith p3 f first (backTo p3 (starEach (e :: es) (NdefX.envF (nfOf qual params body scope cc cda) fI s0.heap.objs.size))) [])) :
    _root_.PySem.wpAt (model P w) (A.deeper (NdefX.envF (nfOf qual params body scope cc cda) fI s0.heap.objs.size)) (.func body (NdefX.envF (nfOf qual params body scope cc cda) fI s0.heap.objs.size))
      (exec (.Expr (.Call (.Attribute (.Call (.Name "super" p0) [] [] p1) "__init__" p2) (e :: es) [] p3) p4) (NdefX.envF (nfOf qual params body scope cc cda) fI s0.heap.objs.size)) Q
      (NdefX.ncx CX P w K mg base N (nfOf qual params body scope cc cda) fI A outer s0 H0 E).xe s := by
  obtain ⟨ccl, cdd, vs, ccs, file, tf, hcode, hvs, hfile⟩ := T.code
  obtain ⟨cl, cld, csl, hcell⟩ := T.cell
  obtain ⟨oc, od, kV, doc, pm, ct, an, osl, hfn, hfd⟩ := T.fn
  obtain ⟨nm, q, N', bs, bm, sn, sub, ab, col, dd, k0, k1, k2, k3, k5, hC, hbm⟩ := T.oex.cls
  have X : K.In s.heap := I.kIn
  obtain ⟨t1, hx⟩ := exo_at I.hok hr
  obtain ⟨m, hns, hl⟩ := id I.loc
  obtain ⟨us, rs, look⟩ := hl 0 ar.arg (.ref a) hN0 hs0 (.inl hka)
  obtain rfl : us = Value.ref a := rs
  have hm : m ar.arg = some (.ref a) := by
    rcases look with ⟨_, z⟩ | ⟨z, _⟩
    · exact z
    · have z' : scope.names.lookup ar.arg = some .cell ∨ scope.names.lookup ar.arg = some .free := z
      rw [hka] at z'
      rcases z' with z' | z' <;> cases z'
  obtain ⟨mb, hb1, hb2⟩ := I.mod.blt
  refine PySem.ks_wpAt_Expr_any ?_ hint hsw
  refine PySem.ks_wpAt_MethodCall (pl := pl) ?_ hev
  refine PySem.ks_wpAt_super_base (fd := fd) (ar := ar) (cc := cda) hks hkc (by decide +kernel) rfl (X _ _ hfn) rfl (by rw [hfd]; exact hp) rfl (X _ _ hcode) rfl hvs hfile T.htop ?_
  refine PySem.W.ks_loadName_global hk hks (Calls.loadGlobal_builtin (I.mod.glob.keeps I.bk) T.nsup (hb1.keeps I.bk) ((hb2 _ (by decide +kernel)).trans PyProof.Rows.Boot.«super») ⟨rfl, ?_⟩)
  refine wpAny_loadName_free hk hkc rfl ⟨_, X _ _ hcell, rfl⟩ ?_
  refine wpAny_loadName_local hk hka hns hm ?_
  refine PySem.ks_wpAny_isType_cls (X _ _ hC) rfl ⟨rfl, ?_⟩
  obtain ⟨hh, g, d, t, os⟩ := s
  refine PySem.ks_wpAny_call_super (X _ _ hC) rfl hx rfl (fun c z => by cases z) (PySem.W.looks_mroIn X T.sub) (fun h1 e1 kk1 => ?_)
  have I1 : Inv (NdefX.ncx CX P w K mg base N (nfOf qual params body scope cc cda) fI A outer s0 H0 E) [] σ H ⟨h1, g, d, t, os⟩ := I.kept (t' := t) kk1
  have X1 : K.In h1 := I1.kIn
  have J1 : PySem.W.InstAt h1 a (HandSPX.excO C t1) C none := ⟨kk1 _ _ hx, rfl, rfl, trivial⟩
  have hcl : PySem.W.clsIn K C = some { name := nm, bases := bs, mro := .ref C :: bm, ns := N', qualname := q, hasDict := true, slotNames := sn, subclasses := sub, abstract := ab, collection := col, hasDel := false } := by
    unfold PySem.W.clsIn; rw [hC] <;> rfl
  have hsin := T.sin
  unfold PySem.W.ks_superIn at hsin
  rw [hcl, Option.bind_some] at hsin
  refine PySem.W.kxs_getMethod (D := C) PySem.W.kxs_ValueError e1 (PySem.W.looks_opaque X1 T.tp) (l₀ := .ref C :: bm) (l := ((Value.ref C :: bm).dropWhile (· != .ref C)).drop 1) ?_ rfl X1 hsin (J1.type.andThen (PySem.W.looks_subIn X1 T.sVE)) ?_ (by decide +kernel) ?_
  · exact fun A Q E s k q => wpAny_bind ((PySem.W.looks_clsIn X1 hcl) A _ E s k (wpAny_pure q))
  · exact PySem.W.ks_ne X1 J1 hcl
  have I2 : Inv (NdefX.ncx CX P w K mg base N (nfOf qual params body scope cc cda) fI A outer s0 H0 E) ((h1.objs.size, PySem.W.kxs_mw "ValueError.__init__" a) :: []) σ H ⟨h1.push (PySem.W.kxs_mw "ValueError.__init__" a), g, d, t + 1, os⟩ :=
    ClX.pin_new (o := PySem.W.kxs_mw "ValueError.__init__" a) (a := h1.objs.size) (t' := t + 1) I1 (fun b u e => Heap.get?_push_of_some _ e) (Nat.le_refl _) (Heap.get?_push_at rfl rfl) (fun v z => by cases z)
  rw [he]
  refine PySem.W.kxs_callWith (i := "ValueError.__init__") (u := h1.objs.size) (x := a) (by show (false || (backTo p3 (starEach es _)).any (·.1)) = false; rw [hpl]; rfl) ?_
  have hA := ha.run p3 _ _ σ H _ I2 ht
  have hA' : wpAny _ _ (spliced (backTo p3 (starEach (e :: es) (NdefX.envF (nfOf qual params body scope cc cda) fI s0.heap.objs.size)))) _ _ _ := hA
  rw [he] at hA'
  refine Calls.evalArgs_plain (thn hA' fun us s2 hq => ?_)
  obtain ⟨vs2, H2, I3, r2, ea, hlen, hR⟩ := hq
  refine ⟨ClX.pin_at I3, ?_⟩
  have X3 : K.In s2.heap := I3.kIn
  have hu := ClX.pin_at I3
  obtain ⟨t2, hx2⟩ := exo_at I3.hok ea
  have I4 := ClX.unpin I3
  obtain ⟨hh2, g2, d2, tk2, os2⟩ := s2
  refine call_mwV (t0 := t2) (X3 _ _ hC) hx2 hu (by rw [List.nil_append, ← r2.length, sizeLine_eq]; omega) fun h' t3 kk hx3 => ?_
  have J := I4.write (t' := tk2) (x := a) (e := a) (o := exo a C none) (by rw [ea]; exact True.intro) (.inl rfl) kk ⟨_, hx3⟩ (exo_ok hx3)
  have eu : upd H2 a (exo a C none) = H2 := by
    funext b
    by_cases hb : b = a
    · rw [hb, upd_same, ea]
    · rw [upd_ne hb]
  rw [eu] at J
  exact k H2 _ J ea hR
/-- __init__: super().__init__(e, ..), then the rest -/
theorem xinit_ok {k : Nat} {sp : Sp} {p0 p1 p2 p3 p4 : Pos} {e : Expr} {es : List Expr} {rest : List Stmt} {ar : Arg} {C fI cc cda : Addr}
    (T : XInit P K mg C fI cc cda qual params (.Expr (.Call (.Attribute (.Call (.Name "super" p0) [] [] p1) "__init__" p2) (e :: es) [] p3) p4 :: rest) scope fd)
    (Sc : NdefX.NScope N ps ["__class__"] scope) (len : ∀ vs H Q E, sp vs H Q E → vs.length = ps.length) (hp : (params.posonlyargs ++ params.args).head? = some ar) (hN0 : N[0]? = some ar.arg) (hka : scope.names.lookup ar.arg = some .local)
    (hks : scope.names.lookup ("super" : Str) = some .globalImplicit)
    (hbody : ∀ (A : Around) (outer : List Env) (s : Shared) (H : Hp) (vs : List V) (Q : VK) (E : XK), Room k (A.deeper (NdefX.envF (nfOf qual params (.Expr (.Call (.Attribute (.Call (.Name "super" p0) [] [] p1) "__init__" p2) (e :: es) [] p3) p4 :: rest) scope cc cda) fI s.heap.objs.size)) → sp vs H Q E →
      ∃ (ta : TA) (t : TS) (a : Addr), PA (NdefX.ncx CX P w K mg base N (nfOf qual params (.Expr (.Call (.Attribute (.Call (.Name "super" p0) [] [] p1) "__init__" p2) (e :: es) [] p3) p4 :: rest) scope cc cda) fI A outer s H E) (e :: es) ta ∧
        PSs (NdefX.ncx CX P w K mg base N (nfOf qual params (.Expr (.Call (.Attribute (.Call (.Name "super" p0) [] [] p1) "__init__" p2) (e :: es) [] p3) p4 :: rest) scope cc cda) fI A outer s H E) rest t ∧ vs[0]? = some (.ref a) ∧ H a = some (exo a C none) ∧
        ta (NdefX.startF N vs [none]) H fun ws H1 => H1 a = some (exo a C none) ∧ ws.length ≤ 1000 ∧ t { nx := fun _ H' => Q .non H', rt := Q } (NdefX.startF N vs [none]) H1)
    (he : ∀ env : Env, starEach (e :: es) env = (false, eval e env) :: starEach es env := by intro _; rfl)
    (hpl : ∀ env : Env, (backTo p3 (starEach es env)).any (·.1) = false := by intro _; rfl)
    (hsw : ∀ L : Addr, swapsWith (.Call (.Attribute (.Call (.Name "super" p0) [] [] p1) "__init__" p2) (e :: es) [] p3) none p4.line (NdefX.envF (nfOf qual params (.Expr (.Call (.Attribute (.Call (.Name "super" p0) [] [] p1) "__init__" p2) (e :: es) [] p3) p4 :: rest) scope cc cda) fI L) = pure false := by intro _; rfl)
    {pl : Sem Bool} (hev : ∀ L : Addr, eval (.Call (.Attribute (.Call (.Name "super" p0) [] [] p1) "__init__" p2) (e :: es) [] p3) (NdefX.envF (nfOf qual params (.Expr (.Call (.Attribute (.Call (.Name "super" p0) [] [] p1) "__init__" p2) (e :: es) [] p3) p4 :: rest) scope cc cda) fI L) = (do
      let ov ← attributeBase (.Call (.Name "super" p0) [] [] p1) "__init__" (NdefX.envF (nfOf qual params (.Expr (.Call (.Attribute (.Call (.Name "super" p0) [] [] p1) "__init__" p2) (e :: es) [] p3) p4 :: rest) scope cc cda) fI L) (eval (.Call (.Name "super" p0) [] [] p1) (NdefX.envF (nfOf qual params (.Expr (.Call (.Attribute (.Call (.Name "super" p0) [] [] p1) "__init__" p2) (e :: es) [] p3) p4 :: rest) scope cc cda) fI L))
      standAt p2.atName
      let (f, first) ← holding [ov] (getMethod ov "__init__" pl)
      callWith p3 f first (backTo p3 (starEach (e :: es) (NdefX.envF (nfOf qual params (.Expr (.Call (.Attribute (.Call (.Name "super" p0) [] [] p1) "__init__" p2) (e :: es) [] p3) p4 :: rest) scope cc cda) fI L))) []) := by intro _; rfl) :
    FnOk P w K mg base CX (k + 1) fI fd ps sp := by
  refine ⟨len, fun A outer s H args us vs Q E hr e0 hb r hsp => ?_⟩
  have hl := len _ _ _ _ hsp
  obtain ⟨oc, od, kV, doc, pm, ct, an, osl, hfn, hfd⟩ := T.fn
  obtain ⟨cl, cld, csl, hcell⟩ := T.cell
  have KX : K.In s.heap := e0.mod.kin.keeps fun b o e => (e0.bs b o e).1
  have lim : s.heap.NoLimit := e0.mod.nolimit.keeps fun b o e => (e0.bs b o e).1
  have hcn : H cc = none := by
    have z := e0.mod.kin _ _ hcell
    exact (e0.bs cc _ z).2
  subst hfd
  refine PySem.ks_codeAny_call_defAt (binds := ps.zip us) hr.depth (KX _ _ hfn) rfl lim (PySem.W.codeRec_of KX T.cd) rfl hb Sc.nocell (fun ⟨n, _⟩ hy => Sc.par n (List.of_mem_zip hy).1) (fun h₀ hns kp => ?_) Sc.co Sc.gen Sc.kind
  obtain ⟨ta, t, a, pa, ps', hv0, ha, hq⟩ := hbody A outer s H vs Q E (hr.deeper _) hsp
  have CA : NdefX.CellsAt [(("__class__" : Str), cc)] ["__class__"] [none] s.heap H := by
    refine ⟨rfl, fun y c e => ?_, fun x y c e1 e2 => ?_, fun i y e => ?_⟩
    · have hc : c = cc := by
        rw [List.lookup_cons] at e
        split at e
        · exact (Option.some.inj e).symm
        · cases e
      subst hc
      exact ⟨hcn, some (.ref C), _, KX _ _ hcell, rfl⟩
    · have h1 : x = "__class__" := by
        rw [List.lookup_cons] at e1
        split at e1
        · rename_i q; simpa using q
        · cases e1
      have h2 : y = "__class__" := by
        rw [List.lookup_cons] at e2
        split at e2
        · rename_i q; simpa using q
        · cases e2
      rw [h1, h2]
    · cases i with
      | zero =>
        cases e
        exact ⟨cc, by rw [List.lookup_cons]; simp, fun v z => by cases z⟩
      | succ i => simp at e
  have I := NdefX.inv_startN (CX := CX) (E := E) (N := N) (F := nfOf qual params (.Expr (.Call (.Attribute (.Call (.Name "super" p0) [] [] p1) "__init__" p2) (e :: es) [] p3) p4 :: rest) scope cc cda) (f := fI) (h₁ := h₀) (tk := s.toks + (ps.zip us).length) Sc hr.hd e0 hl r CA hns kp
  have hs0 : (NdefX.startF N vs [none])[0]? = some (some (.ref a)) := by
    unfold NdefX.startF
    cases vs with
    | nil => simp at hv0
    | cons v vs => simp at hv0 ⊢; exact hv0
  refine PySem.ks_wpAt_execs_cons ?_
  refine super_stmt (CX := CX) (E := E) T I hN0 hs0 hp hks (Sc.frk _ List.mem_cons_self) hka Sc.kind pa (fun σ H1 => t { nx := fun _ H' => Q .non H', rt := Q } σ H1) hq ha (fun H1 s1 I1 ha1 hR => ?_) (he _) (hpl _) I.quiet (hsw _) (hev _)
  refine _root_.PySem.wpAt_of_wpAny (wpAny_mono (ps'.run [] s1 _ H1 _ I1 hR) (fun fl s' hs => ?_) fun e s' hs => hs)
  have fin : ∀ {σ' : L2.St} {H' : Hp} {v : V} {u : Value}, Inv (NdefX.ncx CX P w K mg base N (nfOf qual params (.Expr (.Call (.Attribute (.Call (.Name "super" p0) [] [] p1) "__init__" p2) (e :: es) [] p3) p4 :: rest) scope cc cda) fI A outer s H E) [] σ' H' s' → L2.RelV v u → Q v H' → CE outer P w H s Q u s' :=
    fun {σ' H' v u} J rv q => ⟨v, H', J.os, J.bare, J.base, J.hok, rv, q⟩
  cases fl with
  | ret u =>
    obtain ⟨v, σ', H', J, rv, q⟩ := hs
    exact fin J rv q
  | next =>
    obtain ⟨σ', H', J, q⟩ := hs
    exact fin (v := V.non) (u := Value.none) J rfl q
  | brk =>
    obtain ⟨_, _, _, q⟩ := hs
    exact False.elim q
  | cont =>
    obtain ⟨_, _, _, q⟩ := hs
    exact False.elim q
end
end DL

namespace DL
open PySem L2 PySem.Spec PyProof.Rows
/-! ### the texts of the errors -/
def GivesT (te : TE) (σ : L2.St) (H : Hp) : Prop := ∀ Q : VK, (∀ y : Str, Q (.str y) H) → te σ H Q
def GivesS (te : TE) (σ : L2.St) (H : Hp) : Prop := ∀ Q : VK, (∀ y : Str, y.length ≤ 20000 → Q (.str y) H) → te σ H Q
theorem gs_c {σ : L2.St} {H : Hp} {x : Str} (h : x.length ≤ 20000) : GivesS (tC (.str x)) σ H := fun Q k => k x h
def ArgOk : V → Prop
  | .int i => i.natAbs.log2 < 1920
  | .str x => x.length ≤ 20000
  | _ => False
theorem gs_fmt {σ : L2.St} {H : Hp} {i : Nat} {v : V} (h : σ[i]? = some (some v)) (a : ArgOk v) : GivesS (tFmt (tVar i)) σ H := fun Q k => by
  refine ⟨v, h, ?_⟩
  cases v with
  | int n => exact .inr ⟨n, rfl, a, k _ (by
      have e := int_text_length_le (k := 1920) (by decide) (show n.natAbs.log2 < 1920 from a)
      show (Str.ofString (toString n)).length ≤ 20000
      rw [PySem.ofString_length]
      omega)⟩
  | str x => exact .inl ⟨x, rfl, by rw [sizeLine_eq]; have : x.length ≤ 20000 := a; omega, k x a⟩
  | non => exact a.elim
  | bl _ => exact a.elim
  | byt _ => exact a.elim
  | flt _ => exact a.elim
  | ref _ => exact a.elim
  | ty _ => exact a.elim
theorem js_ok {σ : L2.St} {H : Hp} : ∀ {ts : List TE} {acc : Str} {Q : Str → Hp → Prop}, (∀ t ∈ ts, GivesS t σ H) → acc.length + ts.length * 20000 ≤ 16777216 → (∀ out, Q out H) → tJs ts acc σ H Q
  | [], acc, Q, _, _, k => k acc
  | t :: ts, acc, Q, h, hz, k => h t List.mem_cons_self _ fun y hy => ⟨y, rfl, by
      rw [Str.length_append, sizeLine_eq]
      simp only [List.length_cons] at hz
      omega, js_ok (fun t' ht => h t' (List.mem_cons_of_mem _ ht)) (by
      rw [Str.length_append]
      simp only [List.length_cons] at hz
      omega) k⟩
/-- what the __init__ of the class at C promises, its fields fs set from its arguments in this order -/
def spX (C : Addr) (fs : List Str) : Sp := fun vs H Q E => ∃ (a : Addr) (ws : List V), vs = .ref a :: ws ∧ ws.length = fs.length ∧ (∀ v ∈ ws, ArgOk v) ∧ H a = some (exo a C none) ∧
  ∀ (d : Addr) (H' : Hp), H d = none → d ≠ a → (∀ b o, H b = some o → b ≠ a → H' b = some o) → H' a = some (exo a C (some d)) → H' d = some (exd d (fs.zip ws).reverse) → Q .non H'
section
variable {CX : CXT} {P : Program} {w : World} {K : PySem.W.Frag} {mg : Str → Option Value} {base : Heap} {qual : Str} {params : Arguments} {scope : Scope} {fd : FuncData}
def SuperEv (p0 p1 p2 p3 : Pos) (e : Expr) (env : Env) (pl : Sem Bool) : Prop := eval (.Call (.Attribute (.Call (.Name "super" p0) [] [] p1) "__init__" p2) [e] [] p3) env = (do
      let ov ← attributeBase (.Call (.Name "super" p0) [] [] p1) "__init__" env (eval (.Call (.Name "super" p0) [] [] p1) env)
      standAt p2.atName
      let (f, first) ← holding [ov] (getMethod ov "__init__" pl)
      callWith p3 f first (backTo p3 (starEach [e] env)) [])
/-- one argument, kept as the field f -/
theorem xi1 {f : Str} {p0 p1 p2 p3 p4 q1 q2 q3 q4 : Pos} {e : Expr} {te : TE} {ar : Arg} {C fI cc cda : Addr}
    (T : XInit P K mg C fI cc cda qual params [.Expr (.Call (.Attribute (.Call (.Name "super" p0) [] [] p1) "__init__" p2) [e] [] p3) p4, .Assign [.Attribute (.Name "self" q1) f q2] (.Name f q3) q4] scope fd)
    (Sc : NdefX.NScope ["self", f, "__class__"] ["self", f] ["__class__"] scope) (hp : (params.posonlyargs ++ params.args).head? = some ar) (har : ar.arg = "self") (hks : scope.names.lookup ("super" : Str) = some .globalImplicit)
    (hf : PySem.W.findIn K (.ref C) f = some none) (hdb : (f == ("__debug__" : Str)) = false) (hcd : (f == ("__classdict__" : Str)) = false)
    (hm : ∀ (A : Around) (outer : List Env) (s : Shared) (H : Hp) (E : XK), PE (NdefX.ncx CX P w K mg base ["self", f, "__class__"] (nfOf qual params [.Expr (.Call (.Attribute (.Call (.Name "super" p0) [] [] p1) "__init__" p2) [e] [] p3) p4, .Assign [.Attribute (.Name "self" q1) f q2] (.Name f q3) q4] scope cc cda) fI A outer s H E) e te)
    (hg : ∀ (σ : L2.St) (H : Hp) (v : V), σ[1]? = some (some v) → ArgOk v → GivesT te σ H) (hst : ∀ env : Env, starEach [e] env = (false, eval e env) :: starEach [] env := by intro _; rfl) {pl : Sem Bool} (hev : ∀ L : Addr, SuperEv p0 p1 p2 p3 e (NdefX.envF (nfOf qual params [.Expr (.Call (.Attribute (.Call (.Name "super" p0) [] [] p1) "__init__" p2) [e] [] p3) p4, .Assign [.Attribute (.Name "self" q1) f q2] (.Name f q3) q4] scope cc cda) fI L) pl := by intro _; rfl) : FnOk P w K mg base CX 1 fI fd ["self", f] (spX C [f]) := by
  refine xinit_ok (ar := ar) T Sc (fun vs H Q E h => ?_) hp (by rw [har]; rfl) (by rw [har]; exact Sc.par _ (by simp)) hks (fun A outer s H vs Q E hr h => ?_) hst (hev := hev)
  · obtain ⟨a, ws, rfl, h, _⟩ := h
    simp [h]
  · obtain ⟨a, ws, rfl, hl, ho, ha, k⟩ := h
    obtain ⟨v, rfl⟩ : ∃ v, ws = [v] := by
      match ws, hl with
      | [v], _ => exact ⟨v, rfl⟩
    refine ⟨_, _, a, pa_cons (hm A outer s H E) pa_nil (hst _), pss_one (ps_ost (pv 0 rfl (.inl (Sc.par "self" (by simp))) (by decide) (by decide)) (pv 1 rfl (.inl (Sc.par f (by simp))) hdb hcd)), rfl, ha, ?_⟩
    refine hg _ H v rfl (ho v (by simp)) _ fun y => ⟨ha, (by show 1 ≤ 1000; decide), ?_⟩
    refine ⟨v, rfl, .ref a, rfl, a, C, rfl, T.oex, hf, .inl ⟨ha, fun dx hdx hne => ?_⟩⟩
    refine k dx _ hdx hne (fun b o e hb => ?_) upd_same (by rw [upd_ne hne, upd_same]; rfl)
    rw [upd_ne hb, upd_ne (ne_of_none e hdx)]
    exact e
/-- two arguments -/
theorem xi2 {f f2 : Str} {p0 p1 p2 p3 p4 q1 q2 q3 q4 r1 r2 r3 r4 : Pos} {e : Expr} {te : TE} {ar : Arg} {C fI cc cda : Addr}
    (T : XInit P K mg C fI cc cda qual params [.Expr (.Call (.Attribute (.Call (.Name "super" p0) [] [] p1) "__init__" p2) [e] [] p3) p4, .Assign [.Attribute (.Name "self" q1) f q2] (.Name f q3) q4, .Assign [.Attribute (.Name "self" r1) f2 r2] (.Name f2 r3) r4] scope fd)
    (Sc : NdefX.NScope ["self", f, f2, "__class__"] ["self", f, f2] ["__class__"] scope) (hp : (params.posonlyargs ++ params.args).head? = some ar) (har : ar.arg = "self") (hks : scope.names.lookup ("super" : Str) = some .globalImplicit)
    (hf : PySem.W.findIn K (.ref C) f = some none) (hf2 : PySem.W.findIn K (.ref C) f2 = some none) (hdb : (f == ("__debug__" : Str)) = false) (hcd : (f == ("__classdict__" : Str)) = false) (hdb2 : (f2 == ("__debug__" : Str)) = false) (hcd2 : (f2 == ("__classdict__" : Str)) = false)
    (hm : ∀ (A : Around) (outer : List Env) (s : Shared) (H : Hp) (E : XK), PE (NdefX.ncx CX P w K mg base ["self", f, f2, "__class__"] (nfOf qual params [.Expr (.Call (.Attribute (.Call (.Name "super" p0) [] [] p1) "__init__" p2) [e] [] p3) p4, .Assign [.Attribute (.Name "self" q1) f q2] (.Name f q3) q4, .Assign [.Attribute (.Name "self" r1) f2 r2] (.Name f2 r3) r4] scope cc cda) fI A outer s H E) e te)
    (hg : ∀ (σ : L2.St) (H : Hp) (v v2 : V), σ[1]? = some (some v) → σ[2]? = some (some v2) → ArgOk v → ArgOk v2 → GivesT te σ H) (hst : ∀ env : Env, starEach [e] env = (false, eval e env) :: starEach [] env := by intro _; rfl) {pl : Sem Bool} (hev : ∀ L : Addr, SuperEv p0 p1 p2 p3 e (NdefX.envF (nfOf qual params [.Expr (.Call (.Attribute (.Call (.Name "super" p0) [] [] p1) "__init__" p2) [e] [] p3) p4, .Assign [.Attribute (.Name "self" q1) f q2] (.Name f q3) q4, .Assign [.Attribute (.Name "self" r1) f2 r2] (.Name f2 r3) r4] scope cc cda) fI L) pl := by intro _; rfl) : FnOk P w K mg base CX 1 fI fd ["self", f, f2] (spX C [f, f2]) := by
  refine xinit_ok (ar := ar) T Sc (fun vs H Q E h => ?_) hp (by rw [har]; rfl) (by rw [har]; exact Sc.par _ (by simp)) hks (fun A outer s H vs Q E hr h => ?_) hst (hev := hev)
  · obtain ⟨a, ws, rfl, h, _⟩ := h
    simp [h]
  · obtain ⟨a, ws, rfl, hl, ho, ha, k⟩ := h
    obtain ⟨v, v2, rfl⟩ : ∃ v v2, ws = [v, v2] := by
      match ws, hl with
      | [v, v2], _ => exact ⟨v, v2, rfl⟩
    refine ⟨_, _, a, pa_cons (hm A outer s H E) pa_nil (hst _), pss_cons (ps_ost (pv 0 rfl (.inl (Sc.par "self" (by simp))) (by decide) (by decide)) (pv 1 rfl (.inl (Sc.par f (by simp))) hdb hcd))
      (pss_one (ps_ost (pv 0 rfl (.inl (Sc.par "self" (by simp))) (by decide) (by decide)) (pv 2 rfl (.inl (Sc.par f2 (by simp))) hdb2 hcd2))), rfl, ha, ?_⟩
    refine hg _ H v v2 rfl rfl (ho v (by simp)) (ho v2 (by simp)) _ fun y => ⟨ha, (by show 1 ≤ 1000; decide), ?_⟩
    refine ⟨v, rfl, .ref a, rfl, a, C, rfl, T.oex, hf, .inl ⟨ha, fun dx hdx hne => ?_⟩⟩
    refine ⟨v2, rfl, .ref a, rfl, a, C, rfl, T.oex, hf2, .inr ⟨dx, _, upd_same, by rw [upd_ne hne, upd_same], (by show 1 ≤ 900; decide), ?_⟩⟩
    refine k dx _ hdx hne (fun b o e hb => ?_) (by rw [upd_ne (Ne.symm hne), upd_same]) (by rw [upd_same]; rfl)
    rw [upd_ne (ne_of_none e hdx), upd_ne hb, upd_ne (ne_of_none e hdx)]
    exact e
end
/-- the class x at C, to be raised -/
structure XCal (P : Program) (w : World) (K : PySem.W.Frag) (mg : Str → Option Value) (base : Heap) (x : Str) (C : Addr) (fs : List Str) : Prop where
  ex : ∃ fI fd, mg x = some (.ref C) ∧ OexC K C ∧ PySem.W.findIn K (.ref C) "__init__" = some (some (.ref fI)) ∧ PySem.W.typeIn K (.ref fI) = some (.type "function") ∧ Binds K fd ("self" :: fs) [] ∧ FnOk P w K mg base CX0 1 fI fd ("self" :: fs) (spX C fs)
theorem pmk_x {X : Cx} {x : Str} {C : Addr} {fs : List Str} {j : Nat} {p pos : Pos} {e : Expr} {es : List Expr} {ta : TA} (c : XCal X.prog X.w X.K X.mg X.base x C fs) (hr : Room j X.A) (hk : 2 ≤ j) (ha : PA X (e :: es) ta) (hg : Gl X x := by rfl)
    (hdb : (x == ("__debug__" : Str)) = false := by decide) (he : starEach (e :: es) X.env = (false, eval e X.env) :: starEach es X.env := by rfl) (hpl : (backTo pos (starEach es X.env)).any (·.1) = false := by rfl) :
    PMk X (.Call (.Name x p) (e :: es) [] pos) (tMkO C (spX C fs) [] ta) := by
  obtain ⟨fI, fd, h1, h2, h3, h4, h5, h6⟩ := c.ex
  exact pmk_oex h2 h3 h4 h6 (hr.mono hk) h5 .nil pass0 hg h1 ha hdb he hpl
variable {G : Ct}
end DL

namespace DL
open PySem L2 PySem.Spec PyProof.Rows
/-! ### is True, is False -/
def rIsC : R2 := fun x y H Q => ∃ b : Bool, y = .bl b ∧ Q (.bl (decide (x = .bl b))) H
theorem op_isCA {X : Cx} : OpR X (compareOp .Is) rIsC := by
  intro pins s σ H x y v u Q I rx ry h
  obtain ⟨b, rfl, q⟩ := h
  cases (show u = Value.bool b from ry)
  cases x with
  | bl a =>
    cases (show v = Value.bool a from rx)
    by_cases e : a = b
    · subst e
      exact wpAny_is_self rfl ⟨.bl true, H, I, rfl, by simpa using q⟩
    · exact wpAny_is_other rfl (fun z => e (Value.bool.inj z)) ⟨.bl false, H, I, rfl, by simpa [e] using q⟩
  | non => cases rx; exact wpAny_is_other rfl (fun z => by cases z) ⟨.bl false, H, I, rfl, by simpa using q⟩
  | int i => obtain ⟨t, rfl⟩ := rx; exact wpAny_is_other rfl (fun z => by cases z) ⟨.bl false, H, I, rfl, by simpa using q⟩
  | str i => obtain ⟨t, rfl⟩ := rx; exact wpAny_is_other rfl (fun z => by cases z) ⟨.bl false, H, I, rfl, by simpa using q⟩
  | byt i => obtain ⟨t, rfl⟩ := rx; exact wpAny_is_other rfl (fun z => by cases z) ⟨.bl false, H, I, rfl, by simpa using q⟩
  | flt i => obtain ⟨t, rfl⟩ := rx; exact wpAny_is_other rfl (fun z => by cases z) ⟨.bl false, H, I, rfl, by simpa using q⟩
  | ref i => cases rx; exact wpAny_is_other rfl (fun z => by cases z) ⟨.bl false, H, I, rfl, by simpa using q⟩
  | ty i => cases rx; exact wpAny_is_other rfl (fun z => by cases z) ⟨.bl false, H, I, rfl, by simpa using q⟩
/-! ### own == and != -/
theorem looks_ty {X : Cx} {pins : List (Addr × Obj)} {σ : L2.St} {H : Hp} {s : Shared} {x : V} {u t : Value} (I : Inv X pins σ H s) (rx : RelV x u) (ty : TyOf X.K H x t) (M : Model) : PySem.W.Looks M s.heap (typeOf u) t := by
  have ref : ∀ {a : Addr} {o : Obj}, s.heap.get? a = some o → PySem.W.Looks M s.heap (typeOf (.ref a)) o.cls := fun {a o} ho A Q E s' k q => wpAny_typeOf_ref (k _ _ ho) q
  cases ty with
  | non => cases (show u = Value.none from rx); exact PySem.W.Looks.of_pure rfl
  | bl y => cases (show u = Value.bool y from rx); exact PySem.W.Looks.of_pure rfl
  | int i => obtain ⟨t, q⟩ := (show ∃ t, u = Value.int i t from rx); cases q; exact PySem.W.Looks.of_pure rfl
  | str i => obtain ⟨t, q⟩ := (show ∃ t, u = Value.str i t from rx); cases q; exact PySem.W.Looks.of_pure rfl
  | flt i => obtain ⟨t, q⟩ := (show ∃ t, u = Value.float i t from rx); cases q; exact PySem.W.Looks.of_pure rfl
  | @lst a xs ea =>
    cases (show u = Value.ref a from rx)
    obtain ⟨_, _, n, _, h1⟩ := (show ObjOk X.prog X.w H s.heap a (.lst xs) from I.hok a _ ea)
    exact ref h1
  | @frz a ob xs ea =>
    cases (show u = Value.ref a from rx)
    obtain ⟨_, _, _, n, _, h1⟩ := (show ObjOk X.prog X.w H s.heap a (.frz ob (.lst xs)) from I.hok a _ ea)
    exact ref h1
  | @tup a xs ea =>
    cases (show u = Value.ref a from rx)
    obtain ⟨_, _, _, p⟩ := (show ObjOk X.prog X.w H s.heap a (.tup xs) from I.hok a _ ea)
    obtain ⟨o, h1, h2, _⟩ := p
    rw [← h2]
    exact ref h1
  | @dK a kvs ea =>
    cases (show u = Value.ref a from rx)
    obtain ⟨_, _, vs, _, p⟩ := (show ObjOk X.prog X.w H s.heap a (.dK kvs) from I.hok a _ ea)
    obtain ⟨o, es, ep, h1, h2, _⟩ := p
    rw [← h2.1]
    exact ref h1
  | @dT a kvs ea =>
    cases (show u = Value.ref a from rx)
    obtain ⟨_, _, xs, _, o, es, ep, h1, h2, _⟩ := (show ObjOk X.prog X.w H s.heap a (.dT kvs) from I.hok a _ ea)
    rw [← h2.1]
    exact ref h1
  | @ins a C dx fs ea cl ha hn htk hm =>
    cases (show u = Value.ref a from rx)
    obtain ⟨mA, O, _⟩ := ins_get I.hok ea
    obtain ⟨od, J, _⟩ := O.look
    exact J.type
theorem looks_tyX {X : Cx} {pins : List (Addr × Obj)} {σ : L2.St} {H : Hp} {s : Shared} {x : V} {u t : Value} (I : Inv X pins σ H s) (rx : RelV x u) (ty : TyX X.K H x t) (M : Model) : PySem.W.Looks M s.heap (typeOf u) t := by
  obtain ⟨P, Z, p, _⟩ := kit_of I rx ty
  exact Z.ty M s.heap I.kIn p
/-- the class C has its own == at f -/
structure OwnEq (K : PySem.W.Frag) (C f : Addr) : Prop where
  eq : PySem.W.findIn K (.ref C) "__eq__" = some (some (.ref f))
  ne : PySem.W.findIn K (.ref C) "__ne__" = some (some (.builtin "object.__ne__"))
  fn : PySem.W.isFn K (.ref f) = true
  ob : PySem.W.mroIn K C (.type "object") = some true
def rOEq (K : PySem.W.Frag) (C : Addr) (sp : Sp) (E : XK) (neg : Bool) : R2 := fun x y H Q => ∃ a dx fs t, x = .ref a ∧ H a = some (.ins C dx fs) ∧ TyX K H y t ∧ PySem.W.notFirst K C t = true ∧ sp [x, y] H (fun v H' => ∃ b : Bool, v = .bl b ∧ Q (.bl (if neg then !b else b)) H') E
section
variable {X : Cx} {CX : CXT} {n j : Nat} {C f : Addr} {fd : FuncData} {ps : List Str} {sp : Sp} {E : XK}
theorem run_at {A : Around} {pins : List (Addr × Obj)} {σ : L2.St} {H : Hp} {s : Shared} {us : List Value} {vs : List V} {Q : VK} {Q' : Value → Shared → Prop} (F : FnOk X.prog X.w X.K X.mg X.base CX n f fd ps sp) (hb : Binds X.K fd ps []) (hx : Passes CX X E) (hr : Room n A) (hf : A.frames = X.A.frames)
    (I : Inv X pins σ H s) (r : Vals vs us) (h : sp vs H Q E) (k : ∀ v s', EP X pins σ Q v s' → Q' v s') : wpAny (model X.prog X.w) A (call (.ref f) us) Q' X.xe s := by
  have e0 : Env0 X.prog X.w X.K X.mg X.base A X.stack s H := by
    have e := I.env0
    exact ⟨by rw [hf]; exact e.frames, e.mod, e.bs, e.bsz, e.funs, e.frf, e.hok, e.bare⟩
  have hl := F.len _ _ _ _ h
  refine wpAny_call (codeAny_mono (F.run A X.stack s H ⟨us, []⟩ us vs _ E hr e0 (by
    have := hb s us I.kIn (by rw [List.append_nil, ← r.length]; exact hl)
    simpa using this) r h) fun res s' hq => ?_)
  cases res with
  | error e => exact hx pins σ H s e s' I hq
  | ok fl =>
    cases fl with
    | ret w => exact k w s' (I.after hq)
    | next => exact False.elim hq
    | brk => exact False.elim hq
    | cont => exact False.elim hq
theorem op_eqO (o : OwnEq X.K C f) (F : FnOk X.prog X.w X.K X.mg X.base CX n f fd ps sp) (hb : Binds X.K fd ps []) (hx : Passes CX X E) (hr : Room j X.A) (hk : n ≤ j) : OpR X (compareOp .Eq) (rOEq X.K C sp E false) := by
  intro pins s σ H x y v u Q I rx ry h
  obtain ⟨a, dx, fs, t, rfl, ha, ty, nf, hsp⟩ := h
  obtain rfl : v = Value.ref a := rx
  obtain ⟨mA, J, _⟩ := ins_get I.hok ha
  obtain ⟨od, J, _⟩ := J.look
  obtain ⟨m, hF⟩ := I.fr
  show wpAny (model X.prog X.w) X.A (richCompare .Eq (.ref a) u) (EP X pins σ Q) X.xe s
  refine PySem.W.cmp_K (op := .Eq) (tb := t) hr.units0 hF I.ok.mod.kin J (looks_tyX I ry ty _) nf o.eq o.fn ?_
  refine run_at F hb hx (hr.mono hk) rfl I (.cons (show L2.RelV (.ref a) (Value.ref a) from rfl) (.cons ry .nil)) hsp fun w s' ⟨z, H', I', rz, b, ez, q⟩ => ?_
  subst ez
  cases rz
  exact ⟨.bl b, H', I', rfl, q⟩
theorem op_neO (o : OwnEq X.K C f) (F : FnOk X.prog X.w X.K X.mg X.base CX n f fd ps sp) (hb : Binds X.K fd ps []) (hx : Passes CX X E) (hr : Room (j + 1) X.A) (hk : n ≤ j) : OpR X (compareOp .NotEq) (rOEq X.K C sp E true) := by
  intro pins s σ H x y v u Q I rx ry h
  obtain ⟨a, dx, fs, t, rfl, ha, ty, nf, hsp⟩ := h
  obtain rfl : v = Value.ref a := rx
  obtain ⟨mA, J, _⟩ := ins_get I.hok ha
  obtain ⟨od, J, _⟩ := J.look
  have XK : X.K.In s.heap := I.kIn
  have hc : ∀ {Q' : Value → Shared → Prop}, (∀ b s', EP X pins σ Q (.bool (!b)) s' → Q' (.bool b) s') → wpAny (model X.prog X.w) X.A.in1 (call (.ref f) [.ref a, u]) Q' X.xe s := fun {Q'} kk => by
    refine run_at F hb hx (hr.in1.mono hk) rfl I (.cons (show L2.RelV (.ref a) (Value.ref a) from rfl) (.cons ry .nil)) hsp fun w s' ⟨z, H', I', rz, b, ez, q⟩ => ?_
    subst ez
    cases rz
    exact kk b s' ⟨.bl (!b), H', I', rfl, q⟩
  have entry : ∀ {Q' : Fin → Shared → Prop}, (∀ b s', EP X pins σ Q (.bool (!b)) s' → Q' (.done (.ret (.bool (!b)))) s') → wpAny (model X.prog X.w) X.A.in1 (Builtin.«object.__ne__» ⟨[.ref a, u], []⟩) Q' X.xe s := fun {Q'} kk => by
    unfold Builtin.«object.__ne__»
    repeat (first
      | with_reducible refine wpAny_cRoomFor hr.in1.units0 ?_
      | (refine wpAny_bind (m := callSpecialIfBound? (.ref a) (Str.ofString "__eq__") [u])
          (PySem.W.ifBound_K XK J o.eq o.fn (hc fun b s' hq => by
            have hq := kk b s' hq
            repeat (first | exact hq | exact wpAny_pure hq | exact wpAny_truthy_bool hq | (refine wpAny_bind (m := truthy (.bool _)) (wpAny_truthy_bool ?_)) | wp_step))))
      | wp_step)
  have one : wpAny (model X.prog X.w) X.A (tryCompare (.ref a) "__ne__" u) (fun r s' => ∃ b, r = some (.bool (!b)) ∧ EP X pins σ Q (.bool (!b)) s') X.xe s := by
    unfold tryCompare
    have call_ne : wpAny (model X.prog X.w) X.A (call (.builtin "object.__ne__") [.ref a, u]) (fun v s' => ∃ b, v = .bool (!b) ∧ EP X pins σ Q (.bool (!b)) s') X.xe s :=
      wpAny_call (codeAny_call_builtin PySem.F.cmp_object.ne.plain PySem.F.cmpEntry_ne (PySem.W.check_slot PySem.F.cmpKind_ne PySem.F.cmpSplit_ne (J.type.andThen (PySem.W.looks_mroIn XK o.ob)) (PySem.F.cmpArgs_ne _ _) (entry fun b s' q => ⟨b, rfl, q⟩)))
    have bound : ∀ {Q' : Option Value → Shared → Prop}, (∀ v s', (∃ b, v = .bool (!b) ∧ EP X pins σ Q (.bool (!b)) s') → Q' (some v) s') → wpAny (model X.prog X.w) X.A (callSpecialIfBound? (.ref a) "__ne__" [u]) Q' X.xe s := fun {Q'} kk => by
      simp only [callSpecialIfBound?, bindSpecialIfBound?]
      refine wpAny_holding (wpAny_bind (wpAny_bind (wpAny_bind (J.type.here ((PySem.W.looks_findIn XK o.ne).here ?_)))))
      refine wpAny_bind (wpAny_askSetting (wpAny_ite ?_))
      have fin : wpAny (model X.prog X.w) X.A (call (.builtin "object.__ne__") ([.ref a] ++ [u]) >>= fun v => pure (some v)) Q' X.xe s := wpAny_bind (wpAny_mono call_ne (fun v s' h' => wpAny_pure (kk v s' h')) fun _ _ h' => h')
      split
      · exact wpAny_bind (wpAny_of_eq (PySem.F.cmp_object.ne.bind _) (wpAny_pure (by exact fin)))
      · exact wpAny_tryCatch (wpAny_bind (wpAny_of_eq (PySem.F.cmp_object.ne.bind _) (wpAny_pure (by exact fin))))
    refine wpAny_bind (bound fun v s' ⟨b, ev, q⟩ => ?_)
    subst ev
    first
      | exact wpAny_pure ⟨b, rfl, q⟩
      | exact wpAny_pure (wpAny_pure ⟨b, rfl, q⟩)
  show wpAny (model X.prog X.w) X.A (richCompare .NotEq (.ref a) u) (EP X pins σ Q) X.xe s
  unfold richCompare
  simp only [oneThing_ref]
  refine wpAny_holding (wpAny_bind (wpAny_cRoomFor hr.units0 ?_))
  rw [cmpInfo_NotEq]
  dsimp only
  refine wpAny_bind (J.type.here (wpAny_bind ((looks_tyX I ry ty _).here ?_)))
  split
  · rename_i q
    have e : PySem.W.subIn X.K t (.ref C) = some false := by
      rcases Bool.or_eq_true_iff.mp nf with e | e
      · rw [beq_iff_eq.mp e] at q; simp at q
      · exact beq_iff_eq.mp e
    refine wpAny_bind ((PySem.W.looks_subIn XK e).here ?_)
    simp only [Bool.false_eq_true, if_false]
    refine wpAny_bind (wpAny_mono one (fun r s' z => ?_) fun _ _ e => e)
    obtain ⟨b, rfl, hq⟩ := z
    exact wpAny_pure hq
  · refine wpAny_bind (wpAny_pure ?_)
    simp only [Bool.false_eq_true, if_false]
    refine wpAny_bind (wpAny_mono one (fun r s' z => ?_) fun _ _ e => e)
    obtain ⟨b, rfl, hq⟩ := z
    exact wpAny_pure hq
/-- len of an instance that has a __len__ -/
def rOLen (C : Addr) (sp : Sp) (E : XK) : List V → Hp → VK → Prop := fun xs H Q => ∃ a dx fs, xs = [.ref a] ∧ H a = some (.ins C dx fs) ∧ sp [.ref a] H (fun v H' => ∃ m : Int, v = .int m ∧ (0 ≤ m ∧ m < 2 ^ 62) ∧ Q (.int m) H') E
theorem call_lenO (hs : PySem.W.findIn X.K (.ref C) "__len__" = some (some (.ref f))) (hf : PySem.W.isFn X.K (.ref f) = true) (F : FnOk X.prog X.w X.K X.mg X.base CX n f fd ps sp) (hb : Binds X.K fd ps []) (hx : Passes CX X E) (hr : Room (j + 1) X.A) (hk : n ≤ j) :
    CallR X (.builtin "len") (rOLen C sp E) := by
  intro pins s σ H vs us Q I r h
  obtain ⟨a, dx, fs, rfl, ha, hsp⟩ := h
  obtain ⟨u, rfl, ru⟩ := vals1 r
  obtain rfl : u = Value.ref a := ru
  obtain ⟨mA, J, _⟩ := ins_get I.hok ha
  obtain ⟨od, J, _⟩ := J.look
  obtain ⟨m, hF⟩ := I.fr
  refine PySem.W.len_K hF I.ok.mod.kin J hs hf (run_at F hb hx (hr.in1.mono hk) rfl I (.cons (show L2.RelV (.ref a) (Value.ref a) from rfl) .nil) hsp fun w s' ⟨z, H', I', rz, m, ez, hm, q⟩ => ?_)
  subst ez
  obtain ⟨t, rfl⟩ := rz
  refine ⟨?_, ?_⟩
  · exact ⟨hm.1, by omega⟩
  · first
      | exact ⟨.int m, H', I'.tok _, ⟨_, rfl⟩, q⟩
      | exact ⟨.int m, H', I', ⟨_, rfl⟩, q⟩
end
end DL

namespace DL
open PySem L2 PySem.Spec PyProof.Rows
/-! ### try with several clauses, each with a name or without -/
def inS (i : Option Nat) (a : Addr) (σ : L2.St) : L2.St := match i with
  | none => σ
  | some j => σ.set j (some (.ref a))
def outE (i : Option Nat) (D : Ends) : Ends := match i with
  | none => D
  | some j => { nx := fun τ T => D.nx (τ.set j none) T, rt := D.rt, bk := fun τ T => D.bk (τ.set j none) T, ct := fun τ T => D.ct (τ.set j none) T }
abbrev Clause := Option Nat × Value × (Addr → Value → Option Addr → TS)
def wCl (K : PySem.W.Frag) (Wo : WX) (D : Ends) : List Clause → WX
  | [] => Wo
  | q :: r => fun cls d σ H => ∃ b, PySem.W.exmOne K cls q.2.1 = some b ∧ (b = true → ∀ a, H a = none → q.2.2 a cls d (outE q.1 D) (inS q.1 a σ) H) ∧ (b = false → wCl K Wo D r cls d σ H)
inductive ClOk (X : Cx) : List ExceptHandler → List Clause → Prop
  | nil : ClOk X [] []
  | bare {x : Str} {c : Value} {t : Addr → Value → Option Addr → TS} {s0 : Stmt} {ss : List Stmt} {p1 p2 : Pos} {es : List ExceptHandler} {l : List Clause} (hc : Names X x c)
      (hsu : ∀ (a : Addr) (oe : Obj) (cls : Value) (d : Option Addr) (pn : List (Addr × Obj)), Zc cls d oe → (∃ vs, oe.data = .fields vs) → PSs (X.suite a ((a, oe) :: pn)) (s0 :: ss) (t a cls d)) (r : ClOk X es l) : ClOk X (.ExceptHandler (some (.Name x p1)) none (s0 :: ss) p2 :: es) ((none, c, t) :: l)
  | named {x n : Str} {i : Nat} {c : Value} {t : Addr → Value → Option Addr → TS} {s0 : Stmt} {ss : List Stmt} {p1 p2 : Pos} {es : List ExceptHandler} {l : List Clause} (hi : X.N[i]? = some n) (hn : X.env.kindOf n = some .local) (hc : Names X x c)
      (hsu : ∀ (a : Addr) (oe : Obj) (cls : Value) (d : Option Addr) (pn : List (Addr × Obj)), Zc cls d oe → (∃ vs, oe.data = .fields vs) → PSs (X.suite a ((a, oe) :: pn)) (s0 :: ss) (t a cls d)) (r : ClOk X es l) : ClOk X (.ExceptHandler (some (.Name x p1)) (some n) (s0 :: ss) p2 :: es) ((some i, c, t) :: l)
section
variable {X : Cx} {bd : List Stmt} {e0 : ExceptHandler} {es : List ExceptHandler} {l : List Clause} {pos : Pos} {tb : WX → TS} {Wo : WX}
theorem ps_tryC (st : X.stack = X.env :: X.outer) (fl : X.env.frame = some X.env.locals) (nd : X.N.Nodup) (tk : Takes X Wo)
    (hb : ∀ (W : WX) (pn : List (Addr × Obj)) (xe : Value → Shared → Prop), Takes (X.tr pn xe) W → PassesOwn (model X.prog X.w) X.A X.env xe → PSs (X.tr pn xe) bd (tb W))
    (hh : ClOk X (e0 :: es) l) : PS X (.Try bd (e0 :: es) [] [] pos) (fun D σ H => tb (wCl X.K Wo D l) D σ H) := by
  refine ⟨fun pins s σ H D I h => ?_⟩
  have kk := I.ok
  have fz : X.A.frames = some (X.env :: X.outer) := by rw [kk.frames, st]
  refine wpAny_Try_except (wpAny_mono ((hb (wCl X.K Wo D l) (X.pn ++ pins) (fun e z1 => wpAny (model X.prog X.w) X.A (noteFrame e X.env) (fun _ z2 => wpAny (model X.prog X.w) X.A (setFlight e none) (fun _ z3 =>
    wpAny (model X.prog X.w) X.A (handleBy e X.env (e0 :: es)) (SP X pins D) X.xe z3) X.xe z2) X.xe z1) (fun u t xx => ?_) PassesOwn.looking).run [] s σ H D (I.toTry _) h) (fun f t1 hsp => ?_) (fun e t1 he => he))
  · obtain ⟨a, B, sI, pi, τ, T, cls, d, rfl, J', nb, up, sky, na, os, ag, w⟩ := xx
    have J : Inv X pins τ T sI := J'.ofTry kk
    have sk : Sky B (X.env :: X.outer) a (Zc cls d) X.env.locals t.heap := by rw [← st]; exact sky
    show wpAny _ X.A (noteFrame (.ref a) X.env) _ _ _
    refine Sky.land Zc.steady fz fl sk fun h3 f3 up3 => ?_
    have J3 : Inv X pins τ T { t with heap := h3 } := J.landed nb f3.1 (up.trans up3) os ag
    obtain ⟨o3, v3, he3, hz3, hd3⟩ := f3.there
    have nfr : a ∉ L2.frs (X.env :: X.outer) := fun hm => by
      obtain ⟨_, o', e', hnf⟩ := f3.2.2.1.mem hm
      rw [he3] at e'
      cases e'
      exact hnf _ hd3
    have nL : a ≠ X.env.locals := fun z => nfr (List.mem_filterMap.mpr ⟨X.env, List.mem_cons_self, by rw [fl, z]⟩)
    have nF : a ∉ X.fs := fun hm => by
      obtain ⟨e, he, q⟩ := List.mem_filterMap.mp hm
      exact nfr (List.mem_filterMap.mpr ⟨e, List.mem_cons_of_mem _ he, q⟩)
    have S3 := J3.suite he3 hd3 na nL nF
    have LT : PySem.W.Looks (model X.prog X.w) h3 (typeOf (.ref a)) cls := fun A Q E z k q => wpAny_typeOf_ref (k _ _ he3) (by rw [hz3.1]; exact q)
    have nameOf : ∀ {x : Str} {c : Value} {np : Pos} {Q E : Value → Shared → Prop}, Names X x c → Q c { t with heap := h3 } → wpAny (model X.prog X.w) (X.A.mark (some (.ref a))) (eval (.Name x np) X.env) Q E { t with heap := h3 } := fun {x c np Q E} hc q => by
      obtain ⟨hg, hdb, hm | ⟨hm, hv, hnn⟩⟩ := hc
      · exact ld_glob (X := X.suite a ((a, o3) :: (X.pn ++ pins))) S3 hg hm q hdb
      · exact ld_blt (X := X.suite a ((a, o3) :: (X.pn ++ pins))) S3 hg hm hv q hnn hdb
    have go : ∀ {es' : List ExceptHandler} {l' : List Clause}, ClOk X es' l' → wCl X.K Wo D l' cls d τ T →
        wpAny (model X.prog X.w) X.A (handleBy (.ref a) X.env es') (SP X pins D) X.xe { t with heap := h3 } := by
      intro es' l' hk
      induction hk with
      | nil =>
        intro w
        refine wpAny_handleBy_nil ?_
        obtain ⟨k1, k2, k3, oe, vs, T', oT, ts', he, hz, hd, h1, hr⟩ := id f3
        unfold PySem.passOn
        refine wpAny_bind (wpAny_field he hd h1 ?_)
        rw [if_neg (show ¬ ((Value.ref T' == Value.none) = true) by simp)]
        have fin : wpAny (model X.prog X.w) X.A (setFlight (.ref a) X.env.frame) (fun _ z4 => wpAny (model X.prog X.w) X.A (throw (.ref a) : Sem Flow) (SP X pins D) X.xe z4) X.xe { t with heap := h3 } := by
          rw [fl]
          refine HandSPX.setFlight_upZ f3 fun h4 hh4 up4 => wpAny_throw (tk _ _ ?_)
          exact ⟨a, B, sI, pins, τ, T, cls, d, rfl, J, nb, (up.trans up3).trans up4, .inr (.inr (by rw [st]; exact hh4)), na, os, ag, w⟩
        first
          | exact wpAny_bind (wpAny_pure (wpAny_bind fin))
          | exact wpAny_bind fin
      | @bare x c ts s0 ss p1 p2 es2 l2 hc hsu r ih =>
        intro w
        obtain ⟨b, hb1, hyes, hno⟩ := w
        refine wpAny_handleBy_cons (codeAny_handlers_test ?_) (by intro q; cases q)
        refine nameOf hc ((PySem.W.exm_one (M := model X.prog X.w) J3.kIn LT hb1).here ?_)
        cases b with
        | true =>
          refine codeAny_handlers_suite (HandSPX.lands_againZ f3 fun h4 f4 up4 => ?_)
          have J4 : Inv X pins τ T { t with heap := h4 } := J.landed nb f4.1 ((up.trans up3).trans up4) os ag
          obtain ⟨o4, v4, he4, hz4, hd4⟩ := f4.there
          refine wpAny_mono ((hsu a o4 cls d (X.pn ++ pins) hz4 ⟨_, hd4⟩).run [] _ _ T _ (J4.suite he4 hd4 na nL nF) (hyes rfl a na)) (fun f z6 hsp => ?_) (fun _ _ z => False.elim z)
          cases f with
          | next => obtain ⟨σ6, H6, S6, q6⟩ := hsp; exact ⟨_, _, S6.unsuite kk, q6⟩
          | brk => obtain ⟨σ6, H6, S6, q6⟩ := hsp; exact ⟨_, _, S6.unsuite kk, q6⟩
          | cont => obtain ⟨σ6, H6, S6, q6⟩ := hsp; exact ⟨_, _, S6.unsuite kk, q6⟩
          | ret u => obtain ⟨v6, σ6, H6, S6, r6, q6⟩ := hsp; exact ⟨_, _, _, S6.unsuite kk, r6, q6⟩
        | false =>
          show wpAny _ X.A (handleBy (.ref a) X.env es2) _ _ _
          exact ih (hno rfl)
      | @named x n i c ts s0 ss p1 p2 es2 l2 hi hln hc hsu r ih =>
        intro w
        obtain ⟨b, hb1, hyes, hno⟩ := w
        refine wpAny_handleBy_cons (codeAny_handlers_test ?_) (by intro q; cases q)
        refine nameOf hc ((PySem.W.exm_one (M := model X.prog X.w) J3.kIn LT hb1).here ?_)
        cases b with
        | true =>
          refine codeAny_handlers_suite_as (HandSPX.lands_againZ f3 fun h4 f4 up4 => ?_)
          have J4 : Inv X pins τ T { t with heap := h4 } := J.landed nb f4.1 ((up.trans up3).trans up4) os ag
          obtain ⟨o4, v4, he4, hz4, hd4⟩ := f4.there
          refine store_ok (X := X.suite a ((a, o4) :: (X.pn ++ pins))) (v := .ref a) (J4.suite he4 hd4 na nL nF) nd hi (.inl hln) rfl (fun z5 S5 => ?_) (.inr hln)
          refine wpAny_mono ((hsu a o4 cls d (X.pn ++ pins) hz4 ⟨_, hd4⟩).run [] z5 _ T _ S5 (hyes rfl a na)) (fun f z6 hsp => ?_) (fun _ _ z => False.elim z)
          have fin : ∀ {τ6 : L2.St} {T6 : Hp} {Q : Shared → Prop}, Inv (X.suite a ((a, o4) :: (X.pn ++ pins))) [] τ6 T6 z6 → (∀ z7, Inv X pins (τ6.set i none) T6 z7 → Q z7) →
              wpAny (model X.prog X.w) X.A (do bindName X.env n .none; unbindBehindTheSuite X.env n p2) (fun _ z7 => Q z7) X.xe z6 := fun {τ6 T6 Q} S6 hq => gone_ok (S6.unsuite kk) nd hi hln hq
          cases f with
          | next => obtain ⟨σ6, H6, S6, q6⟩ := hsp; exact fin S6 fun s7 J7 => ⟨_, _, J7, q6⟩
          | brk => obtain ⟨σ6, H6, S6, q6⟩ := hsp; exact fin S6 fun s7 J7 => ⟨_, _, J7, q6⟩
          | cont => obtain ⟨σ6, H6, S6, q6⟩ := hsp; exact fin S6 fun s7 J7 => ⟨_, _, J7, q6⟩
          | ret u => obtain ⟨v6, σ6, H6, S6, r6, q6⟩ := hsp; exact fin S6 fun s7 J7 => ⟨_, _, _, J7, r6, q6⟩
        | false =>
          show wpAny _ X.A (handleBy (.ref a) X.env es2) _ _ _
          exact ih (hno rfl)
    exact go hh w
  · cases f with
    | next => obtain ⟨τ, T, J', q⟩ := hsp; exact wpAny_execs_nil ⟨τ, T, J'.ofTry kk, q⟩
    | brk => obtain ⟨τ, T, J', q⟩ := hsp; exact ⟨τ, T, J'.ofTry kk, q⟩
    | cont => obtain ⟨τ, T, J', q⟩ := hsp; exact ⟨τ, T, J'.ofTry kk, q⟩
    | ret u => obtain ⟨v, τ, T, J', r, q⟩ := hsp; exact ⟨v, τ, T, J'.ofTry kk, r, q⟩
end
/-- the slots are as many as the names -/
theorem takes_len {X : Cx} {W : WX} (tk : Takes X W) : Takes X (fun cls d σ H => σ.length = X.N.length → W cls d σ H) := fun e s x => by
  obtain ⟨a, B, sI, pins, τ, T, cls, d, r1, J, r2, r3, r4, r5, r6, r7, w⟩ := x
  exact tk _ _ ⟨a, B, sI, pins, τ, T, cls, d, r1, J, r2, r3, r4, r5, r6, r7, w J.len⟩
/-! ### the caught error asked -/
/-- isinstance(e, c), e the caught error of the class C with the dict d -/
def rIsX (K : PySem.W.Frag) (C a : Addr) (cls : Value) (d : Option Addr) : List V → Hp → VK → Prop := fun xs H Q => ∃ (dd : Addr) (fs : List (Str × V)) (c : V) (cv : Value) (b : Bool), cls = .ref C ∧ d = some dd ∧ H dd = some (.xd fs) ∧ xs = [.ref a, c] ∧ ClsV c cv ∧ PySem.W.kitOne K (.ref C) cv = some b ∧ Q (.bl b) H
structure XIs (K : PySem.W.Frag) (C : Addr) : Prop where
  k0 : (PySem.W.clsIn K C).isSome = true
  k1 : PySem.W.findIn K (.ref C) "__getattribute__" = some (some (.builtin "BaseException.__getattribute__"))
  k2 : PySem.W.findIn K (.ref C) "__getattr__" = some none
  k3 : PySem.W.subIn K (.ref C) (.type "BaseException") = some true
  k4 : PySem.W.findIn K (.ref C) "__class__" = some (some (.builtin "object.__class__"))
  k5 : PySem.W.specialIn K (.builtin "object.__class__") "__get__" = some (some (.builtin "getset_descriptor.__get__"))
  k6 : PySem.W.takesIn K (.builtin "object.__class__") = some true
  k7 : PySem.W.mroIn K C (.type "object") = some true
theorem call_isX {X : Cx} {a C : Addr} {oe : Obj} {cls : Value} {d : Option Addr} {pn : List (Addr × Obj)} (T : XIs X.K C) (hz : Zc cls d oe) (hf : ∃ vs, oe.data = .fields vs) : CallR (X.suite a ((a, oe) :: pn)) (.builtin "isinstance") (rIsX X.K C a cls d) := by
  intro pins s σ H xs us Q I r h
  obtain ⟨dd, fs, c, cv, b, ec, ed, ea, rfl, kc, e, q⟩ := h
  subst ec ed
  obtain ⟨u1, u2, rfl, r1, r2⟩ := vals2 r
  obtain rfl : u1 = Value.ref a := r1
  have e2 := kc.eq r2
  subst e2
  obtain ⟨ha, _⟩ := I.pin (a, oe) (List.mem_append_left _ List.mem_cons_self)
  obtain ⟨vs, hd⟩ := hf
  have hx : ObjOk X.prog X.w H s.heap dd (.xd fs) := I.hok dd _ ea
  obtain ⟨mA, hns, hr⟩ := hx
  obtain ⟨od, ho, hl⟩ := lookIn_ns hns
  have J : PySem.W.InstAt s.heap a oe C (some od) := ⟨ha, hz.1, by unfold PySem.W.notCls; rw [hd] <;> rfl, by rw [hz.2]; exact ho⟩
  exact PySem.W.kia_one (PySem.W.kitx_exc T.k0 T.k1 T.k2 T.k3 T.k4 T.k5 T.k6 T.k7) I.kIn J e (fun z => nomatch z) fun tk => ⟨.bl b, H, I.kept (t' := tk) fun _ _ z => z, rfl, q⟩
end DL

namespace DL
open PySem L2 PySem.Spec PyProof.Rows
/-! ### own operators: x & y, x | y of two instances of one class -/
structure OwnOp (K : PySem.W.Frag) (C f : Addr) (op : Operator) : Prop where
  first : PySem.W.selfFirst K C = true
  at_ : PySem.W.findIn K (.ref C) (PySem.dunder op.info.2) = some (some (.ref f))
  fn : PySem.W.isFn K (.ref f) = true
def rOBin (K : PySem.W.Frag) (C : Addr) (sp : Sp) (E : XK) : R2 := fun x y H Q => ∃ a dx fs, x = .ref a ∧ H a = some (.ins C dx fs) ∧ TyX K H y (.ref C) ∧ sp [x, y] H (fun v H' => ∃ p, v = .ref p ∧ Q v H') E
theorem op_binO {X : Cx} {CX : CXT} {n j : Nat} {C f : Addr} {fd : FuncData} {ps : List Str} {sp : Sp} {E : XK} {op : Operator} (o : OwnOp X.K C f op) (F : FnOk X.prog X.w X.K X.mg X.base CX n f fd ps sp) (hb : Binds X.K fd ps []) (hx : Passes CX X E) (hr : Room j X.A) (hk : n ≤ j) :
    OpR X (binaryOp op) (rOBin X.K C sp E) := by
  intro pins s σ H x y v u Q I rx ry h
  obtain ⟨a, dx, fs, rfl, ha, ty, hsp⟩ := h
  obtain rfl : v = Value.ref a := rx
  obtain ⟨mA, J, _⟩ := ins_get I.hok ha
  obtain ⟨od, J, _⟩ := J.look
  obtain ⟨m, hF⟩ := I.fr
  refine PySem.W.binop_K hF I.ok.mod.kin J (looks_tyX I ry ty _) o.first o.at_ o.fn ?_
  refine run_at F hb hx (hr.mono hk) rfl I (.cons (show L2.RelV (.ref a) (Value.ref a) from rfl) (.cons ry .nil)) hsp fun w s' ⟨z, H', I', rz, p, ez, q⟩ => ?_
  subst ez
  obtain rfl : w = Value.ref p := rz
  exact ⟨.ref p, H', I', rfl, q⟩
structure CalB (P : Program) (w : World) (K : PySem.W.Frag) (mg : Str → Option Value) (base : Heap) (CX : CXT) (k : Nat) (C : Addr) (op : Operator) (sp : Sp) : Prop where
  ex : ∃ f fd, OwnOp K C f op ∧ Binds K fd ["self", "other"] [] ∧ FnOk P w K mg base CX k f fd ["self", "other"] sp
theorem op_binC {X : Cx} {CX : CXT} {k j : Nat} {C : Addr} {sp : Sp} {E : XK} {op : Operator} (c : CalB X.prog X.w X.K X.mg X.base CX k C op sp) (hx : Passes CX X E) (hr : Room j X.A) (hk : k ≤ j) : OpR X (binaryOp op) (rOBin X.K C sp E) := by
  obtain ⟨f, fd, h1, h3, h4⟩ := c.ex
  exact op_binO h1 h4 h3 hx hr hk
section
variable {G : Ct} {ta tb : TE} {es es1 es2 : Es} {C C2 : Addr} {ns ns2 ns3 : List Str} {ds ds2 ds3 : List D} {Fn : Es → Out → Prop} {E : XK} {eo : Es}
end
end DL

namespace ML
open PySem L2 PySem.Spec PyProof.Rows

section
variable {G : Ct} {Ex : WX} {α β : List Addr} {W W' F H H' : Hp} {σ : L2.St} {en : En} {hp hp' : List O} {te ta tb tv : TE} {tt : TT} {tas : TA} {x y xa ya xo xv xi : XE} {xt : XT} {xas : XA} {v w : V} {p q : PV} {k : Bool} {ps items : List PV} {d : D} {a : Addr} {o : O} {ho ho' : HO} {i j : Nat} {E : XK} {f : Fn} {C : Nat}
/-! ### a thing of the frame's -/
theorem Cf.frame (c : Cf G α W F H σ en hp) (hq : H a = none) (hn : ∀ ps, ho ≠ .tbl ps := by intro ps z; cases z) : Cf G α W (upd F a ho) (upd H a ho) σ en hp := by
  have w0 := c.sW.none' hq
  refine ⟨c.len, c.env, c.al, fun i o b e eb => (c.own i o b e eb).mono (Same.refl _) (Grow.refl _) fun hl u h1 => ?_, c.inj, fun b => ?_, c.sW.upd' w0, same_upd2 c.sF, c.tab.ext (same_upd hq), c.nt.1, nt_upd c.nt.2 hn⟩
  · have n := c.live_ne hq e hl eb
    exact ⟨by rw [upd_ne n]; exact h1, id, fun z => by rw [upd_ne n]; exact z⟩
  · by_cases q : b = a
    · subst q; exact .inr w0
    · rw [upd_ne q]; exact c.dFW b
theorem Cf.frameW (c : Cf G α W (upd F a ho) H σ en hp) (h1 : ∀ ps, ho ≠ .tbl ps) (h2 : ∀ c0 q, ho ≠ LamX.CodeO c0 q) (h3 : ∀ ps, ho' ≠ .tbl ps) : Cf G α W (upd F a ho') (upd H a ho') σ en hp := by
  have hH : H a = some ho := c.sF a ho upd_same
  have w0 : W a = none := by
    rcases c.dFW a with z | z
    · rw [upd_same] at z; cases z
    · exact z
  have nf : ∀ {b}, b ≠ a → upd F a ho b = F b := fun n => upd_ne n
  have lv : ∀ {i : Nat} {o : O} {b : Addr}, hp[i]? = some o → Live o = true → α[i]? = some b → b ≠ a := fun {i o b} e hl eb z => by
    obtain ⟨u, k1, k2, k3, k4⟩ := (ownAt_live hl).mp (c.own i o b e eb)
    rw [z, upd_same] at k4
    cases k4
  refine ⟨c.len, c.env, c.al, fun i o b e eb => (c.own i o b e eb).mono (Same.refl _) (Grow.refl _) fun hl u h => ?_, c.inj, fun b => ?_, c.sW.upd' w0, fun b u e => ?_, fun q hq => ?_, c.nt.1, fun b ps z => ?_⟩
  · have n := lv e hl eb
    exact ⟨by rw [upd_ne n]; exact h, id, fun z => by rw [upd_ne n] at z ⊢; exact z⟩
  · by_cases q : b = a
    · subst q; exact .inr w0
    · have := c.dFW b
      rw [upd_ne q] at this ⊢
      exact this
  · by_cases q : b = a
    · subst q; rw [upd_same] at e ⊢; exact e
    · rw [upd_ne q] at e ⊢
      exact c.sF b u (by rw [upd_ne q]; exact e)
  · obtain ⟨ps, k1, k2, k3⟩ := c.tab q hq
    refine ⟨ps, by rw [upd_ne (fun z => h1 ps (Option.some.inj (hH.symm.trans (by rw [← z]; exact k1))))]; exact k1, k2, fun pos cv e => ?_⟩
    obtain ⟨c0, m1, m2⟩ := k3 pos cv e
    exact ⟨c0, m1, by rw [upd_ne (fun z => h2 c0 _ (Option.some.inj (hH.symm.trans (by rw [← z]; exact m2))))]; exact m2⟩
  · by_cases q : b = a
    · subst q; rw [upd_same] at z; exact h3 ps (Option.some.inj z)
    · rw [upd_ne q] at z
      exact c.nt.2 b ps (by rw [upd_ne q]; exact z)
theorem Cf.frameOut {z : Bool} {pv : PV} (c : Cf G α W (upd F a ho) H σ en hp) (f0 : F a = none) (io : IsO G α W o ho) (e : ML.fresh z o hp = some (pv, hp')) : ∃ β W', Same W W' ∧ Grow α β ∧ Cf G β W' F H σ en hp' ∧ IsP G β W' pv (.ref a) := by
  have hH : H a = some ho := c.sF a ho upd_same
  have w0 : W a = none := by
    rcases c.dFW a with z | z
    · rw [upd_same] at z; cases z
    · exact z
  have lv : ∀ {i : Nat} {o : O} {b : Addr}, hp[i]? = some o → Live o = true → α[i]? = some b → b ≠ a := fun {i o b} e hl eb z => by
    obtain ⟨u, k1, k2, k3, k4⟩ := (ownAt_live hl).mp (c.own i o b e eb)
    rw [z, upd_same] at k4
    cases k4
  have ntF : NT F := fun b ps z => by
    by_cases q : b = a
    · rw [q, f0] at z; cases z
    · exact c.nt.2 b ps (by rw [upd_ne q]; exact z)
  have sF : Same F H := fun b u e => by
    have q : b ≠ a := fun z => by rw [z, f0] at e; cases e
    exact c.sF b u (by rw [upd_ne q]; exact e)
  unfold ML.fresh at e
  split at e
  · rw [Option.map_eq_some_iff] at e
    obtain ⟨d, e1, e2⟩ := e
    cases e2
    have sw : Same W (upd W a ho) := same_upd w0
    refine ⟨α, upd W a ho, sw, Grow.refl _, ⟨c.len, fun i q e => ?_, c.al, fun i o b e eb => (c.own i o b e eb).mono sw (Grow.refl _) fun hl u h => ?_, c.inj, fun b => ?_, fun b u e => ?_, sF, c.tab, nt_upd c.nt.1 io.nt.1, ntF⟩, toD_is e1 io sw upd_same⟩
    · obtain ⟨v, h1, h2⟩ := c.env i q e
      exact ⟨v, h1, h2.mono sw (Grow.refl _)⟩
    · have n := lv e hl eb
      exact ⟨h, fun z => by rw [upd_ne n]; exact z, fun z => by rw [upd_ne n] at z; exact z⟩
    · by_cases q : b = a
      · subst q; exact .inl f0
      · have := c.dFW b
        rw [upd_ne q] at this
        rw [upd_ne q]
        exact this
    · by_cases q : b = a
      · subst q; rw [upd_same] at e; cases e; exact hH
      · rw [upd_ne q] at e; exact c.sW b u e
  · cases e
    have g := grow_app α [a]
    have new : ∀ {i : Nat} {o1 : O} {b : Addr}, (hp ++ [o])[i]? = some o1 → (α ++ [a])[i]? = some b → (hp[i]? = some o1 ∧ α[i]? = some b) ∨ (i = hp.length ∧ o1 = o ∧ b = a) := fun {i o1 b} e ea => by
      by_cases h : i < hp.length
      · rw [List.getElem?_append_left h] at e
        rw [List.getElem?_append_left (by rw [c.al]; exact h)] at ea
        exact .inl ⟨e, ea⟩
      · have hi : i = hp.length := by
          have := (List.getElem?_eq_some_iff.mp e).1
          rw [List.length_append, List.length_singleton] at this
          omega
        refine .inr ⟨hi, ?_, ?_⟩
        · subst hi; simpa using e.symm
        · subst hi; rw [← c.al] at ea; simpa using ea.symm
    refine ⟨α ++ [a], W, Same.refl _, g, ⟨c.len, fun i q e => ?_, by simp [c.al], fun i o1 b e eb => ?_, fun i j o1 o2 b e1 e2 l1 l2 a1 a2 => ?_, fun b => ?_, c.sW, sF, c.tab, c.nt.1, ntF⟩, a, by rw [← c.al, List.getElem?_append_right (Nat.le_refl _)]; simp, rfl⟩
    · obtain ⟨v, h1, h2⟩ := c.env i q e
      exact ⟨v, h1, h2.mono (Same.refl _) g⟩
    · rcases new e eb with ⟨h1, h2⟩ | ⟨_, rfl, rfl⟩
      · refine (c.own i o1 b h1 h2).mono (Same.refl _) g fun hl u h3 => ?_
        have n := lv h1 hl h2
        exact ⟨h3, id, fun z => by rw [upd_ne n] at z; exact z⟩
      · exact (ownAt_live io.live).mpr ⟨ho, hH, io.mono (Same.refl _) g, w0, f0⟩
    · rcases new e1 a1 with ⟨h1, h2⟩ | ⟨q1, q2, q3⟩
      · rcases new e2 a2 with ⟨h3, h4⟩ | ⟨q4, q5, q6⟩
        · exact c.inj i j o1 o2 b h1 h3 l1 l2 h2 h4
        · exact absurd q6 (lv h1 l1 h2)
      · rcases new e2 a2 with ⟨h3, h4⟩ | ⟨q4, q5, q6⟩
        · exact absurd q3 (lv h3 l2 h4)
        · rw [q1, q4]
    · by_cases q : b = a
      · subst q; exact .inl f0
      · have := c.dFW b
        rw [upd_ne q] at this
        exact this

/-! ### comprehensions -/
abbrev E0x : WX := fun _ _ _ _ => False
def wipeE (en : En) : List Nat → En
  | [] => en
  | v :: vs => (wipeE en vs).set v none
theorem Cf.wipe (c : Cf G α W F H σ en hp) : ∀ vs : List Nat, Cf G α W F H (L2.wipe σ vs) (wipeE en vs) hp
  | [] => c
  | v :: vs => by
    have c1 := Cf.wipe c vs
    refine c1.slots ?_ fun i p e => ?_
    · show ((wipeE en vs).set v none).length = ((L2.wipe σ vs).set v none).length
      rw [List.length_set, List.length_set]
      exact c1.len
    · replace e : ((wipeE en vs).set v none)[i]? = some (some p) := e
      show ∃ u, ((L2.wipe σ vs).set v none)[i]? = some (some u) ∧ _
      by_cases q : i = v
      · subst q
        rw [List.getElem?_set] at e
        simp only [if_true] at e
        split at e <;> cases e
      · rw [List.getElem?_set_ne (Ne.symm q)] at e ⊢
        exact c1.env i p e
def lcI (ck : List O → Bool) (g : XG) (t : XT) (x : XE) (en : En) : List PV → List PV → List O → Option (R (List PV))
  | [], acc, hp => if ck hp then some (.ok acc hp) else none
  | p :: ps, acc, hp => if ck hp then match g p en with
    | none => none
    | some en1 => match t en1 hp with
      | some (.ok true hp1) => match x en1 hp1 with
        | some (.ok q hp2) => if sz (acc.length + 1) then lcI ck g t x en ps (acc ++ [q]) hp2 else none
        | _ => none
      | some (.ok false hp1) => lcI ck g t x en ps acc hp1
      | _ => none
    else none
def xLc (z : Bool) (xi : XI) (g : XG) (t : XT) (x : XE) (vs : List Nat) : XE := fun en hp => xb (xi en hp) fun its hp1 => xb (lcI its.2 g t x (wipeE en vs) its.1 [] hp1) fun acc hp2 => lf (fresh z (mkL acc) hp2)
def xYes : XT := fun _ hp => some (.ok true hp)
theorem st_yes : ST G Ex tYes xYes := fun α W F H σ en hp r Q c e g => by cases e; exact g α W H (Same.refl _) (Grow.refl _) c
/-- the target is one of the block's own names -/
def OwnG (g : TG) (vs : List Nat) : Prop := ∀ v σ H Q, g v (L2.wipe σ vs) H Q → g v (L2.wipe σ vs) H fun σ2 H2 => L2.wipe σ2 vs = L2.wipe σ vs ∧ Q σ2 H2
theorem wipe_set {v : Option V} : ∀ {vs : List Nat} {σ : L2.St}, j ∈ vs → L2.wipe (σ.set j v) vs = L2.wipe σ vs
  | [], σ, h => by cases h
  | u :: vs, σ, h => by
    show (L2.wipe (σ.set j v) vs).set u none = (L2.wipe σ vs).set u none
    by_cases q : j ∈ vs
    · rw [wipe_set q]
    · rcases List.mem_cons.mp h with rfl | h
      · have out : ∀ {vs : List Nat} {σ : L2.St}, j ∉ vs → L2.wipe (σ.set j v) vs = (L2.wipe σ vs).set j v := fun {vs} => by
          induction vs with
          | nil => intro σ _; rfl
          | cons w vs ih =>
            intro σ hq
            show (L2.wipe (σ.set j v) vs).set w none = ((L2.wipe σ vs).set w none).set j v
            rw [ih (fun z => hq (List.mem_cons_of_mem _ z)), List.set_comm _ _ (fun z => hq (by rw [z]; exact List.mem_cons_self))]
        rw [out q, List.set_set]
      · exact absurd h q
theorem wipe_wipe : ∀ {vs us : List Nat} {σ : L2.St}, (∀ j ∈ us, j ∈ vs) → L2.wipe (L2.wipe σ us) vs = L2.wipe σ vs
  | vs, [], σ, h => rfl
  | vs, u :: us, σ, h => by
    show L2.wipe ((L2.wipe σ us).set u none) vs = _
    rw [wipe_set (h u List.mem_cons_self), wipe_wipe fun j hj => h j (List.mem_cons_of_mem _ hj)]
theorem own_name {vs : List Nat} (h : i ∈ vs) : OwnG (gName i) vs := fun v σ H Q q => ⟨by rw [wipe_set h, wipe_wipe fun j hj => hj], q⟩
theorem gcons_mono {g : TG} {gs : TGs} : True := trivial
def OwnGs (g : TGs) (vs : List Nat) : Prop := ∀ us σ σ0 H Q, L2.wipe σ vs = L2.wipe σ0 vs → g us σ H Q → g us σ H fun σ2 H2 => L2.wipe σ2 vs = L2.wipe σ0 vs ∧ Q σ2 H2
theorem owns_nil {vs : List Nat} : OwnGs gNil vs := fun us σ σ0 H Q e ⟨h1, h2⟩ => ⟨h1, e, h2⟩
theorem owns_cons {vs : List Nat} {gs : TGs} (h : i ∈ vs) (hs : OwnGs gs vs) : OwnGs (gCons (gName i) gs) vs := fun us σ σ0 H Q e ⟨v, r, h1, h2⟩ => ⟨v, r, h1, hs r _ σ0 H Q (by rw [wipe_set h]; exact e) h2⟩
theorem own_tup {vs : List Nat} {K : PySem.W.Frag} {n : Nat} {gs : TGs} (hs : OwnGs gs vs) : OwnG (gTup K n gs) vs := fun v σ H Q ⟨a, xs, h1, h2, h3, h4⟩ => ⟨a, xs, h1, h2, h3, hs xs _ σ H Q (wipe_wipe fun j hj => hj) h4⟩
theorem lc_ok {J : It} {ck : List O → Bool} {g : TG} {gx : XG} {vs : List Nat} {acc0 : List PV} {hp0 : List O} {Q : VK} {D : Addr} (hg : SG G g gx) (ow : OwnG g vs) (ht : ST G E0x tt xt) (hx : SE G E0x te x) (it : ItOk G α W J items ck) (c : Cf G α W F H σ en hp) (hD : H D = none)
    (e : lcI ck gx xt x (wipeE en vs) items [] hp = some (.ok acc0 hp0)) (k : ∀ β W' H' us, Same W W' → Grow α β → F D = none → Cf G β W' (upd F D (.lst us)) H' σ en hp0 → IsPs G β W' acc0 us → Q (.ref D) H') :
    ∃ Wv : Nat → Nat → Hp → Prop, (∃ m, Wv 0 m (upd H D (.lst []))) ∧ ∀ i m H, Wv i m H → (J.stop i H ∧ Q (.ref D) H) ∨ (J.go i H ∧ ∃ Nx : Hp → Prop, (∀ H', Nx H' → ∃ m', m' < m ∧ Wv (i + 1) m' H') ∧ ∀ x H', J.yld i H x H' → g x (L2.wipe σ vs) H' fun σ2 H2 => L2.wipe σ2 vs = L2.wipe σ vs ∧ tt σ2 H2 fun b H3 =>
      if b = true then te σ2 H3 fun y H4 => ∃ acc, H4 D = some (.lst acc) ∧ acc.length < sizeLine ∧ Nx (upd H4 D (.lst (acc ++ [y]))) else Nx H3) := by
  have f0 := c.sF.none' hD
  let Inv : Nat → Hp → Prop := fun i H' => ∃ β W' acc hp' us, Same W W' ∧ Grow α β ∧ Cf G β W' (upd F D (.lst us)) H' (L2.wipe σ vs) (wipeE en vs) hp' ∧ Cf G β W' (upd F D (.lst us)) H' σ en hp' ∧ IsPs G β W' acc us ∧ lcI ck gx xt x (wipeE en vs) (items.drop i) acc hp' = some (.ok acc0 hp0)
  have c0 := c.frame (ho := .lst []) hD
  refine ⟨fun i m H' => m = items.length - i ∧ i ≤ items.length ∧ Inv i H', ⟨items.length, by simp, Nat.zero_le _, α, W, [], hp, [], Same.refl _, Grow.refl _, c0.wipe vs, c0, IsPs.nil, e⟩, ?_⟩
  rintro i m H1 ⟨rfl, hi, β, W1, acc, hp1, us, s, l, cw, c1, ia, e1⟩
  -- the slots' values stay, whatever the things do
  have back : ∀ {γ W' F' H' hp' σ' en'}, Cf G γ W' F' H' σ' en' hp' → Same W1 W' → Grow β γ → Cf G γ W' F' H' (L2.wipe σ vs) (wipeE en vs) hp' ∧ Cf G γ W' F' H' σ en hp' := fun {γ W' F' H' hp' σ' en'} c' s' l' =>
    ⟨c'.slots cw.len fun i p e => (let ⟨v, h1, h2⟩ := cw.env i p e; ⟨v, h1, h2.mono s' l'⟩), c'.slots c1.len fun i p e => (let ⟨v, h1, h2⟩ := c1.env i p e; ⟨v, h1, h2.mono s' l'⟩)⟩
  by_cases hlt : i < items.length
  · rw [List.drop_eq_getElem_cons hlt] at e1
    unfold lcI at e1
    split at e1
    · rename_i hck
      split at e1
      · cases e1
      · rename_i en2 eg
        obtain ⟨hgo, hy⟩ := it.go _ i items[i] β W1 H1 _ _ hp1 (List.getElem?_eq_getElem hlt) cw s l hck
        refine .inr ⟨hgo, Inv (i + 1), fun H' p' => ⟨items.length - (i + 1), by omega, rfl, hlt, p'⟩, fun xv H2 yy => ?_⟩
        obtain ⟨W2, s2, c2, i2⟩ := hy xv H2 yy
        refine ow xv σ H2 _ (hg β W2 _ H2 _ _ hp1 en2 items[i] xv _ c2 i2 eg fun σ3 c3 => ?_)
        split at e1
        · rename_i hp2 et
          refine ht β W2 _ H2 σ3 en2 hp1 _ _ c3 et fun γ W3 H3 s3 l3 c4 => ?_
          split at e1
          · rename_i q hp3 ex
            split at e1
            · rename_i hz
              refine (show te σ3 H3 _ from hx γ W3 _ H3 σ3 en2 hp2 _ _ c4 ex fun u δ W4 H4 s4 l4 c5 iu => ?_)
              have ss := (s2.trans s3).trans s4
              have ll := l3.trans l4
              have ia' := ia.mono ss ll
              have hl := ia.len
              have hz' := sz_of hz
              refine ⟨us, c5.sF D _ upd_same, by omega, δ, W4, acc ++ [q], hp3, us ++ [u], s.trans ss, l.trans ll, ?_⟩
              have c6 := c5.frameW (ho' := .lst (us ++ [u])) (fun ps z => by cases z) (fun c0 q z => by unfold LamX.CodeO at z; cases z) (fun ps z => by cases z)
              obtain ⟨b1, b2⟩ := back c6 ss ll
              exact ⟨b1, b2, ia'.append (IsPs.cons iu IsPs.nil), e1⟩
            · cases e1
          · cases e1
        · rename_i hp2 et
          refine ht β W2 _ H2 σ3 en2 hp1 _ _ c3 et fun γ W3 H3 s3 l3 c4 => ?_
          have ss := s2.trans s3
          obtain ⟨b1, b2⟩ := back c4 ss l3
          exact ⟨γ, W3, acc, hp2, us, s.trans ss, l.trans l3, b1, b2, ia.mono ss l3, e1⟩
        · cases e1
    · cases e1
  · have hi2 : i = items.length := by omega
    subst hi2
    rw [List.drop_length] at e1
    unfold lcI at e1
    split at e1
    · rename_i hck
      cases e1
      exact .inl ⟨it.stop _ β W1 H1 _ _ _ cw s l hck, k β W1 H1 us s l f0 c1 ia⟩
    · cases e1
theorem se_lc {z : Bool} {wi : TI} {xi : XI} {g : TG} {gx : XG} {vs : List Nat} (hi : SI G Ex wi xi) (hg : SG G g gx) (ow : OwnG g vs) (ht : ST G E0x tt xt) (hx : SE G E0x te x) : SE G Ex (tLc wi g tt te vs) (xLc z xi gx xt x vs) := fun α W F H σ en hp r Q c e k => by
  unfold xLc at e
  rcases xb_cases e with ⟨its, hp1, e1, e2⟩ | ⟨C, ns, ds, hp1, e1, e2⟩
  · refine hi α W F H σ en hp _ _ c e1 fun J β W1 H1 s1 l1 c1 it => ?_
    rcases xb_cases e2 with ⟨acc, hp2, e3, e4⟩ | ⟨C, ns, ds, hp2, e3, e4⟩
    · obtain ⟨pv, hp3, e5, rfl⟩ := lf_some e4
      intro D hD
      refine lc_ok hg ow ht hx it c1 hD e3 fun γ W2 H2 us s2 l2 f0 c2 ia => ?_
      obtain ⟨δ, W3, s3, l3, c3, i3⟩ := c2.frameOut f0 (mkL_is ia) e5
      exact k _ δ W3 H2 ((s1.trans s2).trans s3) ((l1.trans l2).trans l3) c3 i3
    · exfalso
      have no : ∀ {items acc hp}, lcI its.2 gx xt x (wipeE en vs) items acc hp ≠ some (.exc C ns ds hp2) := fun {items} => by
        induction items with
        | nil => intro acc hp h; unfold lcI at h; split at h <;> cases h
        | cons p ps ih =>
          intro acc hp h
          unfold lcI at h
          split at h
          · split at h
            · cases h
            · split at h
              · split at h
                · split at h
                  · exact ih h
                  · cases h
                · cases h
              · exact ih h
              · cases h
          · cases h
      exact no e3
  · exact hi α W F H σ en hp _ _ c e1 (k.gx _ _ _ _ e2)
end
end ML

namespace ML
open PySem L2 PySem.Spec PyProof.Rows

section
variable {G : Ct} {Ex : WX} {α β : List Addr} {W W' F H H' : Hp} {σ : L2.St} {en : En} {hp hp' : List O} {te ta tb tv : TE} {tt : TT} {tas : TA} {x y xa ya xo xv xi : XE} {xt : XT} {xas : XA} {v w : V} {p q : PV} {k : Bool} {ps items : List PV} {d : D} {a : Addr} {o : O} {ho ho' : HO} {i j : Nat} {E : XK} {f : Fn} {C : Nat}
/-! ### raise -/
def argOk : D → Bool
  | .int n => decide (n.natAbs.log2 < 1920)
  | .str z => decide (z.length ≤ 20000)
  | _ => false
theorem argOk_at (h : argOk d = true) (i : Is G.b W d v) : DL.ArgOk v := by
  cases d <;> first | cases h | skip
  · rw [is_int.mp i]; unfold argOk at h; rw [decide_eq_true_eq] at h; exact h
  · rw [is_str.mp i]; unfold argOk at h; rw [decide_eq_true_eq] at h; exact h
def zRaise (C : Nat) (fs : List Nat) (a : XA) : XS := fun en hp => xs en (a en hp) fun ps hp1 => match unfr ps with
  | none => none
  | some ds => if decide (ds.length = fs.length) && decide (fs.length ≤ 100) && ds.all argOk then some (.exc C fs.reverse ds.reverse en hp1) else none
theorem IsL.getV {b : Bs} {W : Hp} : ∀ {ds : List D} {vs : List V} {i : Nat} {v : V}, IsL b W ds vs → vs[i]? = some v → ∃ d, ds[i]? = some d ∧ Is b W d v
  | [], vs, i, v, h, e => by rw [h.nil_inv] at e; simp at e
  | d' :: ds, vs, 0, v, h, e => by
    obtain ⟨v', ws, rfl, h2, h3⟩ := h.uncons
    simp at e
    subst e
    exact ⟨d', rfl, h2⟩
  | d' :: ds, vs, i + 1, v, h, e => by
    obtain ⟨v', ws, rfl, h2, h3⟩ := h.uncons
    obtain ⟨d, e1, e2⟩ := IsL.getV (i := i) h3 (by simpa using e)
    exact ⟨d, by simpa using e1, e2⟩
theorem ss_raise {fs : List Nat} {fss : List Str} (hf : fs.map G.b.nm = fss) (h : SA G Ex tas xas) : SS G Ex (fun _ σ H => tMkO (G.b.cl C) (DL.spX (G.b.cl C) fss) [] tas σ H fun cls d H' => Ex cls d σ H') (zRaise C fs xas) := fun α W F H σ en hp r D c e g => by
  subst hf
  refine h.stm c e g fun ps hp1 vs β W1 H1 e1 s1 l1 c1 i1 => ?_
  split at e1
  · cases e1
  · rename_i ds ed
    split at e1
    · rename_i hh
      cases e1
      simp only [Bool.and_eq_true, decide_eq_true_eq] at hh
      obtain ⟨⟨hn, hz⟩, ho⟩ := hh
      rw [unfr_some ed] at i1
      have i2 := isPs_fr.mp i1
      have hvl := i2.len
      refine ⟨by omega, fun a ha => ?_⟩
      rw [List.append_nil]
      refine ⟨a, vs, rfl, by rw [List.length_map, ← hn, i2.len], fun v hv => ?_, upd_same, fun d H' hd hne hk ha' hd' => ⟨rfl, d, _, ha', hd', ?_, ?_⟩⟩
      · obtain ⟨i, hi⟩ := List.mem_iff_getElem?.mp hv
        obtain ⟨dd, e1, e2⟩ := i2.getV hi
        exact argOk_at (List.all_eq_true.mp ho dd (List.mem_of_getElem? e1)) e2
      · rw [upd_ne hne] at hd
        exact hd
      · have hd1 : H1 d = none := by rw [upd_ne hne] at hd; exact hd
        have s2 : Same H1 (upd (L2.del H' a) d (.xd ((fs.map G.b.nm).zip vs).reverse)) := fun b o e => by
          have n1 : b ≠ a := ne_of_none e ha
          rw [upd_ne (ne_of_none e hd1), del_ne n1]
          exact hk b o (by rw [upd_ne n1]; exact e) n1
        have s3 : Same (upd H1 d (.xd ((fs.map G.b.nm).zip vs).reverse)) (upd (L2.del H' a) d (.xd ((fs.map G.b.nm).zip vs).reverse)) := fun b o e => by
          by_cases hb : b = d
          · subst hb; rw [upd_same] at e ⊢; exact e
          · rw [upd_ne hb] at e; exact s2 b o e
        obtain ⟨c2, s4⟩ := c1.allocW (ho := .xd ((fs.map G.b.nm).zip vs).reverse) hd1
        refine g d vs.reverse β _ _ σ (s1.trans s4) l1 (c2.ext s3) (i2.mono s4).reverse ?_
        rw [upd_same]
        have e : ((fs.map G.b.nm).zip vs).reverse = (fs.reverse.map G.b.nm).zip vs.reverse := by
          have hl : (fs.map G.b.nm).length = vs.length := by rw [List.length_map, ← hn, i2.len]
          rw [List.map_reverse, List.zip_eq_zipWith, List.zip_eq_zipWith, List.reverse_zipWith hl]
        rw [e]
    · cases e1

/-! ### operators, any way out -/
def G2R (G : Ct) (Ex : WX) (r : R2) (g : List O → PV → PV → Option (R PV)) : Prop := ∀ α W F H σ en hp p q v w z (Q : VK), Cf G α W F H σ en hp → IsP G α W p v → IsP G α W q w → g hp p q = some z → Good G Ex α W F σ en Q z → r v w H Q
def xOpR (g : List O → PV → PV → Option (R PV)) (a b : XE) : XE := fun en hp => xb (a en hp) fun p hp1 => xb (b en hp1) fun q hp2 => g hp2 p q
theorem se_opR {r : R2} {g : List O → PV → PV → Option (R PV)} (hg : G2R G Ex r g) (ha : SE G Ex ta xa) (hb : SE G Ex tb ya) : SE G Ex (tOp r ta tb) (xOpR g xa ya) := fun α W F H σ en hp r' Q c e k =>
  ha.bind c e k.gx fun p hp1 v β W1 H1 e1 s1 l1 c1 i1 => hb.bind c1 e1 (k.mono s1 l1).gx fun q hp2 w γ W2 H2 e2 s2 l2 c2 i2 =>
    hg γ W2 F H2 σ en hp2 p q v w r' Q c2 (i1.mono s2 l2) i2 e2 ((k.mono s1 l1).mono s2 l2)
theorem G2.R {r : R2} {g : List O → PV → PV → Option (PV × List O)} (h : G2 G r g) : G2R G Ex r (fun hp p q => lf (g hp p q)) := fun α W F H σ en hp p q v w z Q c ip iq e k => by
  obtain ⟨y, hp', e1, rfl⟩ := lf_some e
  exact h α W F H σ en hp p q v w y hp' Q c ip iq e1 k
/-- the first that knows -/
def alt {γ : Type} (a b : Option γ) : Option γ := match a with
  | none => b
  | r => r
theorem G2R.or {r r' : R2} {g g' : List O → PV → PV → Option (R PV)} (h : G2R G Ex r g) (h' : G2R G Ex r' g') : G2R G Ex (fun x y H Q => r x y H Q ∨ r' x y H Q) (fun hp p q => alt (g hp p q) (g' hp p q)) := fun α W F H σ en hp p q v w z Q c ip iq e k => by
  replace e : alt (g hp p q) (g' hp p q) = some z := e
  unfold alt at e
  split at e
  · exact .inr (h' α W F H σ en hp p q v w z Q c ip iq e k)
  · exact .inl (h α W F H σ en hp p q v w z Q c ip iq e k)
/-- the receiver's class -/
def isC (C : Nat) (hp : List O) (p : PV) : Bool := match insOf hp p with
  | some (C', _, _) => decide (C' = C)
  | none => false
theorem isC_at (c : Cf G α W F H σ en hp) (i : IsP G α W p v) (e : isC C hp p = true) : ∃ a dx fs, v = .ref a ∧ H a = some (.ins (G.b.cl C) dx fs) := by
  unfold isC at e
  split at e
  · rename_i C' ns qs e1
    have := of_decide_eq_true e
    subst this
    obtain ⟨a, dx, vs, h1, h2, h3, h4⟩ := ins_at c i e1
    exact ⟨a, dx, _, h1, h2⟩
  · cases e
/-- own == : L the types of the right side that are known -/
def NfOk (b : Bs) (C : Nat) (L : List Nat) : Prop := ∀ t ∈ L, PySem.W.notFirst b.K (b.cl C) (tyVal b t) = true ∧ (100 ≤ t → InsTy b.K (b.cl (t - 100)))
def gOEq (C : Nat) (L : List Nat) (f : Fn) (neg : Bool) (hp : List O) (p q : PV) : Option (R PV) := if isC C hp p then match tyP hp q with
    | none => none
    | some t => if t ∈ L then match callF f [p, q] hp with
        | some (.ok (.fr (.bl b)) hp1) => some (.ok (.fr (.bl (if neg then !b else b))) hp1)
        | _ => none
      else none
  else none
theorem g_oeq {L : List Nat} {neg : Bool} (hL : NfOk G.b C L) : G2R G Ex (DL.rOEq G.b.K (G.b.cl C) (spOf G f 2) E neg) (gOEq C L f neg) := fun α W F H σ en hp p q v w z Q c ip iq e k => by
  unfold gOEq at e
  split at e
  · rename_i hc
    obtain ⟨a, dx, fs, rfl, h1⟩ := isC_at c ip hc
    split at e
    · cases e
    · rename_i t et
      split at e
      · rename_i hm
        split at e
        · rename_i b hp1 ec
          cases e
          obtain ⟨h2, h3⟩ := hL t hm
          refine ⟨a, dx, fs, _, rfl, h1, tyP_at c iq et h3, h2, ?_⟩
          exact call_sp (Ex := fun c d _ T => E c d T) c (IsPs.cons ip (IsPs.cons iq IsPs.nil)) ec (fun u γ W2 H2 s2 l2 c2 i2 => ⟨b, isP_bl.mp i2, k _ γ W2 H2 s2 l2 c2 (isP_bl.mpr (by split <;> rfl))⟩) (fun c d T => id) rfl
        · cases e
      · cases e
  · cases e
/-- x & y, x | y of one class -/
def gOBin (C : Nat) (f : Fn) (hp : List O) (p q : PV) : Option (R PV) := if isC C hp p && isC C hp q then match callF f [p, q] hp with
    | some (.ok (.fr (.ins C' ns ds)) hp1) => some (.ok (.fr (.ins C' ns ds)) hp1)
    | some (.exc C' ns ds hp1) => some (.exc C' ns ds hp1)
    | _ => none
  else none
theorem isC_ty (c : Cf G α W F H σ en hp) (i : IsP G α W p v) (e : isC C hp p = true) (hi : InsTy G.b.K (G.b.cl C)) : TyX G.b.K H v (.ref (G.b.cl C)) := by
  obtain ⟨a, dx, fs, rfl, h1⟩ := isC_at c i e
  exact .base (.ins h1 hi.cl hi.ha hi.hn hi.ht hi.hm)
theorem g_obin (hi : InsTy G.b.K (G.b.cl C)) (hE : ∀ c d σ T, Ex c d σ T → E c d T) : G2R G Ex (DL.rOBin G.b.K (G.b.cl C) (spOf G f 2) E) (gOBin C f) := fun α W F H σ en hp p q v w z Q c ip iq e k => by
  unfold gOBin at e
  split at e
  · rename_i hc
    rw [Bool.and_eq_true] at hc
    obtain ⟨a, dx, fs, rfl, h1⟩ := isC_at c ip hc.1
    refine ⟨a, dx, fs, rfl, h1, isC_ty c iq hc.2 hi, ?_⟩
    split at e
    · rename_i C' ns ds hp1 ec
      cases e
      exact call_sp (Ex := Ex) c (IsPs.cons ip (IsPs.cons iq IsPs.nil)) ec (fun u γ W2 H2 s2 l2 c2 i2 => (let ⟨b, _, _, e1, _⟩ := is_ins.mp (isP_fr.mp i2); ⟨b, e1, k u γ W2 H2 s2 l2 c2 i2⟩)) (fun c d T => hE c d σ T) rfl
    · rename_i C' ns ds hp1 ec
      cases e
      exact call_sp (Ex := Ex) c (IsPs.cons ip (IsPs.cons iq IsPs.nil)) ec k (fun c d T => hE c d σ T) rfl
    · cases e
  · cases e
/-- .. where nothing is raised -/
def gOBin0 (C : Nat) (f : Fn) (hp : List O) (p q : PV) : Option (R PV) := nox (gOBin C f hp p q)
theorem g_obin0 (hi : InsTy G.b.K (G.b.cl C)) : G2R G Ex (DL.rOBin G.b.K (G.b.cl C) (spOf G f 2) E) (gOBin0 C f) := fun α W F H σ en hp p q v w z Q c ip iq e k => by
  obtain ⟨y, hp1, e1, rfl⟩ := nox_some e
  exact g_obin (Ex := fun c d _ T => E c d T) hi (fun c d σ T => id) α W F H σ en hp p q v w _ Q c ip iq e1 k
/-! ### calls of built-ins, any way out -/
def GNR (G : Ct) (Ex : WX) (r : List V → Hp → VK → Prop) (g : List O → List PV → Option (R PV)) : Prop := ∀ α W F H σ en hp ps vs z (Q : VK), Cf G α W F H σ en hp → IsPs G α W ps vs → g hp ps = some z → Good G Ex α W F σ en Q z → r vs H Q
def xCBR (g : List O → List PV → Option (R PV)) (a : XA) : XE := fun en hp => xb (a en hp) fun ps hp1 => g hp1 ps
theorem se_cbR {r : List V → Hp → VK → Prop} {g : List O → List PV → Option (R PV)} (hg : GNR G Ex r g) (ha : SA G Ex tas xas) : SE G Ex (tCB r tas) (xCBR g xas) := fun α W F H σ en hp r' Q c e k =>
  ha.bind c e k.gx fun p hp1 v β W1 H1 e1 s1 l1 c1 i1 => hg β W1 F H1 σ en hp1 p v r' Q c1 i1 e1 (k.mono s1 l1)
theorem GN.R {r : List V → Hp → VK → Prop} {g : List O → List PV → Option (PV × List O)} (h : GN G r g) : GNR G Ex r (fun hp ps => lf (g hp ps)) := fun α W F H σ en hp ps vs z Q c i e k => by
  obtain ⟨y, hp', e1, rfl⟩ := lf_some e
  exact h α W F H σ en hp ps vs y hp' Q c i e1 k
theorem GNR.or {r r' : List V → Hp → VK → Prop} {g g' : List O → List PV → Option (R PV)} (h : GNR G Ex r g) (h' : GNR G Ex r' g') : GNR G Ex (fun xs H Q => r xs H Q ∨ r' xs H Q) (fun hp ps => alt (g hp ps) (g' hp ps)) := fun α W F H σ en hp ps vs z Q c i e k => by
  replace e : alt (g hp ps) (g' hp ps) = some z := e
  unfold alt at e
  split at e
  · exact .inr (h' α W F H σ en hp ps vs z Q c i e k)
  · exact .inl (h α W F H σ en hp ps vs z Q c i e k)
/-- len of an instance -/
def gOLen (C : Nat) (f : Fn) (hp : List O) (ps : List PV) : Option (R PV) := match ps with
  | [p] => if isC C hp p then match callF f [p] hp with
      | some (.ok (.fr (.int m)) hp1) => if decide (0 ≤ m) && smI m then some (.ok (.fr (.int m)) hp1) else none
      | _ => none
    else none
  | _ => none
theorem g_olen : GNR G Ex (DL.rOLen (G.b.cl C) (spOf G f 1) E) (gOLen C f) := fun α W F H σ en hp ps vs z Q c i e k => by
  unfold gOLen at e
  split at e
  · rename_i p
    split at e
    · rename_i hc
      split at e
      · rename_i m hp1 ec
        split at e
        · rename_i hm
          cases e
          rw [Bool.and_eq_true, decide_eq_true_eq] at hm
          obtain ⟨v, rfl, iv⟩ := isPs1 i
          obtain ⟨a, dx, fs, rfl, h1⟩ := isC_at c iv hc
          refine ⟨a, dx, fs, rfl, h1, ?_⟩
          exact call_sp (Ex := fun c d _ T => E c d T) c (IsPs.cons iv IsPs.nil) ec (fun u γ W2 H2 s2 l2 c2 i2 => ⟨m, isP_int.mp i2, ⟨hm.1, (smI_b hm.2).2⟩, k _ γ W2 H2 s2 l2 c2 (isP_int.mpr rfl)⟩) (fun c d T => id) rfl
        · cases e
      · cases e
    · cases e
  · cases e
end
end ML

namespace ML
open PySem L2 PySem.Spec PyProof.Rows

/-! ### the handled exception -/
def Ct.at (G : Ct) (C : Nat) (a dd : Addr) : Ct := { G with xc := C, xa := a, xd := dd }
section
variable {G : Ct} {Ex : WX} {α β : List Addr} {W W' F H H' : Hp} {σ : L2.St} {en : En} {hp hp' : List O} {te ta tb tv : TE} {tt : TT} {tas : TA} {x y xa ya xo xv xi : XE} {xt : XT} {xas : XA} {v w : V} {p q : PV} {k : Bool} {ps items : List PV} {d : D} {a dd : Addr} {o : O} {ho ho' : HO} {i j : Nat} {E : XK} {f : Fn} {C : Nat}
/-- e.f, e the handled exception of class C -/
def xXf (C : Nat) (f : Nat) (x : XE) : XE := fun en hp => xb (x en hp) fun p hp1 => match p with
  | .ex C' ns ds => if C' = C then match fldP ns (ds.map .fr) f with
      | none => none
      | some r => some (.ok r hp1)
    else none
  | _ => none
theorem se_xf {f : Nat} {fn : Str} (hf : G.b.nm f = fn) {Cx : Nat} (h : SE (G.at Cx a dd) Ex te x) : SE (G.at Cx a dd) Ex (tXf a (.ref (G.b.cl Cx)) (some dd) (G.b.cl C) fn te) (xXf C f x) := fun α W F H σ en hp r Q c e g => h.bind c e g.gx fun p hp1 v β W1 H1 e1 s1 l1 c1 i1 => by
  subst hf
  split at e1
  · rename_i C' ns ds
    split at e1
    · rename_i hC
      split at e1
      · cases e1
      · rename_i r er
        cases e1
        obtain ⟨h0, rfl, vs, h1, h2⟩ := i1
        subst hC
        replace h0 : C' = Cx := h0
        subst h0
        obtain ⟨u, k1, k2⟩ := fldP_at (b := G.b) (isPs_fr.mpr h2) er
        exact ⟨rfl, rfl, dd, _, u, rfl, c1.sW _ _ h1, k1, g u β W1 H1 s1 l1 c1 k2⟩
    · cases e1
  · cases e1
/-- isinstance(e, c) -/
def gIsX (C : Nat) (L : List (Nat × Nat × Bool)) (hp : List O) (ps : List PV) : Option (PV × List O) := match ps with
  | [.ex C' _ _, q] => if C' = C && clP' q then match clP q with
      | none => none
      | some u => match kitL L (100 + C) u with
        | none => none
        | some b => some (.fr (.bl b), hp)
    else none
  | _ => none
/-- what is known of the exceptions' classes -/
def KitX (b : Bs) (L : List (Nat × Nat × Bool)) : Prop := ∀ e ∈ L, PySem.W.kitOne b.K (tyVal b e.1) (tyVal b e.2.1) = some e.2.2
theorem g_isX {L : List (Nat × Nat × Bool)} (hL : KitX G.b L) {Cx : Nat} : GN (G.at Cx a dd) (DL.rIsX G.b.K (G.b.cl C) a (.ref (G.b.cl Cx)) (some dd)) (gIsX C L) := fun α W F H σ en hp ps vs z hp' Q c i e kk => by
  unfold gIsX at e
  split at e
  · rename_i C' ns ds q
    split at e
    · rename_i hh
      rw [Bool.and_eq_true, decide_eq_true_eq] at hh
      obtain ⟨hC, hq⟩ := hh
      split at e
      · cases e
      · rename_i u eu
        split at e
        · cases e
        · rename_i b eb
          cases e
          obtain ⟨v, w, rfl, iv, iw⟩ := isPs2 i
          obtain ⟨h0, rfl, us, h1, h2⟩ := iv
          subst hC
          replace h0 : C' = Cx := h0
          subst h0
          unfold kitL at eb
          rw [Option.map_eq_some_iff] at eb
          obtain ⟨y, hy, rfl⟩ := eb
          have hm := List.mem_of_find?_eq_some hy
          have hp2 := List.find?_some hy
          rw [Bool.and_eq_true, beq_iff_eq, beq_iff_eq] at hp2
          have h3 := hL y hm
          rw [hp2.1, hp2.2] at h3
          have e1 : tyVal G.b (100 + C') = .ref (G.b.cl C') := by
            unfold tyVal
            rw [if_neg (by omega), show 100 + C' - 100 = C' by omega]
          rw [e1] at h3
          refine ⟨dd, _, w, _, _, rfl, rfl, c.sW _ _ h1, rfl, clP_at (G := G.at C' a dd) iw eu (fun n en => ?_), h3, kk _ α W H (Same.refl _) (Grow.refl _) c (isP_bl.mpr rfl)⟩
          subst en
          exact of_decide_eq_true hq
    · cases e
  · cases e

/-! ### except clauses -/
/-- does an exception of the class C go to a clause of c -/
def ExmOk (b : Bs) (L : List (Nat × Nat × Bool)) : Prop := ∀ e ∈ L, PySem.W.exmOne b.K (tyVal b e.1) (tyVal b e.2.1) = some e.2.2
/-- a clause: its name's slot, its class, its suite -/
abbrev Clu := Option Nat × Nat × XS
inductive CluOk (G : Ct) : List DL.Clause → List Clu → Prop
  | nil : CluOk G [] []
  | cons {i : Option Nat} {cv : Value} {t : Addr → Value → Option Addr → TS} {l : List DL.Clause} {c : Nat} {s : XS} {m : List Clu} (hc : cv = tyVal G.b c) (hs : ∀ Cx a dd, SS (G.at Cx a dd) E0x (t a (.ref (G.b.cl Cx)) (some dd)) s) (r : CluOk G l m) : CluOk G ((i, cv, t) :: l) ((i, c, s) :: m)
/-- what is told: of an action that ends; of one that raises -/
inductive LO where
  | ret
  | exc (C : Nat) (ns : List Nat) (ds : List D)
def tellD (r : Option Oc) : Option D := match r with
  | some (.ret (.fr d) []) => some d
  | _ => none
def tellX (L : List (Nat × Nat × Bool)) (n : Nat) (C : Nat) (ns : List Nat) (ds : List D) : List Clu → Option D
  | [] => none
  | (i, c, s) :: m => match kitL L (100 + C) c with
    | none => none
    | some true => tellD (s (match i with
      | some j => (List.replicate n none).set j (some (.ex C ns ds))
      | none => List.replicate n none) [])
    | some false => tellX L n C ns ds m
def tellF (L : List (Nat × Nat × Bool)) (n : Nat) (m : List Clu) (behind : XS) : LO → Option D
  | .ret => tellD (behind (List.replicate n none) [])
  | .exc C ns ds => tellX L n C ns ds m
/-- the state with nothing of our own -/
abbrev Cf0 (G : Ct) (W F H : Hp) : Prop := Cf G [] W F H [] [] []
def LamOut (G : Ct) (W : Hp) (tl : XK → Hp → VK → Prop) (H : Hp) (Bk : Hp → Hp → Prop) : LO → Prop
  | .ret => ∀ (E : XK) (Q : VK), (∀ v W' F' H', Same W W' → Bk W' F' → Cf0 G W' F' H' → Q v H') → tl E H Q
  | .exc C ns ds => ∀ (E : XK) (Q : VK), (∀ d vs W' F' H', Same W W' → Bk W' F' → Cf0 G W' F' H' → IsL G.b W' ds vs → W' d = some (.xd ((ns.map G.b.nm).zip vs)) → E (.ref (G.b.cl C)) (some d) H') → tl E H Q
def TTd (G : Ct) (Told : LO → Option D) : (XK → Hp → VK → Prop) → Hp → VK → Prop := fun tl H Q => ∃ W F o d Bk, Cf0 G W F H ∧ Told o = some d ∧ LamOut G W tl H Bk o ∧
  ∀ v W' W2 F' H', Bk W' F' → Same W' W2 → Cf0 G W2 F' H' → Is G.b W2 d v → Q v H'
def TabMap (T : List (Addr × Str)) : List NdefX.NTab := T.map fun p => (p.1, fun _ _ => p.2)
theorem tabs_of {T : List (Addr × Str)} {H : Hp} (h : NdefX.TabsN (TabMap T) H) : LamX.Tabs T H := fun p hp => NdefX.TabN.to (h _ (List.mem_map.mpr ⟨p, hp, rfl⟩))
theorem tabs_to {T : List (Addr × Str)} {H : Hp} (h : LamX.Tabs T H) : NdefX.TabsN (TabMap T) H := fun q hq => by
  obtain ⟨p, hp, rfl⟩ := List.mem_map.mp hq
  exact NdefX.TabN.of (h p hp)
/-- all our own things away, and back -/
theorem Cf.away (c : Cf G α W F H σ en hp) : ∃ F1, Cf0 G W F1 H ∧ ∀ W2 H2, Same W W2 → Cf0 G W2 F1 H2 → ∃ γ, Grow α γ ∧ Cf G γ W2 F H2 σ en hp := by
  obtain ⟨F1, c1, back⟩ := c.enter (keep := []) List.nodup_nil (fun i h => by cases h) (hs := []) rfl
  refine ⟨F1, c1, fun W2 H2 s c2 => ?_⟩
  obtain ⟨γ, l, c3, _⟩ := back [] W2 H2 [] s (Grow.refl _) c2
  refine ⟨γ, l, ?_⟩
  have e : bakH [] hp [] = hp := by
    unfold bakH
    simp [putBack]
  rw [e] at c3
  exact c3
def xTold (tell : LO → Option D) (body : XE) : XE := fun en hp => match body en hp with
  | none => none
  | some (.ok _ hp1) => match tell .ret with
    | none => none
    | some d => some (.ok (.fr d) hp1)
  | some (.exc C ns ds hp1) => match tell (.exc C ns ds) with
    | none => none
    | some d => some (.ok (.fr d) hp1)
theorem se_told {T : List (Addr × Str)} {tell : LO → Option D} {t : XK → TE} {body : XE} (hT : G.T = TabMap T) (h : ∀ E : XK, SE G (fun c d _ H => E c d H) (t E) body) : SE G Ex (LamX.tLam T (TTd G tell) t) (xTold tell body) := fun α W F H σ en hp r Q c e k => by
  refine ⟨tabs_of (hT ▸ c.tab), fun H1 eN T1 => ?_⟩
  have c1 := c.extN eN (hT ▸ tabs_to T1)
  obtain ⟨F0, b0, _⟩ := c1.away
  unfold xTold at e
  split at e
  · cases e
  · rename_i p hp1 eb
    split at e
    · cases e
    · rename_i d ed
      cases e
      refine ⟨W, F0, .ret, d, fun W' F' => Same W W' ∧ ∃ β, Grow α β ∧ ∀ W2 H2, Same W' W2 → Cf0 G W2 F' H2 → ∃ γ, Grow β γ ∧ Cf G γ W2 F H2 σ en hp1, b0, ed, fun E Q' kk => h E α W F H1 σ en hp _ Q' c1 eb fun v β W' H' s l c' i => ?_, fun v W' W2 F' H' b s c' hv => ?_⟩
      · obtain ⟨F1, b1, back⟩ := c'.away
        exact kk v W' F1 H' s ⟨s, β, l, back⟩ b1
      · obtain ⟨s1, β, l, back⟩ := b
        obtain ⟨γ, l2, c2⟩ := back W2 H' s c'
        exact k v γ W2 H' (s1.trans s) (l.trans l2) c2 hv
  · rename_i C ns ds hp1 eb
    split at e
    · cases e
    · rename_i d ed
      cases e
      refine ⟨W, F0, .exc C ns ds, d, fun W' F' => Same W W' ∧ ∃ β, Grow α β ∧ ∀ W2 H2, Same W' W2 → Cf0 G W2 F' H2 → ∃ γ, Grow β γ ∧ Cf G γ W2 F H2 σ en hp1, b0, ed, fun E Q' kk => h E α W F H1 σ en hp _ Q' c1 eb fun dd vs β W' H' s l c' iv hd => ?_, fun v W' W2 F' H' b s c' hv => ?_⟩
      · obtain ⟨F1, b1, back⟩ := c'.away
        exact kk dd vs W' F1 H' s ⟨s, β, l, back⟩ b1 iv hd
      · obtain ⟨s1, β, l, back⟩ := b
        obtain ⟨γ, l2, c2⟩ := back W2 H' s c'
        exact k v γ W2 H' (s1.trans s) (l.trans l2) c2 hv
/-- the def's side -/
theorem told_run {tell : LO → Option D} {tl : XK → Hp → VK → Prop} {H : Hp} {Q : VK} {f c' : Addr} {q : Str} {l : List DL.Clause} {K : PySem.W.Frag} {Wo : WX} {D : Ends} {σ : L2.St} {n : Nat} (h : TTd G tell tl H Q) (h0 : σ[0]? = some (some (.ref f))) (hc : H c' = some (LamX.CodeO c' q))
    (hret : ∀ d W F H', tell .ret = some d → Cf0 G W F H' → (∀ v W' H2, Same W W' → Cf0 G W' F H2 → Is G.b W' d v → Q v H2) → D.nx σ H')
    (hexc : ∀ C ns ds d W F H' dd (σ' : L2.St) vs, tell (.exc C ns ds) = some d → σ'.length = n → Cf0 G W F H' → IsL G.b W ds vs → W dd = some (.xd ((ns.map G.b.nm).zip vs)) → (∀ v W' H2, Same W W' → Cf0 G W' F H2 → Is G.b W' d v → Q v H2) → DL.wCl K Wo D l (.ref (G.b.cl C)) (some dd) σ' H') :
    ∃ Ech : XK, (∀ cls d σ' H', Ech cls d H' → (σ'.length = n → DL.wCl K Wo D l cls d σ' H')) ∧ σ[0]? = some (some (.ref f)) ∧ H c' = some (LamX.CodeO c' q) ∧ tl Ech H fun _ H' => D.nx σ H' := by
  obtain ⟨W, F, o, d, Bk, c, ht, ho, k⟩ := h
  refine ⟨fun cls d H' => ∀ σ' : L2.St, σ'.length = n → DL.wCl K Wo D l cls d σ' H', fun cls d σ' H' hh hl => hh σ' hl, h0, hc, ?_⟩
  cases o with
  | ret => exact ho _ _ fun v W' F' H' s b c' => hret d W' F' H' ht c' fun v W2 H2 s2 c2 hv => k v W' W2 F' H2 b s2 c2 hv
  | exc C ns ds => exact ho _ _ fun dd vs W' F' H' s b c' iv hd σ' hl => hexc C ns ds d W' F' H' dd σ' vs ht hl c' iv hd fun v W2 H2 s2 c2 hv => k v W' W2 F' H2 b s2 c2 hv
/-- a suite that ends with data -/
theorem tell_run {Cx : Nat} {t : TS} {s : XS} {D : Ends} (hs : SS (G.at Cx a dd) E0x t s) (e : tellD (s en []) = some d) (c : Cf (G.at Cx a dd) [] W F H σ en []) (k : ∀ v W' H2, Same W W' → Cf0 G W' F H2 → Is G.b W' d v → D.rt v H2) : t D σ H := by
  unfold tellD at e
  split at e
  · rename_i d' es
    cases e
    refine hs [] W F H σ en [] _ D c es fun v β W' H' sm l c' i => ?_
    have hβ : β = [] := List.length_eq_zero_iff.mp c'.al
    subst hβ
    exact k v W' H' sm ⟨rfl, fun i p e => by simp at e, c'.al, fun i o b e => by simp at e, c'.inj, c'.dFW, c'.sW, c'.sF, c'.tab, c'.nt⟩ i
  · cases e
theorem cf0_at {Cx : Nat} (c : Cf0 G W F H) : Cf0 (G.at Cx a dd) W F H := ⟨rfl, fun i p e => by simp at e, c.al, fun i o b e => by simp at e, c.inj, c.dFW, c.sW, c.sF, c.tab, c.nt⟩
theorem tell_clauses {L : List (Nat × Nat × Bool)} (hL : ExmOk G.b L) {n : Nat} {ns : List Nat} {ds : List ML.D} {Wo : WX} {D : Ends} {vs : List V} (hlen : σ.length = n) (c : Cf0 G W F H) (il : IsL G.b W ds vs) (hd : W dd = some (.xd ((ns.map G.b.nm).zip vs)))
    (k : ∀ v W' H2, Same W W' → Cf0 G W' F H2 → Is G.b W' d v → D.rt v H2) : ∀ {l : List DL.Clause} {m : List Clu}, CluOk G l m → tellX L n C ns ds m = some d → DL.wCl G.b.K Wo D l (.ref (G.b.cl C)) (some dd) σ H := by
  intro l m hm
  induction hm with
  | nil => intro e; cases e
  | @cons i cv t l c0 s m hc hs r ih =>
    intro e
    unfold tellX at e
    have key : ∀ b, kitL L (100 + C) c0 = some b → PySem.W.exmOne G.b.K (.ref (G.b.cl C)) cv = some b := fun b eb => by
      unfold kitL at eb
      rw [Option.map_eq_some_iff] at eb
      obtain ⟨y, hy, rfl⟩ := eb
      have hm := List.mem_of_find?_eq_some hy
      have hp2 := List.find?_some hy
      rw [Bool.and_eq_true, beq_iff_eq, beq_iff_eq] at hp2
      have h3 := hL y hm
      rw [hp2.1, hp2.2] at h3
      have e1 : tyVal G.b (100 + C) = .ref (G.b.cl C) := by
        unfold tyVal
        rw [if_neg (by omega), show 100 + C - 100 = C by omega]
      rw [e1] at h3
      rw [hc]
      exact h3
    split at e
    · cases e
    · rename_i eb
      refine ⟨true, key _ eb, fun _ a ha => ?_, fun z => by cases z⟩
      cases i with
      | none =>
        refine tell_run (hs C a dd) e ((cf0_at c).slots (by simp [DL.inS, hlen]) fun i p z => ?_) k
        rw [List.getElem?_replicate] at z
        split at z <;> cases z
      | some j =>
        refine tell_run (D := DL.outE (some j) D) (hs C a dd) e ((cf0_at c).slots (by simp [DL.inS, hlen]) fun i p z => ?_) k
        by_cases q : i = j
        · subst q
          rw [List.getElem?_set] at z
          simp only [if_true] at z
          split at z
          · rename_i hj
            cases z
            rw [List.length_replicate, ← hlen] at hj
            exact ⟨.ref a, List.getElem?_set_self hj, rfl, rfl, vs, hd, il⟩
          · cases z
        · rw [List.getElem?_set_ne (Ne.symm q), List.getElem?_replicate] at z
          split at z <;> cases z
    · rename_i eb
      exact ⟨false, key _ eb, fun z => (by cases z), fun _ => ih e⟩
end
end ML

namespace ML
open PySem L2 PySem.Spec PyProof.Rows

section
variable {X : Cx} {K : PySem.W.Frag}
theorem op_eqDK (K : PySem.W.Frag) (h : X.K = K) (hu : X.A.units + 64 < cLine) : OpR X (compareOp .Eq) (rEqD K) := h ▸ op_eqD hu
theorem op_neDK (K : PySem.W.Frag) (h : X.K = K) (hu : X.A.units + 64 < cLine) : OpR X (compareOp .NotEq) (rNeD K) := h ▸ op_neD hu
/-- own ==, !=, len by the def -/
structure CalE (P : Program) (w : World) (K : PySem.W.Frag) (mg : Str → Option Value) (base : Heap) (k : Nat) (C : Addr) (sp : Sp) : Prop where
  ex : ∃ f fd, DL.OwnEq K C f ∧ Binds K fd ["self", "other"] [] ∧ FnOk P w K mg base CX0 k f fd ["self", "other"] sp
structure CalL (P : Program) (w : World) (K : PySem.W.Frag) (mg : Str → Option Value) (base : Heap) (k : Nat) (C : Addr) (sp : Sp) : Prop where
  ex : ∃ f fd, PySem.W.findIn K (.ref C) "__len__" = some (some (.ref f)) ∧ PySem.W.isFn K (.ref f) = true ∧ Binds K fd ["self"] [] ∧ FnOk P w K mg base CX0 k f fd ["self"] sp
theorem op_eqC {C : Addr} {k j : Nat} {sp : Sp} (K : PySem.W.Frag) (h : X.K = K) (c : CalE X.prog X.w K X.mg X.base k C sp) (hr : Room j X.A) (hk : k ≤ j) : OpR X (compareOp .Eq) (DL.rOEq K C sp (fun _ _ _ => False) false) := by
  subst h
  obtain ⟨f, fd, h1, h2, h3⟩ := c.ex
  exact DL.op_eqO h1 h3 h2 C8.pass0 hr hk
theorem op_neC {C : Addr} {k j : Nat} {sp : Sp} (K : PySem.W.Frag) (h : X.K = K) (c : CalE X.prog X.w K X.mg X.base k C sp) (hr : Room (j + 1) X.A) (hk : k ≤ j) : OpR X (compareOp .NotEq) (DL.rOEq K C sp (fun _ _ _ => False) true) := by
  subst h
  obtain ⟨f, fd, h1, h2, h3⟩ := c.ex
  exact DL.op_neO h1 h3 h2 C8.pass0 hr hk
theorem call_lenC {C : Addr} {k j : Nat} {sp : Sp} (K : PySem.W.Frag) (h : X.K = K) (c : CalL X.prog X.w K X.mg X.base k C sp) (hr : Room (j + 1) X.A) (hk : k ≤ j) : CallR X (.builtin "len") (DL.rOLen C sp (fun _ _ _ => False)) := by
  subst h
  obtain ⟨f, fd, h0, h1, h2, h3⟩ := c.ex
  exact DL.call_lenO h0 h1 h3 h2 C8.pass0 hr hk
theorem op_binCK {CX : CXT} {C : Addr} {k j : Nat} {sp : Sp} {E : XK} {op : Operator} (K : PySem.W.Frag) (h : X.K = K) (c : DL.CalB X.prog X.w K X.mg X.base CX k C op sp) (hx : Passes CX X E) (hr : Room j X.A) (hk : k ≤ j) : OpR X (binaryOp op) (DL.rOBin K C sp E) := by
  subst h
  exact DL.op_binC c hx hr hk
end
section
variable {G : Ct} {Ex : WX} {α β : List Addr} {W W' F H H' : Hp} {σ : L2.St} {en : En} {hp hp' : List O} {te ta tb tv : TE} {tt : TT} {tas : TA} {x y xa ya xo xv xi : XE} {xt : XT} {xas : XA} {v w : V} {p q : PV} {k : Bool} {ps items : List PV} {d : D} {a dd : Addr} {o : O} {ho ho' : HO} {i j : Nat} {E : XK} {f : Fn} {C : Nat}
theorem g_isC : G2 G DL.rIsC (gIsB false) := fun α W F H σ en hp p q v w y hp' Q c ip iq e k => g_isB (neg := false) α W F H σ en hp p q v w y hp' Q c ip iq e k
def zNever : XS := fun _ _ => none
theorem ss_never : SS G Ex tNever zNever := fun α W F H σ en hp r D c e g => by cases e
theorem ss_nevert {t : TS} : SS G Ex t zNever := fun α W F H σ en hp r D c e g => by cases e

/-! ### a list of our own lent as data -/
mutual
/-- no list among it -/
def noL : D → Bool
  | .lst _ => false
  | .rol _ => false
  | .rot _ => false
  | .tup xs => noLs xs
  | .ins _ _ xs => noLs xs
  | .dct _ xs => noLs xs
  | .dtt _ xs => noLs xs
  | _ => true
def noLs : List D → Bool
  | [] => true
  | x :: xs => noL x && noLs xs
end
def rmv (W : Hp) (a : Addr) : Hp := fun b => if b = a then none else W b
theorem rmv_ne {W : Hp} {a b : Addr} (h : b ≠ a) : rmv W a b = W b := by unfold rmv; rw [if_neg h]
theorem rmv_same {W : Hp} {a : Addr} : rmv W a a = none := by unfold rmv; rw [if_pos rfl]
theorem rmv_le {W : Hp} {a : Addr} : Same (rmv W a) W := fun b o e => by
  by_cases q : b = a
  · subst q; rw [rmv_same] at e; cases e
  · rw [rmv_ne q] at e; exact e
mutual
theorem Is.unl {b : Bs} {W : Hp} {a : Addr} {us : List V} (hW : W a = some (.lst us)) : ∀ {d : D} {v : V}, noL d = true → Is b W d v → Is b (rmv W a) d v
  | .non, v, _, h => h
  | .bl _, v, _, h => h
  | .int _, v, _, h => h
  | .str _, v, _, h => h
  | .ty _, v, _, h => h
  | .cls _, v, _, h => h
  | .lst _, v, n, h => by simp [noL] at n
  | .rol _, v, n, h => by simp [noL] at n
  | .rot _, v, n, h => by simp [noL] at n
  | .tup xs, v, n, h => by
    unfold noL at n
    obtain ⟨c, vs, rfl, h1, h2⟩ := is_tup.mp h
    have q : c ≠ a := fun z => by rw [z, hW] at h1; cases h1
    exact is_tup.mpr ⟨c, vs, rfl, by rw [rmv_ne q]; exact h1, IsL.unl hW n h2⟩
  | .ins C ns xs, v, n, h => by
    unfold noL at n
    obtain ⟨c, dx, vs, rfl, h1, h2, h3⟩ := is_ins.mp h
    have q : c ≠ a := fun z => by rw [z, hW] at h1; cases h1
    exact is_ins.mpr ⟨c, dx, vs, rfl, by rw [rmv_ne q]; exact h1, h2, IsL.unl hW n h3⟩
  | .dct ks xs, v, n, h => by
    unfold noL at n
    obtain ⟨c, vs, rfl, h1, h2, h3⟩ := is_dct.mp h
    have q : c ≠ a := fun z => by rw [z, hW] at h1; cases h1
    exact is_dct.mpr ⟨c, vs, rfl, by rw [rmv_ne q]; exact h1, h2, IsL.unl hW n h3⟩
  | .dtt ks xs, v, n, h => by
    unfold noL at n
    obtain ⟨c, vs, rfl, h1, h2, h3⟩ := is_dtt.mp h
    have q : c ≠ a := fun z => by rw [z, hW] at h1; cases h1
    exact is_dtt.mpr ⟨c, vs, rfl, by rw [rmv_ne q]; exact h1, h2, IsL.unl hW n h3⟩
theorem IsL.unl {b : Bs} {W : Hp} {a : Addr} {us : List V} (hW : W a = some (.lst us)) : ∀ {ds : List D} {vs : List V}, noLs ds = true → IsL b W ds vs → IsL b (rmv W a) ds vs
  | [], vs, _, h => by rw [h.nil_inv]; exact IsL.nil
  | d :: ds, vs, n, h => by
    unfold noLs at n
    rw [Bool.and_eq_true] at n
    obtain ⟨v, ws, rfl, h1, h2⟩ := h.uncons
    exact IsL.cons (Is.unl hW n.1 h1) (IsL.unl hW n.2 h2)
end
def datE (en : En) : En := en.map fun e => match e with
  | some (.fr d) => some (.fr d)
  | _ => none
/-- slot j, a list of our own, is data while x is reckoned; nothing else of our own is at hand -/
def xBor (j : Nat) (x : XE) : XE := fun en hp => match en[j]? with
  | some (some (.rf i)) => match hp[i]? with
    | some (.lst ds) => match x ((datE en).set j (some (.fr (.lst ds)))) [] with
      | some (.ok (.fr z) []) => if noL z then some (.ok (.fr z) hp) else none
      | some (.exc C ns es []) => if noLs es then some (.exc C ns es hp) else none
      | _ => none
    | _ => none
  | some (some (.fr _)) => x en hp
  | _ => none
theorem set_same {γ : Type} {l : List γ} {i : Nat} {z : γ} (h : l[i]? = some z) : l.set i z = l := by
  apply List.ext_getElem?
  intro n
  by_cases q : n = i
  · subst q
    rw [List.getElem?_set_self (List.getElem?_eq_some_iff.mp h).1, h]
  · rw [List.getElem?_set_ne (Ne.symm q)]
theorem se_bor (h : SE G Ex te x) : SE G Ex te (xBor j x) := fun α W F H σ en hp r Q c e g => by
  unfold xBor at e
  split at e
  · rename_i i hj
    split at e
    · rename_i ds ho
      obtain ⟨v, hv, a, ha, rfl⟩ := c.get hj
      have hi : i < hp.length := (List.getElem?_eq_some_iff.mp ho).1
      obtain ⟨F1, c1, back⟩ := c.enter (keep := [i]) (by simp) (fun k hk => by simp at hk; omega) (hs := [.lst ds]) (by unfold subH; rw [ho]; rfl)
      have hA : subA [i] α = [a] := by
        unfold subA
        rw [List.map_cons, List.getD_eq_getElem?_getD, ha]
        rfl
      rw [hA] at c1 back
      obtain ⟨u, k1, ⟨vs, rfl, il⟩, k3, k4⟩ := (ownAt_live (o := .lst ds) rfl).mp (c1.own 0 _ a rfl rfl)
      have s1 : Same W (upd W a (.lst vs)) := same_upd k3
      obtain ⟨c2, _⟩ := c1.freeze (i := 0) (d := .lst ds) rfl rfl rfl k1 fun W' s hw => is_lst.mpr ⟨a, vs, rfl, hw, il.mono s⟩
      have c3 : Cf0 G (upd W a (.lst vs)) F1 H := c2.sub (keep := []) List.nodup_nil (fun k hk => by cases hk) (hs := []) rfl
      have c4 : Cf G [] (upd W a (.lst vs)) F1 H σ ((datE en).set j (some (.fr (.lst ds)))) [] := c3.slots (by unfold datE; rw [List.length_set, List.length_map]; exact c.len) fun n p e => by
        by_cases q : n = j
        · subst q
          rw [List.getElem?_set] at e
          simp only [if_true] at e
          split at e
          · cases e
            exact ⟨.ref a, hv, is_lst.mpr ⟨a, vs, rfl, upd_same, il.mono s1⟩⟩
          · cases e
        · rw [List.getElem?_set_ne (Ne.symm q)] at e
          unfold datE at e
          rw [List.getElem?_map, Option.map_eq_some_iff] at e
          obtain ⟨z, h1, h2⟩ := e
          cases z with
          | none => cases h2
          | some p' =>
            cases p' with
            | rf _ => cases h2
            | ex _ _ _ => cases h2
            | fr d =>
              cases h2
              obtain ⟨v', h3, h4⟩ := c.env n _ h1
              exact ⟨v', h3, Is.mono s1 h4⟩
      -- back: the list is ours again
      have again : ∀ {β W' H' σ' en'}, Same (upd W a (.lst vs)) W' → Cf G β W' F1 H' σ' en' [] → ∃ γ, Grow α γ ∧ Cf G γ (rmv W' a) F H' σ en hp ∧ Same W (rmv W' a) ∧ W' a = some (.lst vs) := fun {β W' H' σ' en'} s c' => by
        have hW : W' a = some (.lst vs) := s _ _ upd_same
        have sw : Same W (rmv W' a) := fun b o e => by
          have q : b ≠ a := ne_of_none e k3
          rw [rmv_ne q]
          exact s b o (by rw [upd_ne q]; exact e)
        have c5 : Cf G [a] (rmv W' a) F1 H' [] [] [.lst ds] := ⟨rfl, fun n p e => by simp at e, rfl, fun n o b e eb => by
            cases n with
            | zero =>
              simp at e eb
              subst e eb
              exact (ownAt_live rfl).mpr ⟨_, c'.sW _ _ hW, ⟨vs, rfl, il.mono sw⟩, rmv_same, k4⟩
            | succ n => simp at e, fun n m o o' b e e' _ _ _ _ => (by
            cases n with
            | zero => cases m with
              | zero => rfl
              | succ m => simp at e'
            | succ n => simp at e), fun b => (by
            by_cases q : b = a
            · subst q; exact .inr rmv_same
            · rw [rmv_ne q]; exact c'.dFW b), rmv_le.trans c'.sW, c'.sF, c'.tab, fun b ps z => (by
            by_cases q : b = a
            · subst q; rw [rmv_same] at z; cases z
            · rw [rmv_ne q] at z; exact c'.nt.1 b ps z), c'.nt.2⟩
        obtain ⟨γ, l, c6, _⟩ := back [a] (rmv W' a) H' [.lst ds] sw (Grow.refl _) c5
        have eb : bakH [i] hp [.lst ds] = hp := by
          unfold bakH
          show putBack [i] [bakO [i] hp.length (.lst ds)] hp ++ [] = hp
          rw [List.append_nil]
          exact set_same ho
        rw [eb] at c6
        exact ⟨γ, l, c6, sw, hW⟩
      split at e
      · rename_i z ex
        split at e
        · rename_i hz
          cases e
          refine h [] _ F1 H σ _ [] _ Q c4 ex fun u β W' H' s l c' iu => ?_
          obtain ⟨γ, l2, c6, sw, hW⟩ := again s c'
          exact g u γ _ H' sw l2 c6 (isP_fr.mpr (Is.unl hW hz (isP_fr.mp iu)))
        · cases e
      · rename_i C ns es ex
        split at e
        · rename_i hz
          cases e
          refine h [] _ F1 H σ _ [] _ Q c4 ex fun d us β W' H' s l c' iv hd => ?_
          obtain ⟨γ, l2, c6, sw, hW⟩ := again s c'
          have q : d ≠ a := fun z => by rw [z, hW] at hd; cases hd
          exact g d us γ _ H' sw l2 c6 (IsL.unl hW hz iv) (by rw [rmv_ne q]; exact hd)
        · cases e
      · cases e
    · cases e
  · exact h α W F H σ en hp r Q c e g
  · cases e
end
end ML

namespace DL
open PySem PySem.Spec PyProof.Rows
/-! ### iterators of tuples and lists, told alike -/
def SIt : Bool → Heap → Addr → Addr → Nat → Prop
  | true, h, i, l, k => h.IsTupleIter i l k
  | false, h, i, l, k => h.IsListIter i l k
def SAt : Bool → Heap → Addr → Array Value → Prop
  | true, h, l, xs => h.IsTuple l xs
  | false, h, l, xs => h.IsList l xs
theorem SIt.at {t : Bool} {h h' : Heap} {i l : Addr} {k : Nat} (x : SIt t h i l k) (e : ∀ o, h.get? i = some o → h'.get? i = some o) : SIt t h' i l k := by
  cases t with
  | true => exact Heap.IsTupleIter.at x e
  | false => exact Heap.IsListIter.at x e
theorem SAt.at {t : Bool} {h h' : Heap} {l : Addr} {xs : Array Value} (x : SAt t h l xs) (e : ∀ o, h.get? l = some o → h'.get? l = some o) : SAt t h' l xs := by
  cases t with
  | true => exact Heap.IsTuple.at x e
  | false => exact Heap.IsList.at x e
section
variable {prog : Program} {w : World} {A : Around} {E : Value → Shared → Prop} {s : Shared}
theorem nextS_item {t : Bool} {it l : Addr} {i : Nat} {items : Array Value} {x : Value} {Q : Value → Shared → Prop} (hit : SIt t s.heap it l i) (hl : SAt t s.heap l items) (hx : items[i]? = some x)
    (hQ : ∀ h', SIt t h' it l (i + 1) → Heap.SameBut it s.heap h' → Q x { s with heap := h' }) : wpAny (model prog w) A (Builtin.SmallTypes.nextOf (.ref it)) Q E s := by
  cases t with
  | true => exact RZ.nextOf_tuple_item hit hl hx hQ
  | false => exact wpAny_nextOf_list_item hit hl hx hQ
theorem nextS_end {t : Bool} {it l : Addr} {i : Nat} {items : Array Value} {Q : Value → Shared → Prop} (hh : A.handled = none) (hit : SIt t s.heap it l i) (hl : SAt t s.heap l items) (hx : items[i]? = none)
    (hE : ∀ h' e, Heap.ExtBut it s.heap h' → (∃ o, h'.get? e = some o ∧ o.cls = .type "StopIteration") → E (.ref e) { s with heap := h' }) : wpAny (model prog w) A (Builtin.SmallTypes.nextOf (.ref it)) Q E s := by
  cases t with
  | true => exact RZ.nextOf_tuple_end hh hit hl hx hE
  | false => exact wpAny_nextOf_list_end hh hit hl hx hE
variable {z TI TO T i1 i2 l1 l2 : Addr} {f t1 t2 : Bool} {oT : Obj} {k1 k2 : Nat} {xs ys : Array Value} {x y : Value}
theorem zipH_item {Q : Value → Shared → Prop} (D : ZipApart z TI TO i1 i2 l1 l2) (hz : IsZipHeld s.heap z TI TO T f) (hT : s.heap.get? T = some oT) (hTI : IsPair s.heap TI (.ref i1) (.ref i2)) (h1 : SIt t1 s.heap i1 l1 k1) (h2 : SIt t2 s.heap i2 l2 k2)
    (hl1 : SAt t1 s.heap l1 xs) (hl2 : SAt t2 s.heap l2 ys) (hx : xs[k1]? = some x) (hy : ys[k2]? = some y)
    (hQ : ∀ h', IsZipHeld h' z TI TO T true → SIt t1 h' i1 l1 (k1 + 1) → SIt t2 h' i2 l2 (k2 + 1) → IsPair h' s.heap.objs.size x y → h'.objs.size = s.heap.objs.size + 1 → (∀ c o, c ≠ z → c ≠ i1 → c ≠ i2 → s.heap.get? c = some o → h'.get? c = some o) → Q (.ref s.heap.objs.size) { s with heap := h' }) :
    wpAny (model prog w) A (Builtin.«zip.__next__» ⟨[.ref z], []⟩) (fun fin s' => ∃ v, fin = .done (.ret v) ∧ Q v s') E s := by
  show wpAny _ _ (field (.ref z) 2 >>= _) _ _ _; refine wpAny_bind (wpAny_field hz rfl (x := .bool false) rfl ?_)
  show wpAny _ _ (field (.ref z) 3 >>= _) _ _ _; refine wpAny_bind (wpAny_field hz rfl (x := .ref TI) rfl (wpAny_bind (wpAny_seqItems hTI rfl ?_)))
  show wpAny _ _ (Builtin.SmallTypes.ownedTupleIsFree (.ref z) >>= _) _ _ _; refine wpAny_bind (wpAny_tupleHeld_zip hz hT fun g1 hz1 e1 => ?_)
  simp only [Bool.false_eq_true, if_false]; refine wpAny_bind ?_
  rw [← Array.forIn_toList]; simp only [List.forIn_cons, List.forIn_nil]
  refine wpAny_bind (wpAny_bind (wpAny_holding ?_)); show wpAny _ _ (Builtin.SmallTypes.nextOf (.ref i1) >>= _) _ _ _
  refine wpAny_bind (nextS_item (s := { s with heap := g1 }) (h1.at fun o q => e1.extBut _ _ D.i1z q) (hl1.at fun o q => e1.extBut _ _ D.l1z q) hx fun g2 h12 e2 => wpAny_pure (wpAny_pure ?_))
  refine wpAny_bind (wpAny_bind (wpAny_holding ?_)); show wpAny _ _ (Builtin.SmallTypes.nextOf (.ref i2) >>= _) _ _ _
  refine wpAny_bind (nextS_item (s := { s with heap := g2 }) ((h2.at fun o q => e1.extBut _ _ D.i2z q).at fun o q => e2.extBut _ _ D.i12.symm q) ((hl2.at fun o q => e1.extBut _ _ D.l2z q).at fun o q => e2.extBut _ _ D.l2i1 q) hy fun g3 h23 e3 => wpAny_pure (wpAny_pure (wpAny_pure ?_)))
  show wpAny _ _ (newTuple [x, y] >>= _) _ _ _; refine wpAny_bind (wpAny_newTuple ?_)
  have hsz : g3.objs.size = s.heap.objs.size := by rw [e3.1, e2.1, e1.1]
  have kp : ∀ c o, c ≠ z → c ≠ i1 → c ≠ i2 → s.heap.get? c = some o → g3.get? c = some o := fun c o c1 c2 c3 e => e3.extBut _ _ c3 (e2.extBut _ _ c2 (e1.extBut _ _ c1 e))
  refine wpAny_pure ⟨_, rfl, (show Q (.ref g3.objs.size) _ from ?_)⟩
  have hp : IsPair (g3.push { cls := .type "tuple", data := .seq #[x, y] }) g3.objs.size x y := Heap.get?_push_size _ rfl
  have hz4 : (g3.push { cls := .type "tuple", data := .seq #[x, y] }).objs.size = g3.objs.size + 1 := Heap.size_push ..
  rw [hsz] at hp hz4 ⊢
  exact hQ _ (Heap.get?_push_of_some _ (e3.extBut _ _ D.i2z.symm (e2.extBut _ _ D.i1z.symm hz1))) ((h12.at fun o q => e3.extBut _ _ D.i12 q).at fun o e => Heap.get?_push_of_some _ e) (h23.at fun o e => Heap.get?_push_of_some _ e) hp hz4 fun c o c1 c2 c3 e => Heap.get?_push_of_some _ (kp c o c1 c2 c3 e)
theorem zipH_end {Q : Fin → Shared → Prop} (hh : A.handled = none) (D : ZipApart z TI TO i1 i2 l1 l2) (hz : IsZipHeld s.heap z TI TO T f) (hT : s.heap.get? T = some oT) (hTI : IsPair s.heap TI (.ref i1) (.ref i2)) (h1 : SIt t1 s.heap i1 l1 k1) (h2 : SIt t2 s.heap i2 l2 k2)
    (hl1 : SAt t1 s.heap l1 xs) (hl2 : SAt t2 s.heap l2 ys) (hend : xs[k1]? = none)
    (hE : ∀ h' e, (∀ c o, c ≠ z → c ≠ i1 → c ≠ i2 → s.heap.get? c = some o → h'.get? c = some o) → (∃ o, h'.get? e = some o ∧ o.cls = .type "StopIteration") → E (.ref e) { s with heap := h' }) :
    wpAny (model prog w) A (Builtin.«zip.__next__» ⟨[.ref z], []⟩) Q E s := by
  show wpAny _ _ (field (.ref z) 2 >>= _) _ _ _; refine wpAny_bind (wpAny_field hz rfl (x := .bool false) rfl ?_)
  show wpAny _ _ (field (.ref z) 3 >>= _) _ _ _; refine wpAny_bind (wpAny_field hz rfl (x := .ref TI) rfl (wpAny_bind (wpAny_seqItems hTI rfl ?_)))
  show wpAny _ _ (Builtin.SmallTypes.ownedTupleIsFree (.ref z) >>= _) _ _ _; refine wpAny_bind (wpAny_tupleHeld_zip hz hT fun g1 hz1 e1 => ?_)
  simp only [Bool.false_eq_true, if_false]; refine wpAny_bind ?_
  rw [← Array.forIn_toList]; simp only [List.forIn_cons, List.forIn_nil]
  refine wpAny_bind (wpAny_bind (wpAny_holding ?_)); show wpAny _ _ (Builtin.SmallTypes.nextOf (.ref i1) >>= _) _ _ _
  exact wpAny_bind (nextS_end (s := { s with heap := g1 }) hh (h1.at fun o q => e1.extBut _ _ D.i1z q) (hl1.at fun o q => e1.extBut _ _ D.l1z q) hend fun g2 e e2 he => hE g2 e (fun c o c1 c2 _ x => e2 _ _ c2 (e1.extBut _ _ c1 x)) he)
/-- the first turn: the zip's own tuple is free -/
theorem zipF_item {a b : Value} {Q : Value → Shared → Prop} (D : ZipApart z TI TO i1 i2 l1 l2) (hz : IsZip s.heap z TI TO .none) (hTI : IsPair s.heap TI (.ref i1) (.ref i2)) (hTO : IsPair s.heap TO a b) (h1 : SIt t1 s.heap i1 l1 k1) (h2 : SIt t2 s.heap i2 l2 k2)
    (hl1 : SAt t1 s.heap l1 xs) (hl2 : SAt t2 s.heap l2 ys) (hx : xs[k1]? = some x) (hy : ys[k2]? = some y)
    (hQ : ∀ h', IsZip h' z TI TO (rawInt s.heap.objs.size) → SIt t1 h' i1 l1 (k1 + 1) → SIt t2 h' i2 l2 (k2 + 1) → IsPair h' s.heap.objs.size x y → h'.objs.size = s.heap.objs.size + 1 → (∀ c o, c ≠ z → c ≠ TO → c ≠ i1 → c ≠ i2 → s.heap.get? c = some o → h'.get? c = some o) → Q (.ref s.heap.objs.size) { s with heap := h' }) :
    wpAny (model prog w) A (Builtin.«zip.__next__» ⟨[.ref z], []⟩) (fun fin s' => ∃ v, fin = .done (.ret v) ∧ Q v s') E s := by
  show wpAny _ _ (field (.ref z) 2 >>= _) _ _ _; refine wpAny_bind (wpAny_field hz rfl (x := .bool false) rfl ?_)
  show wpAny _ _ (field (.ref z) 3 >>= _) _ _ _; refine wpAny_bind (wpAny_field hz rfl (x := .ref TI) rfl (wpAny_bind (wpAny_seqItems hTI rfl ?_)))
  show wpAny _ _ (Builtin.SmallTypes.ownedTupleIsFree (.ref z) >>= _) _ _ _; refine wpAny_bind ?_
  unfold Builtin.SmallTypes.ownedTupleIsFree; refine wpAny_bind (wpAny_field hz rfl (x := .none) rfl (wpAny_pure ?_))
  simp only [if_true]; refine wpAny_bind (wpAny_rule (wpAny_bind (wpAny_field hz rfl (x := .ref TO) rfl ?_)))
  refine wpAny_bind (wpAny_setField_rec hz (by simp) fun g1 hz1 e1 => ?_); replace hz1 : IsZip g1 z TI TO .ellipsis := hz1
  refine wpAny_bind ?_; simp only [List.zipIdx_cons, List.zipIdx_nil, List.forIn_cons, List.forIn_nil]
  refine wpAny_bind (wpAny_bind (wpAny_onRaise ?_)); show wpAny _ _ (Builtin.SmallTypes.nextOf (.ref i1) >>= _) _ _ _
  refine wpAny_bind (nextS_item (s := { s with heap := g1 }) (h1.at fun o q => e1.extBut _ _ D.i1z q) (hl1.at fun o q => e1.extBut _ _ D.l1z q) hx fun g2 h12 e2 => wpAny_pure ?_)
  have hTO2 : IsPair g2 TO a b := e2.extBut _ _ D.TOi1 (e1.extBut _ _ D.TOz hTO); refine wpAny_bind (wpAny_seqItems hTO2 rfl ?_)
  refine wpAny_bind (wpAny_updateSeq_pair hTO2 fun g3 hTO3 e3 => ?_); replace hTO3 : IsPair g3 TO x b := hTO3
  refine wpAny_bind (wpAny_letGo (wpAny_pure ?_)); refine wpAny_bind (wpAny_bind (wpAny_onRaise ?_))
  show wpAny _ _ (Builtin.SmallTypes.nextOf (.ref i2) >>= _) _ _ _; refine wpAny_bind (nextS_item (s := { s with heap := g3 }) (((h2.at fun o q => e1.extBut _ _ D.i2z q).at fun o q => e2.extBut _ _ D.i12.symm q).at fun o q => e3.extBut _ _ D.TOi2.symm q)
    (((hl2.at fun o q => e1.extBut _ _ D.l2z q).at fun o q => e2.extBut _ _ D.l2i1 q).at fun o q => e3.extBut _ _ D.l2TO q) hy fun g4 h24 e4 => wpAny_pure ?_)
  have hTO4 : IsPair g4 TO x b := e4.extBut _ _ D.TOi2 hTO3; refine wpAny_bind (wpAny_seqItems hTO4 rfl ?_)
  refine wpAny_bind (wpAny_updateSeq_pair hTO4 fun g5 hTO5 e5 => ?_); replace hTO5 : IsPair g5 TO x y := hTO5
  refine wpAny_bind (wpAny_letGo (wpAny_pure (wpAny_pure (wpAny_bind (wpAny_seqItems hTO5 rfl (wpAny_bind (wpAny_newTuple ?_)))))))
  have hsz : g5.objs.size = s.heap.objs.size := by rw [e5.1, e4.1, e3.1, e2.1, e1.1]
  have hz5 : IsZip g5 z TI TO .ellipsis := e5.extBut _ _ D.TOz.symm (e4.extBut _ _ D.i2z.symm (e3.extBut _ _ D.TOz.symm (e2.extBut _ _ D.i1z.symm hz1)))
  have kp : ∀ c o, c ≠ z → c ≠ TO → c ≠ i1 → c ≠ i2 → s.heap.get? c = some o → g5.get? c = some o := fun c o c1 c2 c3 c4 e => e5.extBut _ _ c2 (e4.extBut _ _ c4 (e3.extBut _ _ c2 (e2.extBut _ _ c3 (e1.extBut _ _ c1 e))))
  have h15 : SIt t1 g5 i1 l1 (k1 + 1) := ((h12.at fun o q => e3.extBut _ _ D.TOi1.symm q).at fun o q => e4.extBut _ _ D.i12 q).at fun o q => e5.extBut _ _ D.TOi1.symm q
  have h25 : SIt t2 g5 i2 l2 (k2 + 1) := h24.at fun o q => e5.extBut _ _ D.TOi2.symm q
  have hzl : z < g5.objs.size := Heap.lt_size hz5
  show wpAny _ _ (Builtin.SmallTypes.ownedTupleHandOut (.ref z) (.ref g5.objs.size) >>= _) _ _ _; refine wpAny_bind ?_
  unfold Builtin.SmallTypes.ownedTupleHandOut
  have hz6 : IsZip (g5.push { cls := .type "tuple", data := .seq #[x, y] }) z TI TO .ellipsis := Heap.get?_push_of_some _ hz5
  refine wpAny_bind (wpAny_setField_rec hz6 (by simp) fun g7 hz7 e7 => ?_); replace hz7 : IsZip g7 z TI TO (rawInt g5.objs.size) := hz7
  refine wpAny_setField_rec hz7 (by simp) fun g8 hz8 e8 => ?_; replace hz8 : IsZip g8 z TI TO (rawInt g5.objs.size) := hz8
  have up : ∀ c o, c ≠ z → g5.get? c = some o → g8.get? c = some o := fun c o c1 e => e8.extBut _ _ c1 (e7.extBut _ _ c1 (Heap.get?_push_of_some _ e))
  have hT8 : IsPair g8 g5.objs.size x y := e8.extBut _ _ (Nat.ne_of_gt hzl) (e7.extBut _ _ (Nat.ne_of_gt hzl) (Heap.get?_push_size _ rfl))
  have hs8 : g8.objs.size = g5.objs.size + 1 := by rw [e8.1, e7.1, Heap.size_push]
  rw [hsz] at hz8 hT8 hs8
  refine wpAny_pure ⟨_, rfl, (show Q (.ref g5.objs.size) _ from ?_)⟩
  rw [hsz]
  exact hQ g8 hz8 (h15.at fun o e => up _ o D.i1z e) (h25.at fun o e => up _ o D.i2z e) hT8 hs8 fun c o c1 c2 c3 c4 e => up c o c1 (kp c o c1 c2 c3 c4 e)
theorem zipF_end {a b : Value} {Q : Fin → Shared → Prop} (hh : A.handled = none) (D : ZipApart z TI TO i1 i2 l1 l2) (hz : IsZip s.heap z TI TO .none) (hTI : IsPair s.heap TI (.ref i1) (.ref i2)) (hTO : IsPair s.heap TO a b) (h1 : SIt t1 s.heap i1 l1 k1)
    (hl1 : SAt t1 s.heap l1 xs) (hend : xs[k1]? = none)
    (hE : ∀ h' e, (∀ c o, c ≠ z → c ≠ TO → c ≠ i1 → c ≠ i2 → s.heap.get? c = some o → h'.get? c = some o) → (∃ o, h'.get? e = some o ∧ o.cls = .type "StopIteration") → E (.ref e) { s with heap := h' }) :
    wpAny (model prog w) A (Builtin.«zip.__next__» ⟨[.ref z], []⟩) Q E s := by
  show wpAny _ _ (field (.ref z) 2 >>= _) _ _ _; refine wpAny_bind (wpAny_field hz rfl (x := .bool false) rfl ?_)
  show wpAny _ _ (field (.ref z) 3 >>= _) _ _ _; refine wpAny_bind (wpAny_field hz rfl (x := .ref TI) rfl (wpAny_bind (wpAny_seqItems hTI rfl ?_)))
  show wpAny _ _ (Builtin.SmallTypes.ownedTupleIsFree (.ref z) >>= _) _ _ _; refine wpAny_bind ?_
  unfold Builtin.SmallTypes.ownedTupleIsFree; refine wpAny_bind (wpAny_field hz rfl (x := .none) rfl (wpAny_pure ?_))
  simp only [if_true]; refine wpAny_bind (wpAny_rule (wpAny_bind (wpAny_field hz rfl (x := .ref TO) rfl ?_)))
  refine wpAny_bind (wpAny_setField_rec hz (by simp) fun g1 hz1 e1 => ?_); replace hz1 : IsZip g1 z TI TO .ellipsis := hz1
  refine wpAny_bind ?_; simp only [List.zipIdx_cons, List.zipIdx_nil, List.forIn_cons, List.forIn_nil]
  refine wpAny_bind (wpAny_bind (wpAny_onRaise ?_)); show wpAny _ _ (Builtin.SmallTypes.nextOf (.ref i1) >>= _) _ _ _
  refine wpAny_bind (nextS_end (s := { s with heap := g1 }) hh (h1.at fun o q => e1.extBut _ _ D.i1z q) (hl1.at fun o q => e1.extBut _ _ D.l1z q) hend fun g2 e e2 he => ?_)
  obtain ⟨oe, hoe, hce⟩ := he
  have hz2 : IsZip g2 z TI TO .ellipsis := e2 _ _ D.i1z.symm hz1
  have hez : e ≠ z := fun x => by subst x; rw [hz2] at hoe; cases hoe; simp at hce
  refine wpAny_setField_rec hz2 (by simp) fun g3 _ e3 => hE g3 e (fun c o c1 _ c3 _ x => e3.extBut _ _ c1 (e2 _ _ c3 (e1.extBut _ _ c1 x))) ⟨oe, e3.extBut _ _ hez hoe, hce⟩
/-- next(z), whichever turn -/
def ZSt (t1 t2 : Bool) (h : Heap) (z TI TO i1 i2 a b : Addr) (i : Nat) (Ts : List Addr) : Prop :=
  ((Ts = [] ∧ IsZip h z TI TO .none ∧ ∃ p q, IsPair h TO p q) ∨ ∃ T r f, Ts = T :: r ∧ IsZipHeld h z TI TO T f) ∧ IsPair h TI (.ref i1) (.ref i2) ∧ SIt t1 h i1 a i ∧ SIt t2 h i2 b i
theorem zs_item {Q : Option Value → Shared → Prop} {i : Nat} {Ts : List Addr} (D : ZipApart z TI TO i1 i2 l1 l2) (st : ZSt t1 t2 s.heap z TI TO i1 i2 l1 l2 i Ts) (al : ∀ T ∈ Ts, (∃ o, s.heap.get? T = some o) ∧ T ≠ z ∧ T ≠ TO ∧ T ≠ i1 ∧ T ≠ i2) (hl1 : SAt t1 s.heap l1 xs) (hl2 : SAt t2 s.heap l2 ys) (hx : xs[i]? = some x) (hy : ys[i]? = some y)
    (hQ : ∀ h', ZSt t1 t2 h' z TI TO i1 i2 l1 l2 (i + 1) (Ts ++ [s.heap.objs.size]) → IsPair h' s.heap.objs.size x y → h'.objs.size = s.heap.objs.size + 1 → (∀ c o, c ≠ z → c ≠ TO → c ≠ i1 → c ≠ i2 → s.heap.get? c = some o → h'.get? c = some o) → Q (some (.ref s.heap.objs.size)) { s with heap := h' }) :
    wpAny (model prog w) A (pyNext (.ref z)) Q E s := by
  obtain ⟨hz, hTI, h1, h2⟩ := st
  rcases hz with ⟨rfl, hz, p, q, hTO⟩ | ⟨T, r, f, rfl, hz⟩
  · have hT : s.TypeIs (.ref z) "zip" := ⟨_, hz, rfl⟩
    unfold pyNext
    exact wpAny_bind (wpAny_attempt (wpAny_callSpecial?_slot (name := Str.ofString "__next__") hT F.slot_zip_next (wpAny_call_entry F.slot_zip_next hT F.entry_zip_next
      (zipF_item D hz hTI hTO h1 h2 hl1 hl2 hx hy fun h' a1 a3 a4 a5 a6 a7 => wpAny_pure (hQ h' ⟨.inr ⟨_, [], false, rfl, a1⟩, a7 _ _ D.TIz D.TITO D.TIi1 D.TIi2 hTI, a3, a4⟩ a5 a6 a7)) (F.args_zip_next_1 _))))
  · have hT : s.TypeIs (.ref z) "zip" := ⟨_, hz, rfl⟩
    obtain ⟨⟨o, ho⟩, _⟩ := al T List.mem_cons_self
    unfold pyNext
    exact wpAny_bind (wpAny_attempt (wpAny_callSpecial?_slot (name := Str.ofString "__next__") hT F.slot_zip_next (wpAny_call_entry F.slot_zip_next hT F.entry_zip_next
      (zipH_item D hz ho hTI h1 h2 hl1 hl2 hx hy fun h' a1 a3 a4 a5 a6 a7 => wpAny_pure (hQ h' ⟨.inr ⟨T, r ++ [s.heap.objs.size], true, rfl, a1⟩, a7 _ _ D.TIz D.TIi1 D.TIi2 hTI, a3, a4⟩ a5 a6 fun c o c1 _ c3 c4 e => a7 c o c1 c3 c4 e)) (F.args_zip_next_1 _))))
theorem zs_end {Q : Option Value → Shared → Prop} {i : Nat} {Ts : List Addr} (hh : A.handled = none) (D : ZipApart z TI TO i1 i2 l1 l2) (st : ZSt t1 t2 s.heap z TI TO i1 i2 l1 l2 i Ts) (al : ∀ T ∈ Ts, (∃ o, s.heap.get? T = some o) ∧ T ≠ z ∧ T ≠ TO ∧ T ≠ i1 ∧ T ≠ i2) (hl1 : SAt t1 s.heap l1 xs) (hl2 : SAt t2 s.heap l2 ys) (hend : xs[i]? = none)
    (hQ : ∀ h', (∀ c o, c ≠ z → c ≠ TO → c ≠ i1 → c ≠ i2 → s.heap.get? c = some o → h'.get? c = some o) → Q none { s with heap := h' }) : wpAny (model prog w) A (pyNext (.ref z)) Q E s := by
  obtain ⟨hz, hTI, h1, h2⟩ := st
  rcases hz with ⟨rfl, hz, p, q, hTO⟩ | ⟨T, r, f, rfl, hz⟩
  · have hT : s.TypeIs (.ref z) "zip" := ⟨_, hz, rfl⟩
    unfold pyNext
    refine wpAny_bind (wpAny_attempt (wpAny_callSpecial?_slot (name := Str.ofString "__next__") hT F.slot_zip_next (wpAny_call_entry F.slot_zip_next hT F.entry_zip_next (zipF_end hh D hz hTI hTO h1 hl1 hend fun h' e hk he => ?_) (F.args_zip_next_1 _))))
    obtain ⟨o, ho, hc⟩ := he
    exact wpAny_bind (wpAny_isInstance (T := "StopIteration") (b := true) ⟨o, ho, hc⟩ isSubtype_stop (wpAny_pure (hQ _ hk)))
  · have hT : s.TypeIs (.ref z) "zip" := ⟨_, hz, rfl⟩
    obtain ⟨⟨oT, hoT⟩, _⟩ := al T List.mem_cons_self
    unfold pyNext
    refine wpAny_bind (wpAny_attempt (wpAny_callSpecial?_slot (name := Str.ofString "__next__") hT F.slot_zip_next (wpAny_call_entry F.slot_zip_next hT F.entry_zip_next (zipH_end hh D hz hoT hTI h1 h2 hl1 hl2 hend fun h' e hk he => ?_) (F.args_zip_next_1 _))))
    obtain ⟨o, ho, hc⟩ := he
    exact wpAny_bind (wpAny_isInstance (T := "StopIteration") (b := true) ⟨o, ho, hc⟩ isSubtype_stop (wpAny_pure (hQ _ fun c o c1 _ c3 c4 e => hk c o c1 c3 c4 e)))
/-- the pairs that were handed out -/
def PairsAt (h : Heap) (Ts : List Addr) (xs ys : Array Value) : Prop := ∀ j T, Ts[j]? = some T → IsPair h T (xs.getD j .none) (ys.getD j .none)
structure LzA (z TI TO i1 i2 l1 l2 S N0 : Nat) : Prop where
  D : ZipApart z TI TO i1 i2 l1 l2
  Sz : S ≠ z
  STI : S ≠ TI
  STO : S ≠ TO
  S1 : S ≠ i1
  S2 : S ≠ i2
  Sl1 : S ≠ l1
  Sl2 : S ≠ l2
  z0 : z < N0
  TO0 : TO < N0
  i10 : i1 < N0
  i20 : i2 < N0
  S0 : S < N0
theorem lz_loop {R : Result → Shared → Prop} {res : Value} {S N0 n : Nat} (hh : A.in1.handled = none) (L : LzA z TI TO i1 i2 l1 l2 S N0) (hxs : xs.size = n) (hys : ys.size = n) (hn : n ≤ 100000) :
    ∀ (k i : Nat) (s : Shared) (acc : Array Value) (c : Nat) (Ts : List Addr), n - i = k → i ≤ n → N0 ≤ s.heap.objs.size → ZSt t1 t2 s.heap z TI TO i1 i2 l1 l2 i Ts → SAt t1 s.heap l1 xs → SAt t2 s.heap l2 ys →
      s.heap.get? S = some { cls := .type "list", dict := none, data := .seq acc c, slots := #[] } → acc = (Ts.map Value.ref).toArray → Ts.length = i → (∀ T ∈ Ts, N0 ≤ T) → Ts.Nodup → PairsAt s.heap Ts xs ys →
      (∀ h' acc' c' Ts', (∀ b o, b ≠ z → b ≠ TO → b ≠ i1 → b ≠ i2 → b ≠ S → s.heap.get? b = some o → h'.get? b = some o) → h'.get? S = some { cls := .type "list", dict := none, data := .seq acc' c', slots := #[] } → acc' = (Ts'.map Value.ref).toArray → Ts'.length = n → (∀ T ∈ Ts', N0 ≤ T) → Ts'.Nodup → PairsAt h' Ts' xs ys →
        R (.ok (.ret res)) { s with heap := h' }) → codeAny (model prog w) A (.builtin "list.extend.loop" ⟨[.ref S, .ref z, res], []⟩) R s := by
  intro k
  have D := L.D
  have alOf : ∀ {s : Shared} {Ts : List Addr}, (∀ T ∈ Ts, N0 ≤ T) → PairsAt s.heap Ts xs ys → ∀ T ∈ Ts, (∃ o, s.heap.get? T = some o) ∧ T ≠ z ∧ T ≠ TO ∧ T ≠ i1 ∧ T ≠ i2 := fun {s Ts} hN hp T hT => by
    obtain ⟨j, hj⟩ := List.mem_iff_getElem?.mp hT
    have h0 := hN T hT
    exact ⟨⟨_, hp j T hj⟩, Nat.ne_of_gt (Nat.lt_of_lt_of_le L.z0 h0), Nat.ne_of_gt (Nat.lt_of_lt_of_le L.TO0 h0), Nat.ne_of_gt (Nat.lt_of_lt_of_le L.i10 h0), Nat.ne_of_gt (Nat.lt_of_lt_of_le L.i20 h0)⟩
  induction k with
  | zero =>
    intro i s acc c Ts hk hi hN st hl1 hl2 hS hacc hlen hTs nd hp hR
    have hin : i = n := by omega
    refine codeAny_builtin F.entry_extend_loop ?_; rw [Around.under_plainId F.plain_extend_loop _]
    show wpAny _ A.in1 (pyNext (.ref z) >>= _) _ _ s; refine wpAny_bind (zs_end hh D st (alOf hTs hp) hl1 hl2 (by rw [Array.getElem?_eq_none_iff]; omega) fun h' kp => ?_)
    have hSk : h'.get? S = _ := kp S _ L.Sz L.STO L.S1 L.S2 hS
    refine wpAny_pure (hR h' acc c Ts (fun b o c1 c2 c3 c4 _ e => kp b o c1 c2 c3 c4 e) hSk hacc (by omega) hTs nd fun j T hj => ?_)
    obtain ⟨_, b1, b2, b3, b4⟩ := alOf hTs hp T (List.mem_of_getElem? hj)
    exact kp T _ b1 b2 b3 b4 (hp j T hj)
  | succ k ih =>
    intro i s acc c Ts hk hi hN st hl1 hl2 hS hacc hlen hTs nd hp hR
    have hlt : i < n := by omega
    have hx : xs[i]? = some (xs.getD i .none) := by simp [Array.getD, hxs, hlt]
    have hy : ys[i]? = some (ys.getD i .none) := by simp [Array.getD, hys, hlt]
    refine codeAny_builtin F.entry_extend_loop ?_; rw [Around.under_plainId F.plain_extend_loop _]
    show wpAny _ A.in1 (pyNext (.ref z) >>= _) _ _ s; refine wpAny_bind (zs_item D st (alOf hTs hp) hl1 hl2 hx hy fun h' st' hT hsz kp => ?_)
    have hS' : h'.get? S = _ := kp S _ L.Sz L.STO L.S1 L.S2 hS
    have ha : acc.size = i := by rw [hacc]; simp [hlen]
    show wpAny _ A.in1 (updateSeq S (·.push (.ref s.heap.objs.size)) >>= _) _ _ _; refine wpAny_bind ?_
    have hSl : S < h'.objs.size := Heap.lt_size hS'
    have a1 := L.z0; have a2 := L.TO0; have a3 := L.i10; have a4 := L.i20; have a5 := L.S0
    have oth : ∀ b o, b ≠ S → h'.get? b = some o → (h'.update S (Obj.mapSeq (·.push (Value.ref s.heap.objs.size)))).get? b = some o := fun b o hb e => (Heap.get?_update_other _ _ (Ne.symm hb)).trans e
    refine wpAny_updateSeq hS' rfl (wpAny_pure ⟨plainId_quiet F.plain_extend_loop _, ih (i + 1) _ (acc.push (.ref s.heap.objs.size)) _ (Ts ++ [s.heap.objs.size]) (by omega) hlt ?_ ?_ ?_ ?_ (Heap.get?_update_self _ hS' rfl) ?_ ?_ ?_ ?_ ?_ ?_⟩)
      (by rw [ha, sizeLine_eq]; omega) (by show (acc.push (Value.ref s.heap.objs.size)).size ≤ sizeLine + 1; rw [Array.size_push, ha, sizeLine_eq]; omega)
    · show N0 ≤ (h'.update S _).objs.size
      rw [Heap.size_update, hsz]
      exact Nat.le_succ_of_le hN
    · obtain ⟨q1, q2, q3, q4⟩ := st'
      refine ⟨?_, oth _ _ (Ne.symm L.STI) q2, q3.at fun o e => oth _ _ (Ne.symm L.S1) e, q4.at fun o e => oth _ _ (Ne.symm L.S2) e⟩
      rcases q1 with ⟨e, _⟩ | ⟨T, r, f, e, q⟩
      · simp at e
      · exact .inr ⟨T, r, f, e, oth _ _ (Ne.symm L.Sz) q⟩
    · exact hl1.at fun o e => oth _ _ (Ne.symm L.Sl1) (kp _ _ D.l1z D.l1TO D.l1i1 D.l1i2 e)
    · exact hl2.at fun o e => oth _ _ (Ne.symm L.Sl2) (kp _ _ D.l2z D.l2TO D.l2i1 D.l2i2 e)
    · rw [hacc]
      simp
    · simp [hlen]
    · intro T hT
      rcases List.mem_append.mp hT with h | h
      · exact hTs T h
      · rw [List.mem_singleton.mp h]
        exact hN
    · refine List.nodup_append.mpr ⟨nd, by simp, fun T hT T2 hT2 e => ?_⟩
      rw [List.mem_singleton] at hT2
      obtain ⟨⟨o, ho⟩, _⟩ := alOf hTs hp T hT
      have h1 := Heap.lt_size ho
      rw [e, hT2] at h1
      exact Nat.lt_irrefl _ h1
    · intro j T hj
      by_cases h : j < Ts.length
      · rw [List.getElem?_append_left h] at hj
        obtain ⟨_, b1, b2, b3, b4⟩ := alOf hTs hp T (List.mem_of_getElem? hj)
        exact oth _ _ (Nat.ne_of_gt (Nat.lt_of_lt_of_le L.S0 (hTs T (List.mem_of_getElem? hj)))) (kp T _ b1 b2 b3 b4 (hp j T hj))
      · rw [List.getElem?_append_right (by omega)] at hj
        have e : j = i := by
          have := (List.getElem?_eq_some_iff.mp hj).1
          simp at this
          omega
        subst e
        rw [hlen] at hj
        simp at hj
        subst hj
        exact oth _ _ (Nat.ne_of_gt (Nat.lt_of_lt_of_le L.S0 hN)) hT
    · intro h2 acc2 c2 Ts2 k2 e1 e2 e3 e4 e5 e6
      exact hR h2 acc2 c2 Ts2 (fun b o c1 c2 c3 c4 c5 e => k2 b o c1 c2 c3 c4 c5 (oth b o c5 (kp b o c1 c2 c3 c4 e))) e1 e2 e3 e4 e5 e6
theorem zip_no_len : typeLookup (.type "zip") "__len__" = pure none := am_miss_of_fast (by decide +kernel)
theorem zip_no_hint : typeLookup (.type "zip") "__length_hint__" = pure none := am_miss_of_fast (by decide +kernel)
theorem lz_init {R : Result → Shared → Prop} {S n : Nat} (hh : A.handled = none) (L : LzA z TI TO i1 i2 l1 l2 S s.heap.objs.size) (hxs : xs.size = n) (hys : ys.size = n) (hn : n ≤ 100000) (st : ZSt t1 t2 s.heap z TI TO i1 i2 l1 l2 0 []) (hl1 : SAt t1 s.heap l1 xs) (hl2 : SAt t2 s.heap l2 ys)
    (hS : s.heap.get? S = some { cls := .type "list", data := .seq #[] })
    (hR : ∀ h' acc' c' Ts', (∀ b o, b ≠ z → b ≠ TO → b ≠ i1 → b ≠ i2 → b ≠ S → s.heap.get? b = some o → h'.get? b = some o) → h'.get? S = some { cls := .type "list", dict := none, data := .seq acc' c', slots := #[] } → acc' = (Ts'.map Value.ref).toArray → Ts'.length = n → (∀ T ∈ Ts', s.heap.objs.size ≤ T) → Ts'.Nodup → PairsAt h' Ts' xs ys →
      R (.ok (.ret .none)) { s with heap := h' }) :
    wpAny (model prog w) A.in1 (Builtin.«list.__init__» ⟨[.ref S, .ref z], []⟩) (fun fin s' => match fin with | .done f => R (.ok f) s' | .again c' => c'.quiet = true ∧ codeAny (model prog w) A c' R s') (fun e s' => R (.error e) s') s := by
  obtain ⟨⟨_, hz, p, q, hTO⟩ | ⟨T, r, f, e, _⟩, hTI, h1, h2⟩ := st
  case inr => cases e
  show wpAny _ _ (do let old ← Builtin.List.listItems (.ref S); Builtin.List.listUpdate (.ref S) (fun _ => #[]); letGo old.toList.reverse; Builtin.List.listExtendWith (.ref S) (.ref z) .none) _ _ s
  refine wpAny_bind ?_; unfold Builtin.List.listItems; refine wpAny_bind (wpAny_seqItems hS rfl (wpAny_pure ?_))
  show wpAny _ _ (updateSeq S (fun _ => #[]) >>= fun _ => letGo (#[] : Array Value).toList.reverse >>= fun _ => Builtin.List.listExtendWith (.ref S) (.ref z) .none) _ _ s; refine wpAny_bind (wpAny_updateSeq hS rfl ?_)
  have hS2 := Heap.get?_update_self (Obj.mapSeq (fun _ => (#[] : Array Value))) hS rfl
  have o1 : ∀ b o, b ≠ S → s.heap.get? b = some o → (s.heap.update S (Obj.mapSeq (fun _ => (#[] : Array Value)))).get? b = some o := fun b o hb e => (Heap.get?_update_other _ _ (Ne.symm hb)).trans e
  refine wpAny_bind (wpAny_letGo ?_); unfold Builtin.List.listExtendWith
  have hz1 := o1 _ _ (Ne.symm L.Sz) hz
  have hT : ({ s with heap := s.heap.update S (Obj.mapSeq (fun _ => (#[] : Array Value))) } : Shared).TypeIs (.ref z) "zip" := ⟨_, hz1, rfl⟩
  refine wpAny_bind (wpAny_typeOf hT ?_)
  have e1 : Builtin.List.listSameRef (.ref S) (.ref z) = false := by simp [Builtin.List.listSameRef, L.Sz]
  simp only [e1, show (Value.type "zip" == Value.type "list") = false by decide, show (Value.type "zip" == Value.type "tuple") = false by decide, Bool.or_false, Bool.false_eq_true, if_false]
  refine wpAny_bind (wpAny_pyIter_zip hz1 (wpAny_bind (wpAny_holding ?_))); unfold Builtin.List.listLengthHint; refine wpAny_bind (wpAny_specialOf hT zip_no_len ?_)
  show wpAny _ A.in1 (specialOf (Value.ref z) (Str.ofString "__length_hint__") >>= _) _ _ _; refine wpAny_bind (wpAny_specialOf hT zip_no_hint (wpAny_pure ?_))
  show wpAny _ A.in1 (rule "list.extend.makes-room" >>= fun _ => Builtin.List.listTouch (.ref S) >>= fun _ => again (.builtin "list.extend.loop" ⟨[.ref S, .ref z, .none], []⟩)) _ _ _
  refine wpAny_bind (wpAny_rule (wpAny_bind ?_)); show wpAny _ A.in1 (updateSeq S (·.push .none) >>= fun _ => updateSeq S (·.pop)) _ _ _
  refine wpAny_bind (wpAny_updateSeq hS2 rfl ?_); have hS3 := Heap.get?_update_self (Obj.mapSeq (·.push Value.none)) hS2 rfl
  refine wpAny_updateSeq (hz := by seq_fits) hS3 rfl ?_; have hS4 := Heap.get?_update_self (Obj.mapSeq (·.pop)) hS3 rfl
  have o2 : ∀ b o, b ≠ S → s.heap.get? b = some o → (((s.heap.update S (Obj.mapSeq (fun _ => (#[] : Array Value)))).update S (Obj.mapSeq (·.push Value.none))).update S (Obj.mapSeq (·.pop))).get? b = some o :=
    fun b o hb e => (Heap.get?_update_other _ _ (Ne.symm hb)).trans ((Heap.get?_update_other _ _ (Ne.symm hb)).trans (o1 b o hb e))
  refine wpAny_pure ⟨plainId_quiet F.plain_extend_loop _, lz_loop (t1 := t1) (t2 := t2) (n := n) hh L hxs hys hn n 0 _ _ _ [] rfl (Nat.zero_le _) ?_ ⟨.inl ⟨rfl, o2 _ _ (Ne.symm L.Sz) hz, p, q, o2 _ _ (Ne.symm L.STO) hTO⟩, o2 _ _ (Ne.symm L.STI) hTI, h1.at fun o e => o2 _ _ (Ne.symm L.S1) e, h2.at fun o e => o2 _ _ (Ne.symm L.S2) e⟩
    (hl1.at fun o e => o2 _ _ (Ne.symm L.Sl1) e) (hl2.at fun o e => o2 _ _ (Ne.symm L.Sl2) e) hS4 (by simp) rfl (fun T hT => by cases hT) List.nodup_nil (fun j T hj => by simp at hj) fun h' acc' c' Ts' kp a1 a2 a3 a4 a5 a6 => ?_⟩
  · show s.heap.objs.size ≤ (((s.heap.update S _).update S _).update S _).objs.size
    rw [Heap.size_update, Heap.size_update, Heap.size_update]
    exact Nat.le_refl _
  · exact hR h' acc' c' Ts' (fun b o c1 c2 c3 c4 c5 e => kp b o c1 c2 c3 c4 c5 (o2 b o c5 e)) a1 a2 a3 a4 a5 a6
/-- list(z) -/
theorem call_list_zip {Q : Value → Shared → Prop} {n : Nat} (hh : A.handled = none) (D : ZipApart z TI TO i1 i2 l1 l2) (hlt : z < s.heap.objs.size ∧ TI < s.heap.objs.size ∧ TO < s.heap.objs.size ∧ i1 < s.heap.objs.size ∧ i2 < s.heap.objs.size ∧ l1 < s.heap.objs.size ∧ l2 < s.heap.objs.size)
    (hxs : xs.size = n) (hys : ys.size = n) (hn : n ≤ 100000) (st : ZSt t1 t2 s.heap z TI TO i1 i2 l1 l2 0 []) (hl1 : SAt t1 s.heap l1 xs) (hl2 : SAt t2 s.heap l2 ys)
    (hQ : ∀ h' acc' c' Ts', (∀ b o, b ≠ z → b ≠ TO → b ≠ i1 → b ≠ i2 → s.heap.get? b = some o → h'.get? b = some o) → h'.get? s.heap.objs.size = some { cls := .type "list", dict := none, data := .seq acc' c', slots := #[] } → acc' = (Ts'.map Value.ref).toArray → Ts'.length = n → (∀ T ∈ Ts', s.heap.objs.size < T) → Ts'.Nodup → PairsAt h' Ts' xs ys →
      Q (.ref s.heap.objs.size) { s with heap := h' }) : wpAny (model prog w) A (call (.type "list") [.ref z]) Q E s := by
  refine callType_codes (Q₁ := fun obj s1 => obj = .ref s.heap.objs.size ∧ s1 = { s with heap := s.heap.push { cls := .type "list", data := .seq #[] } }) F.called_list (F.typeCall_list_1 _) F.entry_list_init (code_list_new _ ⟨rfl, rfl⟩) fun obj s1 h1 => ?_
  obtain ⟨rfl, rfl⟩ := h1
  have hS : (s.heap.push { cls := .type "list", data := .seq #[] }).get? s.heap.objs.size = some { cls := .type "list", data := .seq #[] } := Heap.get?_push_size _ rfl
  have up : ∀ b o, s.heap.get? b = some o → (s.heap.push { cls := .type "list", data := .seq #[] }).get? b = some o := fun b o e => Heap.get?_push_of_some _ e
  obtain ⟨g1, g2, g3, g4, g5, g6, g7⟩ := hlt
  have hsz : (s.heap.push { cls := .type "list", data := .seq #[] }).objs.size = s.heap.objs.size + 1 := Heap.size_push ..
  have L : LzA z TI TO i1 i2 l1 l2 s.heap.objs.size (s.heap.push { cls := .type "list", data := .seq #[] }).objs.size := by
    rw [hsz]
    exact ⟨D, Nat.ne_of_gt g1, Nat.ne_of_gt g2, Nat.ne_of_gt g3, Nat.ne_of_gt g4, Nat.ne_of_gt g5, Nat.ne_of_gt g6, Nat.ne_of_gt g7, Nat.lt_succ_of_lt g1, Nat.lt_succ_of_lt g3, Nat.lt_succ_of_lt g4, Nat.lt_succ_of_lt g5, Nat.lt_succ_self _⟩
  obtain ⟨w1, w2, w3, w4⟩ := st
  refine ⟨⟨_, hS, rfl⟩, F.args_list_init_2 _ _, lz_init (A := A.in1) (t1 := t1) (t2 := t2) (xs := xs) (ys := ys) (n := n) hh L hxs hys hn ⟨?_, up _ _ w2, w3.at fun o e => up _ _ e, w4.at fun o e => up _ _ e⟩ (hl1.at fun o e => up _ _ e) (hl2.at fun o e => up _ _ e) hS fun h' acc' c' Ts' kp a1 a2 a3 a4 a5 a6 => ?_⟩
  · rcases w1 with ⟨q1, q2, p, q, q3⟩ | ⟨T, r, f, e, _⟩
    · exact .inl ⟨q1, up _ _ q2, p, q, up _ _ q3⟩
    · cases e
  · exact ⟨rfl, hQ h' acc' c' Ts' (fun b o c1 c2 c3 c4 e => kp b o c1 c2 c3 c4 (Nat.ne_of_lt (Heap.lt_size e)) (up b o e)) a1 a2 a3 (fun T hT => by
      have := a4 T hT
      rw [hsz] at this
      exact this) a5 a6⟩
end
end DL

namespace DL
open PySem PySem.Spec PyProof.Rows L2
/-! ### many new objects tracked at once -/
theorem inv_many {X : Cx} {pins : List (Addr × Obj)} {σ : L2.St} {H H' : Hp} {s : Shared} {h' : Heap} {t' : Nat} (I : Inv X pins σ H s) (k : ∀ b u, s.heap.get? b = some u → h'.get? b = some u) (old : ∀ b o, s.heap.get? b = some o → H' b = H b) (ext : ∀ b u, H b = some u → H' b = some u)
    (new : ∀ b u, H' b = some u → H b = some u ∨ ObjOk X.prog X.w H' h' b u) : Inv X pins σ H' { s with heap := h', toks := t' } := by
  refine I.step (g' := s.gens) (d' := s.drawn) (ch := []) (fun b hb => absurd hb (by simp)) (fun b o _ _ _ e _ => k b o e) (fun b o _ _ _ e _ => ⟨o.slots, k b o e⟩) (fun b o _ e n => by rw [old b o e]; exact n) (fun b o _ e => ⟨o, k b o e⟩) (fun b xs e => ext _ _ e) (fun b o u e => ext _ _ e)
    (fun b ps e => ⟨#[], by rw [ext _ _ e]; simp⟩) (fun m hm => ?_) (fun b u e => ?_) I.bare
  · obtain ⟨o, es, ep, ho, r⟩ := hm
    exact ⟨o, es, ep, k _ o ho, r⟩
  · rcases new b u e with e0 | n
    · exact (I.hok b u e0).stay (fun d v _ q => k d v q) (fun d q => ext _ _ q) fun d xs q => ext _ _ q
    · exact n
/-- pairs laid -/
def layT : List (Addr × V × V) → Hp → Hp
  | [], H => H
  | p :: r, H => layT r (upd H p.1 (.tup [p.2.1, p.2.2]))
theorem layT_ne : ∀ {ps : List (Addr × V × V)} {H : Hp} {b : Addr}, (∀ p ∈ ps, p.1 ≠ b) → layT ps H b = H b
  | [], _, _, _ => rfl
  | p :: r, H, b, h => by
    show layT r (upd H p.1 _) b = H b
    rw [layT_ne fun q hq => h q (List.mem_cons_of_mem _ hq), upd_ne (Ne.symm (h p List.mem_cons_self))]
theorem layT_at : ∀ {ps : List (Addr × V × V)} {H : Hp} {T : Addr} {x y : V}, (ps.map (·.1)).Nodup → (T, x, y) ∈ ps → layT ps H T = some (.tup [x, y])
  | [], _, _, _, _, _, h => by cases h
  | p :: r, H, T, x, y, nd, h => by
    rw [List.map_cons, List.nodup_cons] at nd
    rcases List.mem_cons.mp h with e | h
    · subst e
      show layT r (upd H T _) T = _
      rw [layT_ne fun q hq z => nd.1 (by rw [← z]; exact List.mem_map.mpr ⟨q, hq, rfl⟩), upd_same]
    · exact (show layT r (upd H p.1 (.tup [p.2.1, p.2.2])) T = _ from layT_at nd.2 h)
/-- list(zip(a, b)) of two tuples, or two lists, of one length -/
def tLstZip (K : PySem.W.Frag) (ta : TA) : TE := fun σ H Q => ta σ H fun vs H1 => ∃ a b xs ys, vs = [.ref a, .ref b] ∧ ((SqT K H1 a xs ∧ SqT K H1 b ys) ∨ (SqL K H1 a xs ∧ SqL K H1 b ys)) ∧ xs.length = ys.length ∧ xs.length ≤ 100000 ∧
  ∀ (S : Addr) (ps : List (Addr × V × V)), H1 S = none → (∀ p ∈ ps, H1 p.1 = none ∧ p.1 ≠ S) → (ps.map (·.1)).Nodup → ps.map (·.2) = xs.zip ys → Q (.ref S) (upd (layT ps H1) S (.lst (ps.map fun p => .ref p.1)))
theorem pairs_of {h : Heap} {Ts : List Addr} {its jts : List Value} {xs ys : List V} (rx : Vals xs its) (ry : Vals ys jts) (hl : xs.length = ys.length) (hn : Ts.length = xs.length) (hp : PairsAt h Ts its.toArray jts.toArray) {T : Addr} {x y : V} (hm : (T, x, y) ∈ Ts.zip (xs.zip ys)) :
    ∃ u v, RelV x u ∧ RelV y v ∧ IsPair h T u v := by
  obtain ⟨j, hj⟩ := List.mem_iff_getElem?.mp hm
  rw [List.getElem?_zip_eq_some] at hj
  obtain ⟨h1, h2⟩ := hj
  rw [List.getElem?_zip_eq_some] at h2
  obtain ⟨h2, h3⟩ := h2
  obtain ⟨u, hu, ru⟩ := rx.get h2
  obtain ⟨v, hv, rv⟩ := ry.get h3
  refine ⟨u, v, ru, rv, ?_⟩
  have e := hp j T h1
  have e1 : its.toArray.getD j .none = u := by simp [Array.getD, List.getElem?_eq_some_iff.mp hu |>.1, List.getElem?_eq_some_iff.mp hu |>.2]
  have e2 : jts.toArray.getD j .none = v := by simp [Array.getD, List.getElem?_eq_some_iff.mp hv |>.1, List.getElem?_eq_some_iff.mp hv |>.2]
  rw [e1, e2] at e
  exact e
theorem vals_refs : ∀ Ts : List Addr, Vals (Ts.map V.ref) (Ts.map Value.ref)
  | [] => .nil
  | T :: r => .cons rfl (vals_refs r)
theorem pe_listZip {X : Cx} {e e2 : Expr} {ta : TA} {p p2 pos pos2 : Pos} (hc : X.calm = true) (hg : Gl X "list") (hm : X.mg "list" = none) (hg2 : Gl X "zip") (hm2 : X.mg "zip" = none) (ha : PA X [e, e2] ta)
    (hs : starEach [e, e2] X.env = (false, eval e X.env) :: starEach [e2] X.env := by rfl) (hpl : (backTo pos2 (starEach [e2] X.env)).any (·.1) = false := by rfl)
    (na : starEach [.Call (.Name "zip" p2) [e, e2] [] pos2] X.env = (false, eval (.Call (.Name "zip" p2) [e, e2] [] pos2) X.env) :: starEach [] X.env := by rfl) :
    PE X (.Call (.Name "list" p) [.Call (.Name "zip" p2) [e, e2] [] pos2] [] pos) (tLstZip X.K ta) := by
  refine ⟨fun pins s σ H Q I h => ?_⟩
  refine Call_ (ld_blt I hg hm boot_list (PyProof.Rows.callWith_type1 (args_cons ?_ na) na))
  refine Call_ (ld_blt I hg2 hm2 PyProof.Rows.boot_zip (PyProof.Rows.callWith_type1 (thn (ha.run pos2 pins s σ H _ I h) fun us s1 ⟨vs, H1, I1, r1, q1⟩ => ?_) hs hpl))
  obtain ⟨a, b, xs, ys, rfl, hq, hl, hz, q⟩ := q1
  obtain ⟨u1, u2, rfl, ra, rb⟩ := vals2 r1
  obtain rfl : u1 = Value.ref a := ra
  obtain rfl : u2 = Value.ref b := rb
  have fin : ∀ {t : Bool} {its jts : List Value} {h0 : Heap}, Vals xs its → Vals ys jts → SAt t s1.heap a its.toArray → SAt t s1.heap b jts.toArray → (a < s1.heap.objs.size ∧ b < s1.heap.objs.size) →
      IsZip h0 (s1.heap.objs.size + 4) (s1.heap.objs.size + 2) (s1.heap.objs.size + 3) .none → IsPair h0 (s1.heap.objs.size + 2) (.ref s1.heap.objs.size) (.ref (s1.heap.objs.size + 1)) → IsPair h0 (s1.heap.objs.size + 3) .none .none →
      SIt t h0 s1.heap.objs.size a 0 → SIt t h0 (s1.heap.objs.size + 1) b 0 → h0.objs.size = s1.heap.objs.size + 5 → (∀ c o, s1.heap.get? c = some o → h0.get? c = some o) →
      wpAny (model X.prog X.w) X.A (call (.type "list") [.ref (s1.heap.objs.size + 4)]) (EP X pins σ Q) X.xe { s1 with heap := h0 } := by
    intro t its jts h0 rx ry l1 l2 hlt hz0 hTI hTO i1 i2 hsz kp
    have D := PySem.W.ktu_apart s1.heap.objs.size a b hlt.1 hlt.2
    have lx := rx.length
    have ly := ry.length
    refine call_list_zip (s := { s1 with heap := h0 }) (t1 := t) (t2 := t) (n := xs.length) (I1.ok.hd hc) D ⟨(show s1.heap.objs.size + 4 < h0.objs.size by omega), (show s1.heap.objs.size + 2 < h0.objs.size by omega), (show s1.heap.objs.size + 3 < h0.objs.size by omega), (show s1.heap.objs.size < h0.objs.size by omega), (show s1.heap.objs.size + 1 < h0.objs.size by omega), (show a < h0.objs.size from Nat.lt_of_lt_of_le hlt.1 (by omega)), (show b < h0.objs.size from Nat.lt_of_lt_of_le hlt.2 (by omega))⟩ (by simp; omega) (by simp; omega) hz ⟨.inl ⟨rfl, hz0, _, _, hTO⟩, hTI, i1, i2⟩ (l1.at fun o e => kp _ _ e) (l2.at fun o e => kp _ _ e)
      fun h' acc c Ts k2 hS hacc hlen hTs nd hp => ?_
    have hS : h'.get? h0.objs.size = some { cls := .type "list", dict := none, data := .seq acc c, slots := #[] } := hS
    have hTs : ∀ T ∈ Ts, h0.objs.size < T := hTs
    have hlz : (xs.zip ys).length = Ts.length := by rw [List.length_zip, hlen]; omega
    have f1 : (Ts.zip (xs.zip ys)).map (·.1) = Ts := List.map_fst_zip (by omega)
    have f2 : (Ts.zip (xs.zip ys)).map (·.2) = xs.zip ys := List.map_snd_zip (by omega)
    have inT : ∀ p ∈ Ts.zip (xs.zip ys), p.1 ∈ Ts := fun p hp => by rw [← f1]; exact List.mem_map.mpr ⟨p, hp, rfl⟩
    have kk : ∀ b u, s1.heap.get? b = some u → h'.get? b = some u := fun b u e => by
      have hb := Heap.lt_size e
      exact k2 b u (Nat.ne_of_lt (Nat.lt_of_lt_of_le hb (Nat.le_add_right _ _))) (Nat.ne_of_lt (Nat.lt_of_lt_of_le hb (Nat.le_add_right _ _))) (Nat.ne_of_lt hb) (Nat.ne_of_lt (Nat.lt_of_lt_of_le hb (Nat.le_add_right _ _))) (kp b u e)
    have frS : H1 h0.objs.size = none := I1.hok.fresh (by omega)
    have frT : ∀ T ∈ Ts, H1 T = none := fun T hT => I1.hok.fresh (Nat.le_trans (by omega) (Nat.le_of_lt (hTs T hT)))
    have e0 : (Ts.zip (xs.zip ys)).map (fun p => V.ref p.1) = Ts.map V.ref := by
      have e1 : (Ts.zip (xs.zip ys)).map (fun p => V.ref p.1) = ((Ts.zip (xs.zip ys)).map (·.1)).map V.ref := by rw [List.map_map]; rfl
      rw [e1, f1]
    have sm : ∀ b, b < s1.heap.objs.size → upd (layT (Ts.zip (xs.zip ys)) H1) h0.objs.size (.lst ((Ts.zip (xs.zip ys)).map fun p => .ref p.1)) b = H1 b := fun b hb => by
      rw [upd_ne (Nat.ne_of_lt (Nat.lt_of_lt_of_le hb (by omega))), layT_ne fun p hp => Nat.ne_of_gt (Nat.lt_trans (Nat.lt_of_lt_of_le hb (by omega)) (hTs _ (inT p hp)))]
    have J : Inv X pins σ (upd (layT (Ts.zip (xs.zip ys)) H1) h0.objs.size (.lst ((Ts.zip (xs.zip ys)).map fun p => .ref p.1))) { s1 with heap := h', toks := s1.toks } := by
      refine inv_many (s := s1) I1 kk (fun b o e => sm b (Heap.lt_size e)) (fun b u e => ?_) (fun b u e => ?_)
      · have hb : b ≠ h0.objs.size := fun z => by rw [z, frS] at e; cases e
        rw [upd_ne hb, layT_ne fun p hp z => by rw [← z, frT _ (inT p hp)] at e; cases e]
        exact e
      · by_cases hb : b = h0.objs.size
        · subst hb
          rw [upd_same] at e
          cases e
          refine .inr ⟨?_, Ts.map Value.ref, c, ?_, ?_⟩
          · rw [e0, List.length_map, hlen, sizeLine_eq]
            omega
          · rw [e0]
            exact vals_refs Ts
          · rw [hS, hacc]
        · rw [upd_ne hb] at e
          by_cases hm : ∃ p ∈ Ts.zip (xs.zip ys), p.1 = b
          · obtain ⟨⟨T, x, y⟩, hp2, rfl⟩ := hm
            rw [layT_at (by rw [f1]; exact nd) hp2] at e
            cases e
            obtain ⟨u, v, ru, rv, hpr⟩ := pairs_of rx ry hl hlen hp hp2
            exact .inr ⟨by show 2 ≤ sizeLine; decide, [u, v], .cons ru (.cons rv .nil), ⟨_, hpr, rfl, _, rfl⟩⟩
          · rw [layT_ne fun p hp z => hm ⟨p, hp, z⟩] at e
            exact .inl e

    exact ⟨.ref h0.objs.size, _, J, rfl, q h0.objs.size (Ts.zip (xs.zip ys)) frS (fun p hp => ⟨frT _ (inT p hp), Nat.ne_of_gt (hTs _ (inT p hp))⟩) (by rw [f1]; exact nd) f2⟩
  rcases hq with ⟨hqa, hqb⟩ | ⟨hqa, hqb⟩
  · obtain ⟨its, rv, p1, _⟩ := I1.tuple hqa
    obtain ⟨jts, rv2, p2, _⟩ := I1.tuple hqb
    obtain ⟨o1, ho1, _⟩ := id p1
    obtain ⟨o2, ho2, _⟩ := id p2
    exact RZ.call_zipT (show s1.heap.IsTuple a its.toArray from p1) (show s1.heap.IsTuple b jts.toArray from p2) fun h' hz hTI hTO h1 h2 hsz hk => args_nil (fin (t := true) rv rv2 p1 p2 ⟨Heap.lt_size ho1, Heap.lt_size ho2⟩ hz hTI hTO h1 h2 hsz hk)
  · obtain ⟨its, rv, p1, _⟩ := I1.list hqa
    obtain ⟨jts, rv2, p2, _⟩ := I1.list hqb
    exact call_zip_2 p1.isList p2.isList fun h' hz hTI hTO h1 h2 hsz hk => args_nil (fin (t := false) rv rv2 p1.isList p2.isList ⟨p1.lt, p2.lt⟩ hz hTI hTO h1 h2 hsz hk)
end DL

namespace ML
open PySem L2 PySem.Spec PyProof.Rows

/-! ### list(zip(a, b)) -/
section
variable {G : Ct} {Ex : WX} {α β : List Addr} {W W' F H H' : Hp} {σ : L2.St} {en : En} {hp hp' : List O} {te ta tb tv : TE} {tas : TA} {xas : XA} {v w : V} {p q : PV} {a : Addr} {o : O}
theorem layT_cf : ∀ {ps : List (Addr × V × V)} {W H : Hp}, Cf G α W F H σ en hp → (∀ p ∈ ps, H p.1 = none) → (ps.map (·.1)).Nodup → ∃ W', Same W W' ∧ Cf G α W' F (DL.layT ps H) σ en hp ∧ ∀ p ∈ ps, W' p.1 = some (.tup [p.2.1, p.2.2])
  | [], W, H, c, _, _ => ⟨W, Same.refl _, c, fun p hp => by cases hp⟩
  | p :: r, W, H, c, h, nd => by
    rw [List.map_cons, List.nodup_cons] at nd
    obtain ⟨c1, s1⟩ := c.allocW (ho := .tup [p.2.1, p.2.2]) (h p List.mem_cons_self)
    obtain ⟨W2, s2, c2, q⟩ := layT_cf (ps := r) c1 (fun a ha => by
      rw [upd_ne fun z => nd.1 (by rw [← z]; exact List.mem_map.mpr ⟨a, ha, rfl⟩)]
      exact h a (List.mem_cons_of_mem _ ha)) nd.2
    refine ⟨W2, s1.trans s2, c2, fun a ha => ?_⟩
    rcases List.mem_cons.mp ha with e | ha
    · subst e
      exact s2 _ _ upd_same
    · exact q a ha
def pairD : List D → List D → List D
  | x :: xs, y :: ys => .tup [x, y] :: pairD xs ys
  | _, _ => []
theorem pair_at : ∀ {ps : List (Addr × V × V)} {xs ys : List D} {vs ws : List V}, IsL G.b W xs vs → IsL G.b W ys ws → ps.map (·.2) = vs.zip ws → (∀ p ∈ ps, W p.1 = some (.tup [p.2.1, p.2.2])) → vs.length = ws.length → IsL G.b W (pairD xs ys) (ps.map fun p => .ref p.1)
  | ps, [], ys, vs, ws, h1, h2, e, _, hl => by
    rw [h1.nil_inv, List.zip_nil_left, List.map_eq_nil_iff] at e
    subst e
    exact IsL.nil
  | ps, x :: xs, [], vs, ws, h1, h2, e, _, hl => by
    rw [h2.nil_inv, List.zip_nil_right, List.map_eq_nil_iff] at e
    subst e
    exact IsL.nil
  | ps, x :: xs, y :: ys, vs, ws, h1, h2, e, hp, hl => by
    obtain ⟨v, vs', rfl, i1, j1⟩ := h1.uncons
    obtain ⟨w, ws', rfl, i2, j2⟩ := h2.uncons
    cases ps with
    | nil => simp at e
    | cons p r =>
      rw [List.zip_cons_cons, List.map_cons] at e
      obtain ⟨e1, e2⟩ := List.cons.inj e
      refine IsL.cons (is_tup.mpr ⟨p.1, _, rfl, hp p List.mem_cons_self, ?_⟩) (pair_at j1 j2 e2 (fun q hq => hp q (List.mem_cons_of_mem _ hq)) (by simpa using hl))
      rw [e1]
      exact IsL.cons i1 (IsL.one i2)
def xListZip (z : Bool) (a : XA) : XE := fun en hp => xb (a en hp) fun ps hp1 => match ps with
  | [p, q] => match vseq hp1 p, vseq hp1 q with
    | some (k, xs), some (k', ys) => if k = k' then match unfr xs, unfr ys with
        | some ds, some es => if decide (ds.length = es.length) && sz ds.length then lf (fresh z (.lst (pairD ds es)) hp1) else none
        | _, _ => none
      else none
    | _, _ => none
  | _ => none
theorem se_listZip {z : Bool} (h : SA G Ex tas xas) : SE G Ex (DL.tLstZip G.b.K tas) (xListZip z xas) := fun α W F H σ en hp r Q c e g => h.bind c e g.gx fun ps hp1 vs β W1 H1 e1 s1 l1 c1 i1 => by
  split at e1
  · rename_i p q
    split at e1
    · rename_i k xs k' ys ez1 ez2
      split at e1
      · rename_i hk
        subst hk
        split at e1
        · rename_i ds es ed1 ed2
          split at e1
          · rename_i hh
            rw [Bool.and_eq_true, decide_eq_true_eq] at hh
            obtain ⟨pv, hp2, e2, rfl⟩ := lf_some e1
            have hq := unfr_some ed1
            have hq2 := unfr_some ed2
            subst hq hq2
            obtain ⟨v, w, rfl, iv, iw⟩ := isPs2 i1
            obtain ⟨a, us, rfl, h1, h2⟩ := seq_at c1 iv ez1
            obtain ⟨b, ws, rfl, h3, h4⟩ := seq_at c1 iw ez2
            have h2' := isPs_fr.mp h2
            have h4' := isPs_fr.mp h4
            have hl : us.length = ws.length := by rw [← h2'.len, ← h4'.len]; exact hh.1
            refine ⟨a, b, us, ws, rfl, ?_, hl, by rw [← h2'.len]; exact of_decide_eq_true hh.2, fun S pps hS hpp nd hz => ?_⟩
            · cases k with
              | true => exact .inl ⟨h1, h3⟩
              | false => exact .inr ⟨h1, h3⟩
            · obtain ⟨W2, s2, c2, hW⟩ := layT_cf c1 (fun p hp => (hpp p hp).1) nd
              have hS2 : DL.layT pps H1 S = none := by rw [DL.layT_ne fun p hp => (hpp p hp).2]; exact hS
              have il := pair_at (h2'.mono s2) (h4'.mono s2) hz hW hl
              obtain ⟨γ, W3, s3, l3, c3, i3⟩ := c2.fresh (o := .lst (pairD ds es)) (ho := .lst (pps.map fun p => .ref p.1)) hS2 ⟨_, rfl, il⟩ e2
              exact g _ γ W3 _ ((s1.trans s2).trans s3) (l1.trans l3) c3 i3
          · cases e1
        · cases e1
      · cases e1
    · cases e1
  · cases e1

theorem pe_cvalK {X : Cx} {e : Expr} {f : Str} {pos : Pos} {ta : TE} (K : PySem.W.Frag) (h : X.K = K) (he : PE X e ta) (hb : attributeBase e f X.env (eval e X.env) = eval e X.env := by rfl) : PE X (.Attribute e f pos) (ClX.tCVal K ta f) := h ▸ ClX.pe_cval he hb
theorem pi_zipAK {X : Cx} {e e2 : Expr} {ta : TA} {p pos tpos : Pos} {elts : List Expr} {kk : Nat} (K : PySem.W.Frag) (h : X.K = K) (hg : Gl X "zip") (hm : X.mg "zip" = none) (ha : PA X [e, e2] ta)
    (hs : starEach [e, e2] X.env = (false, eval e X.env) :: starEach [e2] X.env := by rfl) (hpl : (backTo pos (starEach [e2] X.env)).any (·.1) = false := by rfl) : PI X (.Tuple elts kk tpos) (.Call (.Name "zip" p) [e, e2] [] pos) (RZ.iZipA K ta) := h ▸ RZ.pi_zipA hg hm ha hs hpl
theorem hE {E : XK} : ∀ (c : Value) (d : Option Addr) (σ : L2.St) (T : Hp), (fun (c : Value) (d : Option Addr) (_ : L2.St) (T : Hp) => E c d T) c d σ T → E c d T := fun _ _ _ _ h => h
/-! ### names by numbers -/
def nmOf (l : List (Nat × Str)) (i : Nat) : Str := match l.find? fun e => e.1 == i with
  | some e => e.2
  | none => ⟨(List.replicate (100 + i) 97).toArray⟩
theorem nodup_snd {γ : Type} : ∀ {l : List (Nat × γ)} {i j : Nat} {s : γ}, (l.map (·.2)).Nodup → (i, s) ∈ l → (j, s) ∈ l → i = j
  | [], i, j, s, _, h, _ => by cases h
  | (a, t) :: l, i, j, s, hn, h1, h2 => by
    rw [List.map_cons, List.nodup_cons] at hn
    rcases List.mem_cons.mp h1 with e1 | e1
    · rcases List.mem_cons.mp h2 with e2 | e2
      · cases e1
        cases e2
        rfl
      · cases e1
        exact absurd (List.mem_map.mpr ⟨_, e2, rfl⟩) hn.1
    · rcases List.mem_cons.mp h2 with e2 | e2
      · cases e2
        exact absurd (List.mem_map.mpr ⟨_, e1, rfl⟩) hn.1
      · exact nodup_snd hn.2 e1 e2
theorem nmOf_inj {l : List (Nat × Str)} (hn : (l.map (·.2)).Nodup) (hl : ∀ e ∈ l, e.2.cps.size < 100) : ∀ i j, nmOf l i = nmOf l j → i = j := fun i j e => by
  have long : ∀ k, (⟨(List.replicate (100 + k) 97).toArray⟩ : Str).cps.size = 100 + k := fun k => by simp
  have key : ∀ {i : Nat} {y : Nat × Str}, l.find? (fun e => e.1 == i) = some y → y ∈ l ∧ y.1 = i := fun {i y} h => ⟨List.mem_of_find?_eq_some h, by simpa using List.find?_some h⟩
  unfold nmOf at e
  cases hi : l.find? (fun e => e.1 == i) with
  | none =>
    rw [hi] at e
    cases hj : l.find? (fun e => e.1 == j) with
    | none =>
      rw [hj] at e
      have := congrArg (fun s : Str => s.cps.size) e
      simp at this
      omega
    | some t =>
      rw [hj] at e
      have h1 := hl t (key hj).1
      have h2 : t.2 = ⟨(List.replicate (100 + i) 97).toArray⟩ := e.symm
      rw [h2, long] at h1
      omega
  | some s =>
    rw [hi] at e
    cases hj : l.find? (fun e => e.1 == j) with
    | none =>
      rw [hj] at e
      have h1 := hl s (key hi).1
      have h2 : s.2 = ⟨(List.replicate (100 + j) 97).toArray⟩ := e
      rw [h2, long] at h1
      omega
    | some t =>
      rw [hj] at e
      have e' : s.2 = t.2 := e
      obtain ⟨a1, a2⟩ := key hi
      obtain ⟨b1, b2⟩ := key hj
      have q1 : (i, t.2) ∈ l := by rw [← a2, ← e']; exact a1
      have q2 : (j, t.2) ∈ l := by rw [← b2]; exact b1
      exact nodup_snd hn q1 q2

/-! ### the told def, its lambdas -/
structure TellC (P : Program) (w : World) (K : PySem.W.Frag) (mg : Str → Option Value) (base : Heap) (G : Ct) (tell : LO → Option D) : Prop where
  ex : ∃ (g : Addr) (st : Stmt) (Ng : List Str) (oc : Value) (od : Option Addr) (kV doc pm : Value) (an : Option Addr) (cdv ct : Value) (osl : Array (Option Value)), mg "_law_told" = some (.ref g) ∧ PySem.W.keepIn K (.ref g) = true ∧
    K.lookup g = some ⟨oc, od, .func (PySem.W.fnOf "_law_told" "_law_told" (defArgs st) (defBody st) (defScope st) .none kV doc pm an cdv ct), osl⟩ ∧ PySem.W.codeIn K cdv "_law_told" = true ∧
    L2.Binds K (PySem.W.fnOf "_law_told" "_law_told" (defArgs st) (defBody st) (defScope st) .none kV doc pm an cdv ct) ["action"] [] ∧ FnScope Ng ["action"] (defScope st) ∧ Ng[0]? = some ("action" : Str) ∧ Vis (defScope st) "action" ∧
    ∀ (X : Cx) (q : Str), X.prog = P → X.w = w → X.K = K → X.mg = mg → X.base = base → LamX.GivesTo X Ng "_law_told" (defScope st) g cdv (defBody st) "action" q (TTd G tell)
theorem pe_lam {X : Cx} {tell : LO → Option D} {c Pt : Addr} {T : List (Addr × Str)} {params : Arguments} {body : Expr} {scope : Scope} {t : XK → TE} {k : Nat} {p lpos pos : Pos} (L : TellC X.prog X.w X.K X.mg X.base G tell) (TB : LamX.TabB X.base X.mg c Pt) (hcode : X.env.code = .ref c)
    {Qn : Str} (hmT : (Pt, Qn ++ "<lambda>") ∈ T) (hu : ∀ p ∈ T, p.1 = Pt → p.2 = Qn ++ "<lambda>") (hq : X.env.qual = Qn) (hr : Room (k + 2) X.A) (S : LamX.LamS X.env.scope scope)
    (hbody : ∀ (A : Around) (outer : List Env) (s : Shared) (H : Hp) (E : XK) (f c' : Addr), Room k (A.deeper (LamX.lamEnv X scope s.heap.objs.size f c')) → PE (LamX.lamCx X A outer s H E scope f c') body (t E)) (hdef : defaultsOf params X.env = ([], []) := by rfl)
    (hbind : ∀ (q : Str) (cl : List (Str × Addr)) (pm cv ctv : Value), bindArgs (PySem.W.kla_fn "<lambda>" q params body scope cl pm cv ctv) ⟨[], []⟩ = pure [] := by intros; rfl) (hg : Gl X "_law_told" := by rfl) :
    PE X (.Call (.Name "_law_told" p) [.Lambda params body scope lpos] [] pos) (LamX.tLam T (TTd G tell) t) := by
  obtain ⟨g, st, Ng, oc, od, kV, doc, pm, an, cdv, ct, osl, h1, h2, h3, h4, h5, h6, h7, h8, h9⟩ := L.ex
  subst hq
  exact LamX.pe_lamcall hg h1 h2 h3 h4 h5 h6 h7 h8 (h9 X _ rfl rfl rfl rfl rfl) TB hcode hmT hu hr S hdef hbind hbody
/-- a def whose code object stands at c -/
structure FunC (K : PySem.W.Frag) (x qual : Str) (st : Stmt) (f : Addr) (fd : FuncData) (c : Addr) : Prop where
  ex : ∃ (oc : Value) (od : Option Addr) (kV doc pm : Value) (an : Option Addr) (ct : Value) (osl : Array (Option Value)), fd = PySem.W.fnOf x qual (defArgs st) (defBody st) (defScope st) .none kV doc pm an (.ref c) ct ∧ K.lookup f = some ⟨oc, od, .func fd, osl⟩ ∧ PySem.W.codeIn K (.ref c) qual = true
theorem okC_of {P : Program} {w : World} {mg : Str → Option Value} {base : Heap} {x qual : Str} {st : Stmt} {f c : Addr} {fd : FuncData} {N ps : List Str} {k : Nat} {b : XS} (F : FunC G.b.K x qual st f fd c) (Sc : FnScope N ps (defScope st))
    (hb : ∀ (A : Around) (outer : List Env) (s : Shared) (H : Hp) (E : XK), Room k (A.deeper (envOfC qual (defScope st) s.heap.objs.size f (.ref c))) →
      ∃ t, PSs (cxOf CX0 P w G.b.K mg base N qual (defScope st) f (.ref c) A outer s H E).nox (defBody st) t ∧ SS G (fun c d _ T => E c d T) t b) : FnOk P w G.b.K mg base CX0 (k + 1) f fd ps (spOf G (fnOf N.length b) ps.length) := by
  obtain ⟨oc, od, kV, doc, pm, an, ct, osl, rfl, lk, hcd⟩ := F.ex
  refine fn_of lk hcd Sc (fun vs H Q E h => sp_len h) fun A outer s H vs Q E hr h => ?_
  obtain ⟨t, ht, hs⟩ := hb A outer s H E hr
  exact ⟨t, ht.nox, sp_run (sp_len h) hs h⟩
theorem tell_ret {d : D} {t : TS} {s : XS} {n : Nat} {De : Ends} (hs : SS G E0x t s) (e : tellD (s (List.replicate n none) []) = some d) (hlen : σ.length = n) (c : Cf0 G W F H) (k : ∀ v W' H2, Same W W' → Cf0 G W' F H2 → Is G.b W' d v → De.rt v H2) : t De σ H := by
  unfold tellD at e
  split at e
  · rename_i d' es
    cases e
    refine hs [] W F H σ _ [] _ De (c.slots (by simp [hlen]) fun i p z => ?_) es fun v β W' H' sm l c' i => ?_
    · rw [List.getElem?_replicate] at z
      split at z <;> cases z
    · have hβ : β = [] := List.length_eq_zero_iff.mp c'.al
      subst hβ
      exact k v W' H' sm c' i
  · cases e
/-- nothing promised -/
theorem fn_void {P : Program} {w : World} {K : PySem.W.Frag} {mg : Str → Option Value} {base : Heap} {CX : CXT} {f : Addr} {fd : FuncData} {ps : List Str} {sp : Sp} (h : ∀ vs H Q E, ¬ sp vs H Q E) : FnOk P w K mg base CX 0 f fd ps sp :=
  ⟨fun vs H Q E q => absurd q (h vs H Q E), fun A outer s H args us vs Q E hr he hb hv hs => absurd hs (h vs H Q E)⟩
theorem void_none {n : Nat} : ∀ vs H Q E, ¬ spOf G (fun _ _ => none) n vs H Q E := fun vs H Q E ⟨_, _, _, _, _, _, _, _, h, _⟩ => by cases h
theorem cal_z {P : Program} {w : World} {K : PySem.W.Frag} {mg : Str → Option Value} {base : Heap} {CX : CXT} {k n : Nat} {x : Str} {ps : List Str} {f : Fn} (c : DL.Cal P w K mg base CX k x ps (spOf G f n)) : DL.Cal P w K mg base CX k x ps (spOf G (fzF f) n) := by
  obtain ⟨f', fd, h1, h2, h3, h4⟩ := c.ex
  exact ⟨f', fd, h1, h2, h3, h4.imp fun vs H Q E h => sp_fz h⟩
theorem calM_z {P : Program} {w : World} {K : PySem.W.Frag} {mg : Str → Option Value} {base : Heap} {CX : CXT} {k n : Nat} {C : Addr} {x : Str} {ps : List Str} {f : Fn} (c : DL.CalM P w K mg base CX k C x ps (spOf G f n)) : DL.CalM P w K mg base CX k C x ps (spOf G (fzF f) n) := by
  obtain ⟨f', fd, h1, h2, h3, h4⟩ := c.ex
  exact ⟨f', fd, h1, h2, h3, h4.imp fun vs H Q E h => sp_fz h⟩
/-- the beginning: the law's own def -/
theorem law_starts {b : Bs} {T : List (Addr × Str)} {f : Fn} (spec : ∀ l : List Int, f [.fr (.rol (l.map .int))] [] = some (.ret (.fr (.bl true)) [])) {H : Hp} {a : Addr} {ns : List Int} (hS : SqL b.K H a (ns.map V.int)) (ht : ∀ p ∈ T, H p.1 = some (.tbl #[])) : spOf ⟨b, TabMap T, 0, 0, 0⟩ f 1 [.ref a] H (fun v _ => v = .bl true) fun _ _ _ => False := by
  have tb : NdefX.TabsN (TabMap T) H := tabs_to fun p hp => LamX.TabS.nil (ht p hp)
  have go : ∀ W : Hp, Same W H → NT W → SqL b.K W a (ns.map V.int) → spOf ⟨b, TabMap T, 0, 0, 0⟩ f 1 [.ref a] H (fun v _ => v = .bl true) fun _ _ _ => False := fun W s nt hs => by
    have c : Cf0 ⟨b, TabMap T, 0, 0, 0⟩ W (fun _ => none) H := ⟨rfl, fun i p e => (by simp at e), rfl, fun i o b e => (by simp at e), fun i j o o' b e => (by simp at e), fun b => .inl rfl, s, fun b o e => (by cases e), tb, nt, fun b ps z => (by cases z)⟩
    refine ⟨[], W, _, [.fr (.rol (ns.map .int))], [], _, rfl, is_args c (IsPs.cons (isP_fr.mpr (is_rol.mpr ⟨a, _, rfl, hs, isL_ints (G := ⟨b, TabMap T, 0, 0, 0⟩)⟩)) IsPs.nil), spec ns, fun v β W' H' _ _ _ i => isP_bl.mp i⟩
  have one_same : ∀ {o : HO}, (fun b => if b = a then some o else none : Hp) a = some o := by intro o; simp
  have same_one : ∀ {o : HO}, H a = some o → Same (fun b => if b = a then some o else none) H := fun {o} h b u e => by
    by_cases q : b = a
    · subst q; simp at e; subst e; exact h
    · simp [q] at e
  have nt_one : ∀ {o : HO}, (∀ ps, o ≠ .tbl ps) → NT (fun b => if b = a then some o else none) := fun {o} h b ps z => by
    by_cases q : b = a
    · simp [q] at z; exact h ps z
    · simp [q] at z
  rcases hS with (h | ⟨o, h⟩) | h
  · exact go _ (same_one h) (nt_one fun ps z => by cases z) (.inl (.inl one_same))
  · exact go _ (same_one h) (nt_one fun ps z => by cases z) (.inl (.inr ⟨o, one_same⟩))
  · exact go (fun _ => none) (fun b o e => by cases e) (fun b ps z => by cases z) (.inr h)
end
end ML

/-! enumerate over a tuple -/
namespace PySem
open Sem (wp)
open AutoSeq1 (wpAny_loadPart')
theorem mx9_enumerate_newT (l : Addr) (items : Array Value) (n : Nat) (dct : Option Addr) (sl : Array (Option Value)) :
    Meets (Builtin.«enumerate.__new__» ⟨[.type "enumerate", .ref l], []⟩) (fun _ R s => s.heap.get? l = some { cls := .type "tuple", dict := dct, data := .seq items n, slots := sl } ∧
      R (.ok (.ret (.ref (s.heap.push { cls := .type "tuple_iterator", data := .fields #[.ref l, .int 0 0] }).objs.size)))
        { s with heap := (s.heap.push { cls := .type "tuple_iterator", data := .fields #[.ref l, .int 0 0] }).push { cls := .type "enumerate", data := .fields #[.none, .bool false, .ref s.heap.objs.size, rawInt 0, .none, .none] } }) :=
  .of_wp fun prog w A R s h => by
    obtain ⟨hp, g, d, tk, os⟩ := s; obtain ⟨hl, h⟩ := h
    have hsub := sub_enumerate
    have hL : Heap.IsTuple (Shared.heap ⟨hp, g, d, tk, os⟩) l items := ⟨_, hl, rfl, n, rfl⟩
    wp_walk using wpAny_loadPart' hl
    refine wpAny_stack_any fun st => wpAny_pure ?_
    split
    · rename_i c _ _ _ _ _
      cases (c == Value.type "enumerate")
      · wp_walk using wpAny_loadPart' hl, wpAny_pyIter_tuple hL
        exact ⟨_, rfl, h⟩
      · wp_walk using wpAny_loadPart' hl, wpAny_pyIter_tuple hL
        exact ⟨_, rfl, h⟩
    · wp_walk using wpAny_loadPart' hl, wpAny_pyIter_tuple hL
      exact ⟨_, rfl, h⟩
section
variable {prog : Program} {w : World} {A : Around} {E : Value → Shared → Prop} {s : Shared}
theorem mx9_call_enumerate {l : Addr} {items : Array Value} {Q : Value → Shared → Prop} (hL : s.heap.IsTuple l items)
    (h : ∀ h', IsEnum h' (s.heap.objs.size + 1) s.heap.objs.size 0 .none → h'.IsTupleIter s.heap.objs.size l 0 → h'.objs.size = s.heap.objs.size + 2 →
      (∀ b o, s.heap.get? b = some o → h'.get? b = some o) → Q (.ref (s.heap.objs.size + 1)) { s with heap := h' }) :
    wpAny (model prog w) A (call (.type "enumerate") [.ref l]) Q E s := by
  obtain ⟨⟨c, dct, dt, sl⟩, hl, hc, n, hd⟩ := hL
  replace hc : c = .type "tuple" := hc
  replace hd : dt = .seq items n := hd
  subst hc hd
  refine callType_new F.called_enumerate (by decide) (F.typeCall_enumerate_1 _) (F.newCall_enumerate_1 _) (fun obj => F.args_object_init_2 obj _) F.entry_enumerate_new
    (mx9_enumerate_newT l items n dct sl) ⟨hl, ?_⟩
  have hz : (s.heap.push { cls := .type "tuple_iterator", data := .fields #[.ref l, .int 0 0] }).objs.size = s.heap.objs.size + 1 := Heap.size_push ..
  show _ ∧ _
  rw [hz]
  have he : IsEnum ((s.heap.push { cls := .type "tuple_iterator", data := .fields #[.ref l, .int 0 0] }).push
      { cls := .type "enumerate", data := .fields #[.none, .bool false, .ref s.heap.objs.size, rawInt 0, .none, .none] }) (s.heap.objs.size + 1) s.heap.objs.size 0 .none := by
    have := Heap.get?_push_size (s.heap.push { cls := .type "tuple_iterator", data := .fields #[.ref l, .int 0 0] })
      (o := { cls := .type "enumerate", data := .fields #[.none, .bool false, .ref s.heap.objs.size, rawInt 0, .none, .none] }) rfl
    rw [hz] at this; exact this
  refine ⟨⟨_, he, rfl⟩, h _ he ⟨_, Heap.get?_push_of_some _ (Heap.get?_push_size _ rfl), rfl, rfl⟩ (by rw [Heap.size_push, hz]) fun b o x => Heap.get?_push_of_some _ (Heap.get?_push_of_some _ x)⟩
theorem mx9_drawsT (hh : A.handled = none) (it l : Addr) (hne : l ≠ it) (items : Array Value) :
    Draws prog w A it [it, l] items.size (fun i v => items[i]? = some v) (fun i h => h.IsTupleIter it l i ∧ h.IsTuple l items) where
  live := fun _ _ st => let ⟨o, ho, _⟩ := st.1; ⟨o, ho⟩
  frame := fun _ _ _ st hk => ⟨st.1.at fun o e => hk it (by simp) o e, let ⟨o, ho, r⟩ := st.2; ⟨o, hk l (by simp) o ho, r⟩⟩
  item := fun i s Q E hi st hQ => by
    refine RZ.nextOf_tuple_item st.1 st.2 (x := items[i]) (by simp [hi]) fun h' hit' hs' => ?_
    exact hQ _ h' s.toks (by simp [hi]) ⟨hit', let ⟨o, ho, r⟩ := st.2; ⟨o, (hs'.2 l hne).trans ho, r⟩⟩ hs'
  done := fun s Q E st hE => RZ.nextOf_tuple_end hh st.1 st.2 (by simp) hE
theorem mx9_enum_end {e it l : Addr} {i : Nat} {items : Array Value} {old : Value} {Q : Option Value → Shared → Prop} (hh : A.handled = none)
    (he : IsEnum s.heap e it i old) (hit : s.heap.IsTupleIter it l i) (hl : s.heap.IsTuple l items) (hx : items[i]? = none)
    (hQ : ∀ h', Heap.ExtBut it s.heap h' → Q none { s with heap := h' }) : wpAny (model prog w) A (pyNext (.ref e)) Q E s := by
  have hT : s.TypeIs (.ref e) "enumerate" := ⟨_, he, rfl⟩
  unfold pyNext
  refine wpAny_bind (wpAny_attempt (wpAny_callSpecial?_slot (name := Str.ofString "__next__") hT F.slot_enumerate_next
    (wpAny_call_entry F.slot_enumerate_next hT F.entry_enumerate_next ?_ (F.args_enumerate_next_1 _))))
  show wpAny _ _ (field (.ref e) 2 >>= _) _ _ _
  refine wpAny_bind (wpAny_field he rfl (x := .ref it) rfl ?_)
  refine wpAny_bind (RZ.nextOf_tuple_end hh hit hl hx fun h' x he' hx' => ?_)
  obtain ⟨o, ho, hc⟩ := hx'
  refine wpAny_bind (wpAny_isInstance (T := "StopIteration") (b := true) ⟨o, ho, hc⟩ isSubtype_stop ?_)
  exact wpAny_pure (hQ _ he')
end
end PySem
namespace DL
open PySem PySem.Spec PyProof.Rows L2
def IteT (K : PySem.W.Frag) (a : Addr) : It :=
  ⟨fun i H => ∃ (xs : List V) (x : V), SqT K H a xs ∧ xs[i]? = some x, fun i H v H' => ∃ T x, v = .ref T ∧ H T = none ∧ H' = upd H T (.tup [.int (i : Nat), x]) ∧ ∀ xs, SqT K H a xs → xs[i]? = some x, fun i H => ∃ xs : List V, SqT K H a xs ∧ xs.length ≤ i⟩
theorem turn_enumT {P : Program} {w : World} {K : PySem.W.Frag} {elts : List Expr} {kk : Nat} {tpos : Pos} (a e it : Addr) :
    Turn P w K (.Tuple elts kk tpos) (IteT K a) [e, it] e (fun i h => (∃ old, IsEnum h e it ((i : Nat) : Int) old) ∧ h.IsTupleIter it a i ∧ e ≠ it ∧ a ≠ it ∧ a ≠ e) where
  mem := by simp
  obj := fun i h st b hb => by
    obtain ⟨⟨old, he⟩, ⟨o, ho, hc, hd⟩, _⟩ := st
    have e' : b = e ∨ b = it := by simpa using hb
    rcases e' with z | z
    · rw [z]; exact ⟨_, he, fun v q => nomatch q⟩
    · rw [z]; exact ⟨o, ho, fun v q => by rw [hd] at q; cases q⟩
  keep := fun i h h' st k => let ⟨⟨old, he⟩, hi, hne⟩ := st; ⟨⟨old, k e (by simp) _ he⟩, hi.at fun o q => k it (by simp) o q, hne⟩
  item := by
    intro X hP hw hK hc i pins s σ H E I hf st hg
    subst hP hw hK
    obtain ⟨⟨old, he⟩, hit, hne, hai, hae⟩ := st
    obtain ⟨xs, x, hq, hx⟩ := hg
    obtain ⟨its, rv, p, hz⟩ := I.tuple hq
    obtain ⟨u, hu, ru⟩ := rv.get hx
    have hel : e < s.heap.objs.size := Heap.lt_size he
    have hil : it < s.heap.objs.size := by obtain ⟨_, q, _⟩ := hit; exact Heap.lt_size q
    have p' : s.heap.IsTuple a its.toArray := p
    have hlt : i < its.toArray.size := by
      have := (List.getElem?_eq_some_iff.mp hu).1
      simpa using this
    refine wpAny_pyNext_enum_itemD (PySem.mx9_drawsT (prog := X.prog) (w := X.w) (A := X.A.in1) (I.ok.hd hc) it a hai its.toArray) he ⟨hit, p'⟩ hlt hne (by simp [hne, Ne.symm hae]) fun x' h' tk hP' ho st' hT hsz hk => ?_
    have hxu : x' = u := by
      have hu' : its.toArray[i]? = some u := by simpa using hu
      have hP2 : its.toArray[i]? = some x' := hP'
      rw [hu'] at hP2
      exact (Option.some.inj hP2).symm
    subst hxu
    refine ⟨_, rfl, wpAny_letOwnedTupleGo_enum (s := { s with heap := h', toks := tk + 1 }) ho fun h'' he' sb => ?_⟩
    have hT2 : h''.get? s.heap.objs.size = some { cls := .type "tuple", data := .seq #[.int i tk, x'] } := (sb.2 _ (Nat.ne_of_gt hel)).trans hT
    have new : ObjOk X.prog X.w (upd H s.heap.objs.size (.tup [.int (i : Nat), x])) h'' s.heap.objs.size (.tup [.int (i : Nat), x]) :=
      ⟨by show 2 ≤ sizeLine; decide, [.int i tk, x'], .cons ⟨_, rfl⟩ (.cons ru .nil), ⟨_, hT2, rfl, _, rfl⟩⟩
    have I1 : Inv X pins σ (upd H s.heap.objs.size (.tup [.int (i : Nat), x])) { s with heap := h'', toks := tk + 1 } :=
      I.turnedNew (ch := [e, it]) (fun b ob hb q => (sb.2 b (fun z => hb (by simp [z]))).trans (hk b ob (fun z => hb (by simp [z])) (fun z => hb (by simp [z])) q)) hf (Nat.le_refl _) new
    refine ⟨.ref s.heap.objs.size, _, I1, rfl, ⟨_, x, rfl, I.hok.fresh (Nat.le_refl _), rfl, fun ys hy => by rw [I.tuple_inj hy hq]; exact hx⟩, ⟨⟨x', ?_⟩, st'.1.at fun o q => (sb.2 it (Ne.symm hne)).trans q, hne, hai, hae⟩, fun b hb => ?_⟩
    · have e1 : ((i + 1 : Nat) : Int) = (i : Int) + 1 := by omega
      rw [e1]; exact he'
    · have hb' : b < s.heap.objs.size := by
        have e' : b = e ∨ b = it := by simpa using hb
        rcases e' with z | z
        · rw [z]; exact hel
        · rw [z]; exact hil
      rw [upd_ne (Nat.ne_of_lt hb')]
      exact (hf b hb).1
  done := by
    intro X hP hw hK hc i pins s σ H E I hf st hg
    subst hP hw hK
    obtain ⟨⟨old, he⟩, hit, hne, hai, hae⟩ := st
    obtain ⟨xs, hq, hx⟩ := hg
    obtain ⟨its, rv, p, hz⟩ := I.tuple hq
    obtain ⟨f0, f1, f2, f3, f4, f5⟩ := hf it (by simp)
    have hl := rv.length
    have p' : s.heap.IsTuple a its.toArray := p
    refine PySem.mx9_enum_end (I.ok.hd hc) he hit p' (by simp; omega) fun h' eb => ⟨rfl, I.turned (t' := s.toks) (fun b o hb q => eb b o hb q) f0 f1 f3 f4 f5⟩
  self := fun A i s Q E st h => let ⟨⟨_, he⟩, _⟩ := st; wpAny_pyIter_enum he h
def iEnumA (K : PySem.W.Frag) (ta : TA) : TI := fun σ H R => ta σ H fun vs H1 => ∃ a xs, vs = [.ref a] ∧ ((SqL K H1 a xs ∧ R (Ite K a) H1) ∨ (SqT K H1 a xs ∧ R (IteT K a) H1))
theorem pi_enumA {X : Cx} {e : Expr} {ta : TA} {p pos tpos : Pos} {elts : List Expr} {kk : Nat} (K : PySem.W.Frag) (hK : X.K = K) (hg : Gl X "enumerate") (hm : X.mg "enumerate" = none) (ha : PA X [e] ta) (hs : starEach [e] X.env = [(false, eval e X.env)] := by rfl) :
    PI X (.Tuple elts kk tpos) (.Call (.Name "enumerate" p) [e] [] pos) (iEnumA K ta) := by
  subst hK
  refine ⟨fun pins s σ H R I h => ?_⟩
  refine Call_ (ld_blt I hg hm boot_enumerate (PyProof.Rows.callWith_type1 (thn (ha.run pos pins s σ H _ I h) fun us s1 ⟨vs, H1, I1, r1, q1⟩ => ?_) hs rfl))
  obtain ⟨a, xs, ex, q⟩ := q1
  subst ex
  cases r1 with
  | cons r rr =>
    cases rr
    cases r
    have fresh2 : ∀ b, b ∈ [s1.heap.objs.size + 1, s1.heap.objs.size] → FpOk X pins H1 b := fun b hb => by
      have e' : b = s1.heap.objs.size + 1 ∨ b = s1.heap.objs.size := by simpa using hb
      have hle : s1.heap.objs.size ≤ b := by
        rcases e' with z | z
        · rw [z]; exact Nat.le_add_right _ _
        · rw [z]; exact Nat.le_refl _
      exact I1.fpOk hle (I1.hok.fresh hle)
    rcases q with ⟨hq, q⟩ | ⟨hq, q⟩
    · obtain ⟨its, rv, p', hz⟩ := I1.list hq
      refine call_enumerate_list p'.isList fun h' he hit hsz hk => wpAny_pyIter_enum he ?_
      have I2 : Inv X pins σ H1 { s1 with heap := h' } := I1.kept (t' := s1.toks) hk
      exact ⟨s1.heap.objs.size + 1, [s1.heap.objs.size + 1, s1.heap.objs.size], _, _, H1, rfl, I2, turn_enum a (s1.heap.objs.size + 1) s1.heap.objs.size, ⟨⟨.none, he⟩, hit, Nat.succ_ne_self _⟩, fresh2, q⟩
    · obtain ⟨its, rv, p', hz⟩ := I1.tuple hq
      have p2 : s1.heap.IsTuple a its.toArray := p'
      obtain ⟨o1, ho1, _⟩ := id p2
      have hl := Heap.lt_size ho1
      refine PySem.mx9_call_enumerate p2 fun h' he hit hsz hk => wpAny_pyIter_enum he ?_
      have I2 : Inv X pins σ H1 { s1 with heap := h' } := I1.kept (t' := s1.toks) hk
      exact ⟨s1.heap.objs.size + 1, [s1.heap.objs.size + 1, s1.heap.objs.size], _, _, H1, rfl, I2, turn_enumT a (s1.heap.objs.size + 1) s1.heap.objs.size, ⟨⟨.none, he⟩, hit, Nat.succ_ne_self _, Nat.ne_of_lt hl, Nat.ne_of_lt (Nat.lt_succ_of_lt hl)⟩, fresh2, q⟩
end DL

namespace ML
open PySem L2 PySem.Spec PyProof.Rows
/-! ### one of two ways, both sound -/
def zAlt (a b : XS) : XS := fun en hp => alt (a en hp) (b en hp)
theorem ss_alt {G : Ct} {Ex : WX} {t : TS} {a b : XS} (h : SS G Ex t a) (k : SS G Ex t b) : SS G Ex t (zAlt a b) := fun α W F H σ en hp r D c e g => by
  unfold zAlt alt at e
  split at e
  · exact k α W F H σ en hp r D c e g
  · exact h α W F H σ en hp r D c e g
/-! ### l.index(x), the items data of any kind -/
section
variable {G : Ct}
theorem toPyL_map : ∀ ds : List D, toPyL ds = ds.map toPy
  | [] => by unfold toPyL; rfl
  | d :: ds => by unfold toPyL; rw [List.map_cons, toPyL_map ds]
def idxD (y : D) : List D → Option Nat
  | [] => none
  | z :: zs => if eqPy z y = true then some 0 else match idxD y zs with
    | none => none
    | some j => some (j + 1)
theorem idxD_spec {y : D} : ∀ {vs : List D} {j : Nat}, idxD y vs = some j → ∃ z, vs[j]? = some z ∧ eqPy z y = true ∧ ∀ (m : Nat) z', m < j → vs[m]? = some z' → eqPy z' y = false
  | [], j, h => by cases h
  | z :: zs, j, h => by
    unfold idxD at h
    split at h
    · rename_i hz
      cases h
      exact ⟨z, rfl, hz, fun m z' hm => by omega⟩
    · rename_i hz
      split at h
      · cases h
      · rename_i j' hj
        cases h
        obtain ⟨z1, h1, h2, h3⟩ := idxD_spec hj
        refine ⟨z1, by simpa using h1, h2, fun m z' hm he => ?_⟩
        cases m with
        | zero =>
          simp at he
          subst he
          simpa using hz
        | succ m => exact h3 m z' (by omega) (by simpa using he)
def gIndexD (hp : List O) (p : PV) (as : List PV) : Option (PV × List O) := match as with
  | [q] => match pvD hp q with
    | none => none
    | some y => match pvD hp p with
      | some (.lst ds) => if okD 60 (.lst ds) && okD 60 y then match idxD y ds with
          | none => none
          | some j => some (.fr (.int (j : Nat)), hp)
        else none
      | _ => none
  | _ => none
theorem g_indexD : GM G (rIndexD G.b.K) gIndexD := fun α W F H σ en hp p ps v vs z hp' Q c i is e kk => by
  unfold gIndexD at e
  split at e
  · split at e
    · cases e
    · rename_i y ey
      split at e
      · rename_i ds eq
        split at e
        · rename_i hh
          rw [Bool.and_eq_true] at hh
          split at e
          · cases e
          · rename_i j ej
            cases e
            obtain ⟨w, rfl, iw⟩ := isPs1 is
            obtain ⟨h1, h2, h3, h4⟩ := eqD_at c i iw eq ey hh.1 hh.2
            obtain ⟨z1, k1, k2, k3⟩ := idxD_spec ej
            rw [show toPy (.lst ds) = .list (toPyL ds) by unfold toPy; rfl] at h1 h3
            rw [toPyL_map] at h1 h3
            have hv : ∃ a, v = .ref a := by cases h1; exact ⟨_, rfl⟩
            obtain ⟨a, rfl⟩ := hv
            refine ⟨a, w, toPy y, ds.map toPy, j, toPy z1, rfl, rfl, h1, h2, h3, h4, by rw [List.getElem?_map, k1]; rfl, k2, fun m z' hm he => ?_, kk _ α W _ (Same.refl _) (Grow.refl _) c (isP_int.mpr rfl)⟩
            rw [List.getElem?_map, Option.map_eq_some_iff] at he
            obtain ⟨x, e1, e2⟩ := he
            subst e2
            exact k3 m x hm e1
        · cases e
      · cases e
  · cases e
def rIndexA (K : PySem.W.Frag) : V → List V → Hp → VK → Prop := fun x xs H Q => rIndex K x xs H Q ∨ rIndexD K x xs H Q
theorem mt_indexA {X : Cx} {k : Nat} (K : PySem.W.Frag) (h : X.K = K) (hr : Room k X.A) : MtR X "list.index" (rIndexA K) := by
  subst h
  intro pins s σ H x xs v us Q I rx rxs hh
  rcases hh with hh | hh
  · exact mt_index pins s σ H x xs v us Q I rx rxs hh
  · exact mt_indexD (by have := hr.un; omega) pins s σ H x xs v us Q I rx rxs hh
def gIndexA (hp : List O) (p : PV) (as : List PV) : Option (PV × List O) := alt (gIndex hp p as) (gIndexD hp p as)
theorem g_indexA : GM G (rIndexA G.b.K) gIndexA := fun α W F H σ en hp p ps v vs z hp' Q c i is e kk => by
  unfold gIndexA alt at e
  split at e
  · exact .inr (g_indexD α W F H σ en hp p ps v vs z hp' Q c i is e kk)
  · exact .inl (g_index α W F H σ en hp p ps v vs z hp' Q c i is e kk)
end
/-! ### enumerate over a list or a tuple -/
section
variable {G : Ct} {Ex : WX} {tas : TA} {xas : XA}
def xiEnA (a : XA) : XI := fun en hp => xb (a en hp) fun ps hp1 => match ps with
  | [p] => match vseq hp1 p with
    | some z => match unfr z.2 with
      | some ds => some (.ok (enumP 0 ds, ckP hp1 p) hp1)
      | none => none
    | _ => none
  | _ => none
theorem si_enA (h : SA G Ex tas xas) : SI G Ex (DL.iEnumA G.b.K tas) (xiEnA xas) := fun α W F H σ en hp r Q c e g => by
  unfold xiEnA at e
  rcases xb_cases e with ⟨ps, hp', e1, e2⟩ | ⟨C, ns, ds, hp', e1, e2⟩
  · split at e2
    · rename_i p
      split at e2
      · rename_i z ez
        obtain ⟨k, qs⟩ := z
        split at e2
        · rename_i ds ed
          cases e2
          have hq := unfr_some ed
          have hq : qs = ds.map .fr := hq
          subst hq
          refine h α W F H σ en hp _ _ c e1 fun vs β W1 H1 s1 l1 c1 i1 => ?_
          obtain ⟨v, rfl, iv⟩ := isPs1 i1
          obtain ⟨a, rfl, hh⟩ := seq_later c1 iv ez
          obtain ⟨a', ws, h3, h4, h5⟩ := seq_at c1 iv ez
          cases h3
          cases k with
          | false =>
            refine ⟨a, ws, rfl, .inl ⟨h4, g _ β W1 H1 s1 l1 c1 ⟨fun F2 γ W2 H2 σ2 en2 hp2 c2 s2 l2 hc => ?_, fun F2 i p γ W2 H2 σ2 en2 hp2 hi c2 s2 l2 hc => ?_⟩⟩⟩
            · obtain ⟨us, k1, k2⟩ := hh F2 γ W2 H2 σ2 en2 hp2 c2 s2 l2 hc
              exact ⟨us, k1, by rw [enumP_len, (isPs_fr.mp k2).len]; exact Nat.le_refl _⟩
            · obtain ⟨us, k1, k2⟩ := hh F2 γ W2 H2 σ2 en2 hp2 c2 s2 l2 hc
              obtain ⟨d, k3, rfl⟩ := enumP_get hi
              obtain ⟨u, k4, k5⟩ := (isPs_fr.mp k2).get k3
              refine ⟨⟨us, u, k1, k4⟩, fun x H' ⟨T, w, ev, hT, eH, hw⟩ => ?_⟩
              subst ev eH
              have := hw us k1
              rw [k4] at this
              cases this
              rw [Nat.zero_add]
              exact newTup c2 hT (IsL.cons (is_int.mpr rfl) (IsL.one k5))
          | true =>
            refine ⟨a, ws, rfl, .inr ⟨h4, g _ β W1 H1 s1 l1 c1 ⟨fun F2 γ W2 H2 σ2 en2 hp2 c2 s2 l2 hc => ?_, fun F2 i p γ W2 H2 σ2 en2 hp2 hi c2 s2 l2 hc => ?_⟩⟩⟩
            · obtain ⟨us, k1, k2⟩ := hh F2 γ W2 H2 σ2 en2 hp2 c2 s2 l2 hc
              exact ⟨us, k1, by rw [enumP_len, (isPs_fr.mp k2).len]; exact Nat.le_refl _⟩
            · obtain ⟨us, k1, k2⟩ := hh F2 γ W2 H2 σ2 en2 hp2 c2 s2 l2 hc
              obtain ⟨d, k3, rfl⟩ := enumP_get hi
              obtain ⟨u, k4, k5⟩ := (isPs_fr.mp k2).get k3
              refine ⟨⟨us, u, k1, k4⟩, fun x H' ⟨T, w, ev, hT, eH, hw⟩ => ?_⟩
              subst ev eH
              have := hw us k1
              rw [k4] at this
              cases this
              rw [Nat.zero_add]
              exact newTup c2 hT (IsL.cons (is_int.mpr rfl) (IsL.one k5))
        · cases e2
      · cases e2
    · cases e2
  · cases e2
    exact h α W F H σ en hp _ _ c e1 g
end
/-! ### the tables of facts, entry by entry -/
section
variable {b : Bs} {L : List (Nat × Nat × Bool)} {t u : Nat} {x : Bool}
theorem kitOk_nil : KitOk b [] := fun e he => by cases he
theorem kitOk_cons (h : PySem.W.kitOne b.K (tyVal b t) (tyVal b u) = some x) (hi : 100 ≤ t → InsTy b.K (b.cl (t - 100))) (r : KitOk b L) : KitOk b ((t, u, x) :: L) := fun e he => by
  rcases List.mem_cons.mp he with z | z
  · subst z; exact ⟨h, hi⟩
  · exact r e z
theorem kitX_nil : KitX b [] := fun e he => by cases he
theorem kitX_cons (h : PySem.W.kitOne b.K (tyVal b t) (tyVal b u) = some x) (r : KitX b L) : KitX b ((t, u, x) :: L) := fun e he => by
  rcases List.mem_cons.mp he with z | z
  · subst z; exact h
  · exact r e z
theorem exmOk_nil : ExmOk b [] := fun e he => by cases he
theorem exmOk_cons (h : PySem.W.exmOne b.K (tyVal b t) (tyVal b u) = some x) (r : ExmOk b L) : ExmOk b ((t, u, x) :: L) := fun e he => by
  rcases List.mem_cons.mp he with z | z
  · subst z; exact h
  · exact r e z
theorem nfOk_nil {C : Nat} : NfOk b C [] := fun e he => by cases he
theorem nfOk_cons {C : Nat} {M : List Nat} (h : PySem.W.notFirst b.K (b.cl C) (tyVal b t) = true) (hi : 100 ≤ t → InsTy b.K (b.cl (t - 100))) (r : NfOk b C M) : NfOk b C (t :: M) := fun e he => by
  rcases List.mem_cons.mp he with z | z
  · subst z; exact ⟨h, hi⟩
  · exact r e z
theorem fldOk_nil : FldOk b [] := fun e he => by cases he
theorem fldOk_cons {M : List (Nat × Nat)} (h : Cls b.K (b.cl t)) (n : NoAttr b.K (b.cl t) (b.nm u)) (r : FldOk b M) : FldOk b ((t, u) :: M) := fun e he => by
  rcases List.mem_cons.mp he with z | z
  · subst z; exact ⟨h, n⟩
  · exact r e z
end
end ML

namespace ML
open PySem L2
/-! ### how the pure side is reckoned: one statement after the other -/
def wS (r : Option Oc) (Q : Oc → Prop) : Prop := ∃ x, r = some x ∧ Q x
theorem wS_some {x : Oc} {Q : Oc → Prop} : wS (some x) Q ↔ Q x := ⟨fun ⟨y, e, h⟩ => by cases e; exact h, fun h => ⟨x, rfl, h⟩⟩
section
variable {a b : XS} {en : En} {hp : List O} {Q : Oc → Prop}
theorem w_seq (h : ∀ K : Oc → Prop, (∀ en1 hp1, wS (b en1 hp1) Q → K (.next en1 hp1)) → (∀ p hp1, Q (.ret p hp1) → K (.ret p hp1)) → (∀ C ns ds en1 hp1, Q (.exc C ns ds en1 hp1) → K (.exc C ns ds en1 hp1)) → wS (a en hp) K) : wS (zSeq a b en hp) Q := by
  obtain ⟨x, e, h⟩ := h (fun r => match r with | .next en1 hp1 => wS (b en1 hp1) Q | r => Q r) (fun _ _ h => h) (fun _ _ h => h) (fun _ _ _ _ _ h => h)
  unfold zSeq
  rw [e]
  cases x with
  | next en1 hp1 => exact h
  | ret p hp1 => exact ⟨_, rfl, h⟩
  | brk en1 hp1 => exact ⟨_, rfl, h⟩
  | ct en1 hp1 => exact ⟨_, rfl, h⟩
  | exc C ns ds en1 hp1 => exact ⟨_, rfl, h⟩
theorem w_of {x : Oc} (e : a en hp = some x) (h : Q x) : wS (a en hp) Q := ⟨x, e, h⟩
theorem w_step {en1 : En} {hp1 : List O} (e : a en hp = some (.next en1 hp1)) (h : wS (b en1 hp1) Q) : wS (zSeq a b en hp) Q := by
  unfold zSeq; rw [e]; exact h
theorem w_stop {p : PV} {hp1 : List O} (e : a en hp = some (.ret p hp1)) (h : Q (.ret p hp1)) : wS (zSeq a b en hp) Q := by
  unfold zSeq; rw [e]; exact ⟨_, rfl, h⟩
theorem w_exc {C : Nat} {ns : List Nat} {ds : List D} {en1 : En} {hp1 : List O} (e : a en hp = some (.exc C ns ds en1 hp1)) (h : Q (.exc C ns ds en1 hp1)) : wS (zSeq a b en hp) Q := by
  unfold zSeq; rw [e]; exact ⟨_, rfl, h⟩
theorem eq_of_w {r : Option Oc} {x : Oc} (h : wS r fun y => y = x) : r = some x := by
  obtain ⟨y, e, h⟩ := h
  rw [e, h]
theorem fn_of_w {n : Nat} {args : List PV} {r : Ro} (h : wS (b (args.map some ++ List.replicate (n - args.length) none) hp) fun x => fnOut hp.length (some x) = some r) : fnOf n b args hp = some r := by
  obtain ⟨x, e, h⟩ := h
  unfold fnOf
  rw [e]
  exact h
end
/-! ### simple values -/
theorem xb_ok {β γ : Type} (p : β) (hp : List O) (k : β → List O → Option (R γ)) : xb (some (.ok p hp)) k = k p hp := rfl
theorem xb_exc {β γ : Type} (C : Nat) (ns : List Nat) (ds : List D) (hp : List O) (k : β → List O → Option (R γ)) : xb (some (R.exc C ns ds hp : R β)) k = some (.exc C ns ds hp) := rfl
theorem xs_ok {β : Type} (en : En) (p : β) (hp : List O) (k : β → List O → Option Oc) : xs en (some (.ok p hp)) k = k p hp := rfl
theorem xs_exc {β : Type} (en : En) (C : Nat) (ns : List Nat) (ds : List D) (hp : List O) (k : β → List O → Option Oc) : xs en (some (R.exc C ns ds hp : R β)) k = some (.exc C ns ds en hp) := rfl
theorem xOp_of {g : List O → PV → PV → Option (PV × List O)} {a b : XE} {en : En} {hp hp1 hp2 : List O} {p q : PV} (h : a en hp = some (.ok p hp1)) (k : b en hp1 = some (.ok q hp2)) : xOp g a b en hp = lf (g hp2 p q) := by unfold xOp; rw [h, xb_ok, k, xb_ok]
theorem xCons_of {x : XE} {y : XA} {en : En} {hp hp1 hp2 : List O} {p : PV} {ps : List PV} (h : x en hp = some (.ok p hp1)) (k : y en hp1 = some (.ok ps hp2)) : xCons x y en hp = some (.ok (p :: ps) hp2) := by unfold xCons; rw [h, xb_ok, k, xb_ok]
theorem xb_none {β γ : Type} (k : β → List O → Option (R γ)) : xb (none : Option (R β)) k = none := rfl
theorem xs_none {β : Type} (en : En) (k : β → List O → Option Oc) : xs en (none : Option (R β)) k = none := rfl
theorem lf_some' {β : Type} (p : β) (hp : List O) : lf (some (p, hp)) = some (.ok p hp) := rfl
theorem nox_ok {β : Type} (p : β) (hp : List O) : nox (some (.ok p hp)) = some (.ok p hp) := rfl
theorem unfr_map' (ds : List D) : unfr (ds.map .fr) = some ds := unfr_map ds
theorem unfr_nil : unfr [] = some [] := rfl
theorem unfr_cons (d : D) (ps : List PV) : unfr (.fr d :: ps) = (unfr ps).map (d :: ·) := by
  conv => lhs; unfold unfr
  cases unfr ps <;> rfl
theorem mkL_map (ds : List D) : mkL (ds.map .fr) = .lst ds := by unfold mkL; rw [unfr_map]
theorem vseq_lst (hp : List O) (ds : List D) : vseq hp (.fr (.lst ds)) = some (false, ds.map .fr) := rfl
theorem vseq_rol (hp : List O) (ds : List D) : vseq hp (.fr (.rol ds)) = some (false, ds.map .fr) := rfl
theorem vseq_tup (hp : List O) (ds : List D) : vseq hp (.fr (.tup ds)) = some (true, ds.map .fr) := rfl
theorem sz_le {n : Nat} (h : n ≤ 100000) : sz n = true := decide_eq_true h
/-- a list of ints -/
abbrev LI (l : List Int) : D := .lst (l.map .int)
theorem intsP_map : ∀ l : List Int, intsP ((l.map D.int).map PV.fr) = some l
  | [] => rfl
  | n :: l => by rw [List.map_cons, List.map_cons]; unfold intsP; rw [intsP_map l]
theorem blsP_map : ∀ l : List Bool, blsP ((l.map D.bl).map PV.fr) = some l
  | [] => rfl
  | n :: l => by rw [List.map_cons, List.map_cons]; unfold blsP; rw [blsP_map l]
theorem flPs_ints : ∀ l : List Int, flPs ((l.map D.int).map PV.fr) = some (l.map V.int)
  | [] => rfl
  | n :: l => by rw [List.map_cons, List.map_cons]; unfold flPs; rw [flPs_ints l]; rfl
theorem okL_ints (n : Nat) : ∀ l : List Int, okL n (l.map .int) = true
  | [] => by unfold okL; rfl
  | x :: l => by rw [List.map_cons]; unfold okL; rw [okL_ints n l]; cases n <;> rfl
theorem okL_bls (n : Nat) : ∀ l : List Bool, okL n (l.map .bl) = true
  | [] => by unfold okL; rfl
  | x :: l => by rw [List.map_cons]; unfold okL; rw [okL_bls n l]; cases n <;> rfl
theorem eqv_ints : ∀ l m : List Int, PyData.eqvAll (toPyL (l.map .int)) (toPyL (m.map .int)) = decide (l = m)
  | [], [] => by simp [toPyL, PyData.eqvAll]
  | [], y :: m => by simp [toPyL, PyData.eqvAll]
  | x :: l, [] => by simp [toPyL, PyData.eqvAll]
  | x :: l, y :: m => by
    rw [List.map_cons, List.map_cons]
    unfold toPyL
    unfold PyData.eqvAll
    rw [eqv_ints l m]
    simp only [toPy, PyData.eqv, List.cons.injEq]
    by_cases h : x = y <;> by_cases k : l = m <;> simp [h, k]
theorem eqv_bls : ∀ l m : List Bool, PyData.eqvAll (toPyL (l.map .bl)) (toPyL (m.map .bl)) = decide (l = m)
  | [], [] => by simp [toPyL, PyData.eqvAll]
  | [], y :: m => by simp [toPyL, PyData.eqvAll]
  | x :: l, [] => by simp [toPyL, PyData.eqvAll]
  | x :: l, y :: m => by
    rw [List.map_cons, List.map_cons]
    unfold toPyL
    unfold PyData.eqvAll
    rw [eqv_bls l m]
    simp only [toPy, PyData.eqv, List.cons.injEq]
    by_cases h : x = y <;> by_cases k : l = m <;> simp [h, k]
theorem eqPy_int (m n : Int) : eqPy (.int m) (.int n) = decide (m = n) := by
  unfold eqPy toPy PyData.eqv
  by_cases h : m = n <;> simp [h]
theorem eqPy_lst (l m : List Int) : eqPy (.lst (l.map .int)) (.lst (m.map .int)) = decide (l = m) := by
  unfold eqPy
  simp only [toPy, PyData.eqv]
  exact eqv_ints l m
theorem eqPy_tup (l m : List Int) : eqPy (.tup (l.map .int)) (.tup (m.map .int)) = decide (l = m) := by
  unfold eqPy
  simp only [toPy, PyData.eqv]
  exact eqv_ints l m
theorem eqPy_bls (l m : List Bool) : eqPy (.lst (l.map .bl)) (.lst (m.map .bl)) = decide (l = m) := by
  unfold eqPy
  simp only [toPy, PyData.eqv]
  exact eqv_bls l m
theorem okD_int (n : Nat) (i : Int) : okD n (.int i) = true := by cases n <;> rfl
theorem okD_bl (n : Nat) (i : Bool) : okD n (.bl i) = true := by cases n <;> rfl
theorem okD_LI (n : Nat) (l : List Int) : okD (n + 1) (.lst (l.map .int)) = true := by unfold okD; exact okL_ints n l
theorem okD_TI (n : Nat) (l : List Int) : okD (n + 1) (.tup (l.map .int)) = true := by unfold okD; exact okL_ints n l
theorem okD_LB (n : Nat) (l : List Bool) : okD (n + 1) (.lst (l.map .bl)) = true := by unfold okD; exact okL_bls n l
/-! ### gets -/
theorem gIx_lst (hp : List O) (ds : List D) (i : Nat) (d : D) (h : ds[i]? = some d) : gIx hp (.fr (.lst ds)) (.fr (.int (i : Nat))) = some (.fr d, hp) := by
  have hl := (List.getElem?_eq_some_iff.mp h).1
  unfold gIx
  simp only [vseq, itemsD, atI, ixN, List.length_map]
  rw [if_pos (by omega), if_pos (by omega)]
  simp [h]
theorem gIx_tup (hp : List O) (ds : List D) (i : Nat) (d : D) (h : ds[i]? = some d) : gIx hp (.fr (.tup ds)) (.fr (.int (i : Nat))) = some (.fr d, hp) := by
  have hl := (List.getElem?_eq_some_iff.mp h).1
  unfold gIx
  simp only [vseq, itemsD, atI, ixN, List.length_map]
  rw [if_pos (by omega), if_pos (by omega)]
  simp [h]
/-! ### loops -/
theorem loopI_next {ck : List O → Bool} {g : XG} {b : XS} {p : PV} {ps : List PV} {en en1 en2 : En} {hp hp2 : List O} (h : ck hp = true) (hg : g p en = some en1) (hb : b en1 hp = some (.next en2 hp2)) : loopI ck g b (p :: ps) en hp = loopI ck g b ps en2 hp2 := by
  conv => lhs; unfold loopI
  rw [if_pos h, hg]
  simp only [hb]
theorem loopI_nil {ck : List O → Bool} {g : XG} {b : XS} {en : En} {hp : List O} (h : ck hp = true) : loopI ck g b [] en hp = some (.next en hp) := by
  unfold loopI
  rw [if_pos h]
theorem loopI_ret {ck : List O → Bool} {g : XG} {b : XS} {p q : PV} {ps : List PV} {en en1 : En} {hp hp2 : List O} (h : ck hp = true) (hg : g p en = some en1) (hb : b en1 hp = some (.ret q hp2)) : loopI ck g b (p :: ps) en hp = some (.ret q hp2) := by
  conv => lhs; unfold loopI
  rw [if_pos h, hg]
  simp only [hb]
/-- a comprehension that leaves the heap as it is -/
theorem lcI_map {ck : List O → Bool} {g : XG} {t : XT} {x : XE} {en : En} {hp : List O} {γ : Type} (I : γ → PV) (P : γ → Bool) (F : γ → PV) (hck : ck hp = true) : ∀ (its : List γ) (acc : List PV), acc.length + its.length ≤ 100000 →
    (∀ i ∈ its, ∃ en1, g (I i) en = some en1 ∧ t en1 hp = some (.ok (P i) hp) ∧ (P i = true → x en1 hp = some (.ok (F i) hp))) → lcI ck g t x en (its.map I) acc hp = some (.ok (acc ++ (its.filter P).map F) hp)
  | [], acc, _, _ => by unfold lcI; rw [List.map_nil, ] ; simp [hck]
  | i :: its, acc, hl, h => by
    obtain ⟨en1, h1, h2, h3⟩ := h i List.mem_cons_self
    rw [List.length_cons] at hl
    have ih := fun acc' (hl' : acc'.length + its.length ≤ 100000) => lcI_map I P F hck its acc' hl' fun j hj => h j (List.mem_cons_of_mem _ hj)
    rw [List.map_cons]
    unfold lcI
    rw [if_pos hck, h1]
    simp only [h2]
    cases hP : P i with
    | true =>
      simp only [h3 hP]
      rw [if_pos (sz_le (by omega)), ih _ (by rw [List.length_append]; simp; omega)]
      simp [hP]
    | false =>
      simp only
      rw [ih _ (by omega)]
      simp [hP]
/-- the same, no test -/
theorem lcI_all {ck : List O → Bool} {g : XG} {x : XE} {en : En} {hp : List O} {γ : Type} (I : γ → PV) (F : γ → PV) (hck : ck hp = true) (its : List γ) (hl : its.length ≤ 100000)
    (h : ∀ i ∈ its, ∃ en1, g (I i) en = some en1 ∧ x en1 hp = some (.ok (F i) hp)) : lcI ck g xYes x en (its.map I) [] hp = some (.ok (its.map F) hp) := by
  rw [lcI_map (γ := γ) I (fun _ => true) F hck its [] (by simpa using hl) fun i hi => ?_]
  · rw [List.nil_append, List.filter_eq_self.mpr (by simp)]
  · obtain ⟨en1, h1, h2⟩ := h i hi
    exact ⟨en1, h1, rfl, fun _ => h2⟩
/-- a comprehension that draws -/
theorem lcI_fold {ck : List O → Bool} {g : XG} {x : XE} {en : En} {γ σ : Type} (I : γ → PV) (S : σ → List O) (P : γ → σ → D → σ → Prop) : ∀ (its : List γ) (acc : List D) (s : σ), acc.length + its.length ≤ 100000 → (∀ s, ck (S s) = true) →
    (∀ i ∈ its, ∀ s, ∃ en1 d s1, g (I i) en = some en1 ∧ x en1 (S s) = some (.ok (.fr d) (S s1)) ∧ P i s d s1) → ∃ ds s', lcI ck g xYes x en (its.map I) (acc.map .fr) (S s) = some (.ok ((acc ++ ds).map .fr) (S s')) ∧ ds.length = its.length ∧ ∀ d ∈ ds, ∃ i s s1, P i s d s1
  | [], acc, s, _, hck, _ => ⟨[], s, by unfold lcI; simp [hck], rfl, fun d h => by cases h⟩
  | i :: its, acc, s, hl, hck, h => by
    obtain ⟨en1, d, s1, h1, h2, h3⟩ := h i List.mem_cons_self s
    rw [List.length_cons] at hl
    obtain ⟨ds, s', e, hn, hP⟩ := lcI_fold I S P its (acc ++ [d]) s1 (by rw [List.length_append]; simp; omega) hck fun j hj => h j (List.mem_cons_of_mem _ hj)
    refine ⟨d :: ds, s', ?_, by simp [hn], fun d' hd' => ?_⟩
    · rw [List.map_cons]
      unfold lcI
      rw [if_pos (hck s), h1]
      simp only [xYes, h2]
      rw [if_pos (sz_le (by rw [List.length_map]; omega))]
      rw [List.map_append, List.map_cons, List.map_nil] at e
      rw [e]
      simp
    · rcases List.mem_cons.mp hd' with z | z
      · subst z; exact ⟨i, s, s1, h3⟩
      · exact hP d' z
theorem xLc_filter {xi : XI} {g : XG} {t : XT} {x : XE} {vs : List Nat} {en : En} {hp : List O} {γ : Type} (I : γ → PV) (P : γ → Bool) (F : γ → D) (its : List γ) {ck : List O → Bool} (e : xi en hp = some (.ok (its.map I, ck) hp)) (hck : ck hp = true) (hl : its.length ≤ 100000)
    (h : ∀ i ∈ its, ∃ en1, g (I i) (wipeE en vs) = some en1 ∧ t en1 hp = some (.ok (P i) hp) ∧ (P i = true → x en1 hp = some (.ok (.fr (F i)) hp))) : xLc true xi g t x vs en hp = some (.ok (.fr (.lst ((its.filter P).map F))) hp) := by
  unfold xLc
  rw [e, xb_ok]
  simp only
  rw [lcI_map (γ := γ) I P (fun i => .fr (F i)) hck its [] (by simpa using hl) h, xb_ok, List.nil_append, show ((its.filter P).map fun i => PV.fr (F i)) = ((its.filter P).map F).map .fr by simp, mkL_map]
  rfl
theorem xLc_filterO {xi : XI} {g : XG} {t : XT} {x : XE} {vs : List Nat} {en : En} {hp : List O} {γ : Type} (I : γ → PV) (P : γ → Bool) (F : γ → D) (its : List γ) {ck : List O → Bool} (e : xi en hp = some (.ok (its.map I, ck) hp)) (hck : ck hp = true) (hl : its.length ≤ 100000)
    (h : ∀ i ∈ its, ∃ en1, g (I i) (wipeE en vs) = some en1 ∧ t en1 hp = some (.ok (P i) hp) ∧ (P i = true → x en1 hp = some (.ok (.fr (F i)) hp))) : xLc false xi g t x vs en hp = some (.ok (.rf hp.length) (hp ++ [.lst ((its.filter P).map F)])) := by
  unfold xLc
  rw [e, xb_ok]
  simp only
  rw [lcI_map (γ := γ) I P (fun i => .fr (F i)) hck its [] (by simpa using hl) h, xb_ok, List.nil_append, show ((its.filter P).map fun i => PV.fr (F i)) = ((its.filter P).map F).map .fr by simp, mkL_map]
  rfl
theorem xLc_all {xi : XI} {g : XG} {x : XE} {vs : List Nat} {en : En} {hp : List O} {γ : Type} (I : γ → PV) (F : γ → D) (its : List γ) {ck : List O → Bool} (e : xi en hp = some (.ok (its.map I, ck) hp)) (hck : ck hp = true) (hl : its.length ≤ 100000)
    (h : ∀ i ∈ its, ∃ en1, g (I i) (wipeE en vs) = some en1 ∧ x en1 hp = some (.ok (.fr (F i)) hp)) : xLc true xi g xYes x vs en hp = some (.ok (.fr (.lst (its.map F))) hp) := by
  rw [xLc_filter (γ := γ) I (fun _ => true) F its e hck hl fun i hi => ?_]
  · rw [List.filter_eq_self.mpr (by simp)]
  · obtain ⟨en1, h1, h2⟩ := h i hi
    exact ⟨en1, h1, rfl, fun _ => h2⟩
theorem xLc_fold {xi : XI} {g : XG} {x : XE} {vs : List Nat} {en : En} {γ σ : Type} (I : γ → PV) (S : σ → List O) (P : γ → σ → D → σ → Prop) (its : List γ) (s : σ) {ck : List O → Bool} (e : xi en (S s) = some (.ok (its.map I, ck) (S s))) (hck : ∀ s, ck (S s) = true) (hl : its.length ≤ 100000)
    (h : ∀ i ∈ its, ∀ s, ∃ en1 d s1, g (I i) (wipeE en vs) = some en1 ∧ x en1 (S s) = some (.ok (.fr d) (S s1)) ∧ P i s d s1) : ∃ ds s', xLc true xi g xYes x vs en (S s) = some (.ok (.fr (.lst ds)) (S s')) ∧ ds.length = its.length ∧ ∀ d ∈ ds, ∃ i s s1, P i s d s1 := by
  obtain ⟨ds, s', e1, h1, h2⟩ := lcI_fold (γ := γ) I S P its [] s (by simpa using hl) hck h
  refine ⟨ds, s', ?_, h1, h2⟩
  unfold xLc
  rw [e, xb_ok]
  simp only
  rw [List.map_nil, List.nil_append] at e1
  rw [e1, xb_ok, mkL_map]
  rfl
/-! ### calls -/
theorem call_data {f : Fn} {ds : List D} {d : D} {hp : List O} (h : f (ds.map .fr) [] = some (.ret (.fr d) [])) : callF f (ds.map .fr) hp = some (.ok (.fr d) hp) := by
  have h1 : (ds.map PV.fr).flatMap refP = [] := by
    induction ds with
    | nil => rfl
    | cons x xs ih => rw [List.map_cons, List.flatMap_cons]; simp [refP, List.flatMap_map]
  have h2 : ∀ xs : List D, renPs [] (xs.map .fr) = some (xs.map .fr) := fun xs => by
    induction xs with
    | nil => rfl
    | cons x xs ih => rw [List.map_cons]; simp only [renPs, renP, ih]
  have h0 : keepC (ds.map .fr) hp = [] := by unfold keepC; rw [h1]; simp [once]
  unfold callF
  simp only [h0, h2, subH, h]
  simp [bakH, bakP, putBack]
theorem call_exc {f : Fn} {ds : List D} {C : Nat} {ns : List Nat} {es : List D} {hp : List O} (h : f (ds.map .fr) [] = some (.exc C ns es [])) : callF f (ds.map .fr) hp = some (.exc C ns es hp) := by
  have h1 : (ds.map PV.fr).flatMap refP = [] := by
    induction ds with
    | nil => rfl
    | cons x xs ih => rw [List.map_cons, List.flatMap_cons]; simp [refP, List.flatMap_map]
  have h2 : ∀ xs : List D, renPs [] (xs.map .fr) = some (xs.map .fr) := fun xs => by
    induction xs with
    | nil => rfl
    | cons x xs ih => rw [List.map_cons]; simp only [renPs, renP, ih]
  have h0 : keepC (ds.map .fr) hp = [] := by unfold keepC; rw [h1]; simp [once]
  unfold callF
  simp only [h0, h2, subH, h]
  simp [bakH, bakP, putBack]
theorem call1 {f : Fn} {a d : D} {hp : List O} (h : f [.fr a] [] = some (.ret (.fr d) [])) : callF f [.fr a] hp = some (.ok (.fr d) hp) := call_data (ds := [a]) h
theorem call2 {f : Fn} {a b d : D} {hp : List O} (h : f [.fr a, .fr b] [] = some (.ret (.fr d) [])) : callF f [.fr a, .fr b] hp = some (.ok (.fr d) hp) := call_data (ds := [a, b]) h
theorem call3 {f : Fn} {a b c d : D} {hp : List O} (h : f [.fr a, .fr b, .fr c] [] = some (.ret (.fr d) [])) : callF f [.fr a, .fr b, .fr c] hp = some (.ok (.fr d) hp) := call_data (ds := [a, b, c]) h
theorem call4 {f : Fn} {a b c e d : D} {hp : List O} (h : f [.fr a, .fr b, .fr c, .fr e] [] = some (.ret (.fr d) [])) : callF f [.fr a, .fr b, .fr c, .fr e] hp = some (.ok (.fr d) hp) := call_data (ds := [a, b, c, e]) h
theorem outR0 (d : D) (hp : List O) : outR 0 (.fr d) hp = some (.ret (.fr d) []) := by
  unfold outR gc gcK
  simp [renP, subH]
/-! ### the bag of draws -/
abbrev Bag := List Int × Int × Int
def bagH (b : Bag) : List O := [.mix [.rf 1, .fr (.int b.2.1), .fr (.int b.2.2)], .lst (b.1.map .int)]
theorem outR_bag (d : D) (b : Bag) (t : List O) : outR 2 (.fr d) (bagH b ++ t) = some (.ret (.fr d) (bagH b)) := by
  unfold outR gc gcK bagH
  simp [renP, subH, List.range, List.range.loop, renO, renPs, List.idxOf, List.findIdx, List.findIdx.go]
theorem call_bag {f : Fn} {ds : List D} {d : D} {b b' : Bag} {t : List O} (h : f (.rf 0 :: ds.map .fr) (bagH b) = some (.ret (.fr d) (bagH b'))) : callF f (.rf 0 :: ds.map .fr) (bagH b ++ t) = some (.ok (.fr d) (bagH b' ++ t)) := by
  have h1 : (ds.map PV.fr).flatMap refP = [] := by
    induction ds with
    | nil => rfl
    | cons x xs ih => rw [List.map_cons, List.flatMap_cons]; simp [refP, List.flatMap_map]
  have h2 : ∀ k, ∀ xs : List D, renPs k (xs.map .fr) = some (xs.map .fr) := fun k xs => by
    induction xs with
    | nil => rfl
    | cons x xs ih => rw [List.map_cons]; simp only [renPs, renP, ih]
  have h0 : keepC (.rf 0 :: ds.map .fr) (bagH b ++ t) = [0, 1] := by unfold keepC; rw [List.flatMap_cons, h1]; simp [once, refP, refAt, bagH, refO]
  unfold callF
  simp only [h0]
  have e1 : renPs [0, 1] (.rf 0 :: ds.map .fr) = some (.rf 0 :: ds.map .fr) := by
    unfold renPs
    simp [renP, h2]
  have e2 : subH [0, 1] (bagH b ++ t) [0, 1] = some (bagH b) := by
    unfold bagH
    simp [subH, renO, renPs, renP, List.idxOf, List.findIdx, List.findIdx.go]
  have e3 : bakH [0, 1] (bagH b ++ t) (bagH b') = bagH b' ++ t := by
    unfold bagH bakH
    simp [putBack, bakO, bakP, bakI]
  rw [e1, e2]
  simp only [h]
  rw [e3]
  simp [bakP, bagH]
theorem call_bag' {f : Fn} {ds : List D} {d : D} {b b' : Bag} (h : f (.rf 0 :: ds.map .fr) (bagH b) = some (.ret (.fr d) (bagH b'))) : callF f (.rf 0 :: ds.map .fr) (bagH b) = some (.ok (.fr d) (bagH b')) := by
  have := call_bag (t := []) h
  simpa using this
end ML


namespace K
open PySem L2 ML

def FLDS : List (Nat × Nat) := [(33, 1), (33, 33)]
def KITS : List (Nat × Nat × Bool) := [(0, 1, false), (1, 1, true), (2, 1, false), (3, 1, false), (4, 1, false), (5, 1, false), (133, 1, false), (0, 2, false), (1, 2, true), (2, 2, true), (3, 2, false), (4, 2, false), (5, 2, false), (133, 2, false), (0, 3, false), (1, 3, false), (2, 3, false), (3, 3, true), (4, 3, false), (5, 3, false), (133, 3, false), (0, 4, false), (1, 4, false), (2, 4, false), (3, 4, false), (4, 4, true), (5, 4, false), (133, 4, false), (0, 5, false), (1, 5, false), (2, 5, false), (3, 5, false), (4, 5, false), (5, 5, true), (133, 5, false), (0, 133, false), (1, 133, false), (2, 133, false), (3, 133, false), (4, 133, false), (5, 133, false), (133, 133, true)]
def KITX : List (Nat × Nat × Bool) := [(103, 8, true), (103, 100, true), (103, 101, false)]
def EXM : List (Nat × Nat × Bool) := [(101, 103, false), (101, 100, true), (102, 103, false), (102, 100, true), (103, 103, true), (103, 100, true)]
def NFL_Split : List Nat := [0, 1, 2, 3, 4, 5, 133]
def tell__law_told : LO → Option D := tellF EXM 3 [(some 1, 103, (zSeq (zAsg 2 (xLst true (xCons (xCB (gIsX 3 KITX) (xCons (xVar 1) (xCons (xC (.cls 0)) xNil))) (xCons (xCB (gIsX 3 KITX) (xCons (xVar 1) (xCons (xC (.ty 8)) xNil))) (xCons (xCB (gIsX 3 KITX) (xCons (xVar 1) (xCons (xC (.cls 1)) xNil))) xNil)))))
    (zRet (xLst true (xCons (xC (.str "SizeMismatch")) (xCons (xXf 3 3 (xVar 1)) (xCons (xXf 3 4 (xVar 1)) (xCons (xVar 2) xNil)))))))),
  (none, 100, (zRet (xLst true (xCons (xC (.str "another error")) xNil))))]
  (zRet (xLst true (xCons (xC (.str "no error")) xNil)))
def b_least_marks_ (tk : Bool) : XS :=
  (zSeq (zAsg 1 (xDNew tk))
    (zSeq (zAsg 2 (xLst false xNil))
    (zSeq (zFor (xiEnA (xCons (xVar 0) xNil)) (xgTup 2 (xgCons (xgName 3) (xgCons (xgName 4) xgNil))) (zSeq (zIf (xTest (xDIn true (xVar 4) (xVar 1))) (zDPut (xVar 1) (xVar 4) (xVar 3)) zNop)
    (zDrop (xBM gAppend (xVar 2) (xCons (xDGet (xVar 1) (xVar 4)) xNil)))))
    (zRet (xFz (xVar 2))))))
def b_least_marks : XS := zAlt (b_least_marks_ true) (b_least_marks_ false)
def f_least_marks : Fn := fnOf 5 b_least_marks

def b_check_size : XS :=
  (zIf (xOr (xTest (xOp gLt (xVar 0) (xC (.int 1)))) (xTest (xOp gGt (xVar 0) (xCon 33 (.int 12) (xC (.cls 33)))))) (zRaise 1 [1] (xCons (xVar 0) xNil)) zNop)
def f_check_size : Fn := fnOf 1 b_check_size

def b_Split___init__ : XS :=
  (zSeq (zDrop (xCall f_check_size (xCons (xCB gLen (xCons (xVar 1) xNil)) xNil)))
    (zSeq (zFld FLDS 1 (xVar 0) (xCB gLen (xCons (xVar 1) xNil)))
    (zFld FLDS 33 (xVar 0) (xCB gTupF (xCons (xCall0 f_least_marks (xCons (xVar 1) xNil)) xNil)))))
def f_Split___init__ : Fn := fnOf 2 b_Split___init__

def b_check_sizes : XS :=
  (zIf (xTest (xOp (gEqD true) (xFld FLDS 1 (xVar 0)) (xFld FLDS 1 (xVar 1)))) (zRaise 3 [3, 4] (xCons (xFld FLDS 1 (xVar 0)) (xCons (xFld FLDS 1 (xVar 1)) xNil))) zNop)
def f_check_sizes : Fn := fnOf 2 b_check_sizes

def b_check_within : XS :=
  (zIf (xOr (xTest (xOp gLt (xVar 1) (xC (.int 0)))) (xTest (xOp gGe (xVar 1) (xVar 0)))) (zRaise 2 [2] (xCons (xVar 1) xNil)) zNop)
def f_check_within : Fn := fnOf 2 b_check_within

def b_Split_together : XS :=
  (zSeq (zDrop (xCall f_check_within (xCons (xFld FLDS 1 (xVar 0)) (xCons (xVar 1) xNil))))
    (zSeq (zDrop (xCall f_check_within (xCons (xFld FLDS 1 (xVar 0)) (xCons (xVar 2) xNil))))
    (zRet (xOp (gEqD false) (xOp gIx (xFld FLDS 33 (xVar 0)) (xVar 1)) (xOp gIx (xFld FLDS 33 (xVar 0)) (xVar 2))))))
def f_Split_together : Fn := fnOf 3 b_Split_together

def b_Split_finer : XS :=
  (zSeq (zDrop (xCall f_check_sizes (xCons (xVar 0) (xCons (xVar 1) xNil))))
    (zRet (xCB gAll (xCons (xLc true (xiR1 (xCons (xFld FLDS 1 (xVar 0)) xNil)) (xgName 2) xYes (xMeth0 33 23 f_Split_together (xVar 1) (xCons (xVar 2) (xCons (xOp gIx (xFld FLDS 33 (xVar 0)) (xVar 2)) xNil))) [2]) xNil))))
def f_Split_finer : Fn := fnOf 3 b_Split_finer

def b_Split___eq__ : XS :=
  (zRet (xAndV (xCB (gIsi' KITS) (xCons (xVar 1) (xCons (xC (.cls 33)) xNil))) (xOp (gEqD false) (xFld FLDS 33 (xVar 0)) (xFld FLDS 33 (xVar 1)))))
def f_Split___eq__ : Fn := fnOf 2 b_Split___eq__

def b_together_marks : XS :=
  (zRet (xCall0 f_least_marks (xCons (xListZip true (xCons (xVar 0) (xCons (xVar 1) xNil))) xNil)))
def f_together_marks : Fn := fnOf 2 b_together_marks

def b_Split___and__ : XS :=
  (zSeq (zIf (xNot (xTest (xCB (gIsi' KITS) (xCons (xVar 1) (xCons (xC (.cls 33)) xNil))))) zNever zNop)
    (zSeq (zDrop (xCall f_check_sizes (xCons (xVar 0) (xCons (xVar 1) xNil))))
    (zRet (xCall (mkF true 33 f_Split___init__) (xCons (xCall0 f_together_marks (xCons (xFld FLDS 33 (xVar 0)) (xCons (xFld FLDS 33 (xVar 1)) xNil))) xNil)))))
def f_Split___and__ : Fn := fnOf 2 b_Split___and__

def b_joined_marks : XS :=
  (zSeq (zAsg 2 (xCB (gList true) (xCons (xVar 0) xNil)))
    (zSeq (zFor (xiEnA (xCons (xVar 1) xNil)) (xgTup 2 (xgCons (xgName 3) (xgCons (xgName 4) xgNil))) (zSeq (zAsg 5 (xOp gIx (xVar 2) (xVar 3)))
    (zSeq (zAsg 6 (xOp gIx (xVar 2) (xVar 4)))
    (zIf (xTest (xOp (gEqD true) (xVar 5) (xVar 6))) (zAsg 2 (xLc true (xiSeq (xVar 2)) (xgName 7) xYes (xIf (xTest (xOp (gEqD false) (xVar 7) (xVar 5))) (xVar 6) (xVar 7)) [7])) zNop))))
    (zRet (xVar 2))))
def f_joined_marks : Fn := fnOf 8 b_joined_marks

def b_Split___or__ : XS :=
  (zSeq (zIf (xNot (xTest (xCB (gIsi' KITS) (xCons (xVar 1) (xCons (xC (.cls 33)) xNil))))) zNever zNop)
    (zSeq (zDrop (xCall f_check_sizes (xCons (xVar 0) (xCons (xVar 1) xNil))))
    (zRet (xCall (mkF true 33 f_Split___init__) (xCons (xCall0 f_joined_marks (xCons (xFld FLDS 33 (xVar 0)) (xCons (xFld FLDS 33 (xVar 1)) xNil))) xNil)))))
def f_Split___or__ : Fn := fnOf 2 b_Split___or__

def b__law_start : XS :=
  (zSeq (zAsg 1 (xLc true (xiSeq (xSl true (xVar 0) xoNo (xoAt (xC (.int 63))))) (xgName 2) xYes (xIf (xTest (xOp gGe (xVar 2) (xC (.int 0)))) (xCB gInt (xCons (xVar 2) xNil)) (xOp gSub (xUn gNeg (xC (.int 1))) (xCB gInt (xCons (xVar 2) xNil)))) [2]))
    (zSeq (zAsg 3 (xC (.int 120240)))
    (zSeq (zFor (xiSeq (xVar 1)) (xgName 2) (zAsg 3 (xOp gMod (xCB gInt (xCons (xOp (gAdd true) (xOp (gAdd true) (xOp (gMul true) (xVar 3) (xC (.int 48271))) (xOp gMod (xVar 2) (xC (.int 1000003)))) (xC (.int 11))) xNil)) (xC (.int 2147483647)))))
    (zRet (xLst false (xCons (xLc false (xiSeq (xVar 1)) (xgName 2) (xTest (xOp gGe (xVar 2) (xOp gPow (xC (.int 10)) (xC (.int 18))))) (xVar 2) [2]) (xCons (xVar 3) (xCons (xC (.int 0)) xNil))))))))
def f__law_start : Fn := fnOf 4 b__law_start

def b__law_take : XS :=
  (zSeq (zAsg 2 (xOp gIx (xVar 0) (xC (.int 0))))
    (zSeq (zIf (xTest (xOp (gEqD true) (xVar 2) (xLst true xNil))) (zSeq (zAsg 3 (xOp gMod (xCB gInt (xCons (xOp gIx (xVar 2) (xC (.int 0))) xNil)) (xVar 1)))
    (zSeq (zSet (xOp gFdv (xCB gInt (xCons (xOp gIx (xVar 2) (xC (.int 0))) xNil)) (xVar 1)) (xVar 2) (xC (.int 0)))
    (zSeq (zIf (xTest (xOp (gEqD false) (xOp gIx (xVar 2) (xC (.int 0))) (xC (.int 0)))) (zDrop (xBM gPopAt (xVar 2) (xCons (xC (.int 0)) xNil))) zNop)
    (zRet (xVar 3))))) zNop)
    (zSeq (zSet (xOp (gAdd true) (xOp gIx (xVar 0) (xC (.int 2))) (xC (.int 1))) (xVar 0) (xC (.int 2)))
    (zSeq (zSet (xOp gMod (xCB gInt (xCons (xOp (gAdd true) (xOp (gAdd true) (xOp (gMul true) (xOp gIx (xVar 0) (xC (.int 1))) (xC (.int 48271))) (xOp (gMul true) (xOp gIx (xVar 0) (xC (.int 2))) (xC (.int 69621)))) (xC (.int 7))) xNil)) (xC (.int 2147483647))) (xVar 0) (xC (.int 1)))
    (zSeq (zAsg 4 (xOp gMod (xCB gInt (xCons (xOp (gAdd true) (xOp (gAdd true) (xOp (gMul true) (xOp gIx (xVar 0) (xC (.int 1))) (xC (.int 16807))) (xOp gFdv (xOp gIx (xVar 0) (xC (.int 1))) (xC (.int 4099)))) (xOp (gMul true) (xOp gIx (xVar 0) (xC (.int 2))) (xC (.int 40692)))) xNil)) (xC (.int 2147483629))))
    (zRet (xOp gMod (xOp gFdv (xVar 4) (xC (.int 127))) (xVar 1))))))))
def f__law_take : Fn := fnOf 5 b__law_take

def b__law_same (C_f : Fn) : XS :=
  (zSeq (zIf (xTest (xOp gIsN (xVar 1) (xC .non))) (zRet (xOp gIsN (xVar 0) (xC .non))) zNop)
    (zSeq (zIf (xTest (xOp (gIsB false) (xVar 1) (xC (.bl true)))) (zRet (xOp (gIsB false) (xVar 0) (xC (.bl true)))) zNop)
    (zSeq (zIf (xTest (xOp (gIsB false) (xVar 1) (xC (.bl false)))) (zRet (xOp (gIsB false) (xVar 0) (xC (.bl false)))) zNop)
    (zSeq (zIf (xTest (xCB (gIsi' KITS) (xCons (xVar 1) (xCons (xC (.ty 2)) xNil)))) (zRet (xAndV (xCB (gIsi' KITS) (xCons (xVar 0) (xCons (xC (.ty 2)) xNil))) (xAndV (xUn gNotV (xCB (gIsi' KITS) (xCons (xVar 0) (xCons (xC (.ty 1)) xNil)))) (xOp (gEqD false) (xVar 0) (xVar 1))))) zNop)
    (zSeq (zIf (xTest (xCB (gIsi' KITS) (xCons (xVar 1) (xCons (xC (.ty 3)) xNil)))) (zRet (xAndV (xCB (gIsi' KITS) (xCons (xVar 0) (xCons (xC (.ty 3)) xNil))) (xOp (gEqD false) (xVar 0) (xVar 1)))) zNop)
    (zSeq (zIf (xAnd (xTest (xCB (gIsi' KITS) (xCons (xVar 1) (xCons (xC (.ty 4)) xNil)))) (xNot (xTest (xCB (gIsi' KITS) (xCons (xVar 0) (xCons (xC (.ty 4)) xNil)))))) (zRet (xC (.bl false))) zNop)
    (zSeq (zIf (xAnd (xTest (xCB (gIsi' KITS) (xCons (xVar 1) (xCons (xC (.ty 5)) xNil)))) (xNot (xTest (xCB (gIsi' KITS) (xCons (xVar 0) (xCons (xC (.ty 5)) xNil)))))) (zRet (xC (.bl false))) zNop)
    (zSeq (zIf (xTest (xOp (gEqD true) (xCB gLen (xCons (xVar 0) xNil)) (xCB gLen (xCons (xVar 1) xNil)))) (zRet (xC (.bl false))) zNop)
    (zSeq (zFor (xiR1 (xCons (xCB gLen (xCons (xVar 1) xNil)) xNil)) (xgName 2) (zIf (xNot (xTest (xCall0 C_f (xCons (xOp gIx (xVar 0) (xVar 2)) (xCons (xOp gIx (xVar 1) (xVar 2)) xNil))))) (zRet (xC (.bl false))) zNop))
    (zRet (xC (.bl true))))))))))))
def f__law_same : Nat → Fn
  | 0 => fun _ _ => none
  | n + 1 => fnOf 3 (b__law_same (f__law_same n))

def b__law_low : XS :=
  (zRet (xLc true (xiSeq (xVar 0)) (xgName 1) xYes (xBM gIndexA (xVar 0) (xCons (xVar 1) xNil)) [1]))
def f__law_low : Fn := fnOf 2 b__law_low

def b__law_meet : XS :=
  (zSeq (zAsg 2 (xLc true (xiR1 (xCons (xCB gLen (xCons (xVar 0) xNil)) xNil)) (xgName 3) xYes (xTup (xCons (xOp gIx (xVar 0) (xVar 3)) (xCons (xOp gIx (xVar 1) (xVar 3)) xNil))) [3]))
    (zRet (xLc true (xiSeq (xVar 2)) (xgName 4) xYes (xBM gIndexA (xVar 2) (xCons (xVar 4) xNil)) [4])))
def f__law_meet : Fn := fnOf 5 b__law_meet

def b__law_join : XS :=
  (zSeq (zAsg 2 (xListR1 true (xCB gLen (xCons (xVar 0) xNil))))
    (zSeq (zFor (xiR1 (xCons (xCB gLen (xCons (xVar 0) xNil)) xNil)) (xgName 3) (zFor (xiSeq (xLst true (xCons (xVar 0) (xCons (xVar 1) xNil)))) (xgName 4) (zAsg 2 (xLc true (xiSeq (xVar 4)) (xgName 6) xYes (xCB gMin (xCons (xLc true (xiR1 (xCons (xCB gLen (xCons (xVar 0) xNil)) xNil)) (xgName 5) (xTest (xOp (gEqD false) (xOp gIx (xVar 4) (xVar 5)) (xVar 6))) (xOp gIx (xVar 2) (xVar 5)) [5]) xNil)) [6]))))
    (zRet (xVar 2))))
def f__law_join : Fn := fnOf 7 b__law_join

def b__law_marks : XS :=
  (zSeq (zAsg 2 (xOp (gAdd true) (xC (.int 1)) (xCall0 f__law_take (xCons (xVar 0) (xCons (xVar 1) xNil)))))
    (zRet (xLc true (xiR1 (xCons (xVar 1) xNil)) (xgName 3) xYes (xCall0 f__law_take (xCons (xVar 0) (xCons (xVar 2) xNil))) [3])))
def f__law_marks : Fn := fnOf 4 b__law_marks

def b__law_third : XS :=
  (zSeq (zAsg 3 (xCB gLen (xCons (xVar 1) xNil)))
    (zSeq (zAsg 4 (xCall0 f__law_take (xCons (xVar 0) (xCons (xC (.int 4)) xNil))))
    (zSeq (zAsg 5 (xCall0 f__law_take (xCons (xVar 0) (xCons (xVar 3) xNil))))
    (zSeq (zAsg 6 (xCall0 f__law_take (xCons (xVar 0) (xCons (xVar 3) xNil))))
    (zSeq (zIf (xTest (xOp (gEqD false) (xVar 4) (xC (.int 0)))) (zRet (xCall0 f__law_marks (xCons (xVar 0) (xCons (xVar 3) xNil)))) zNop)
    (zSeq (zIf (xTest (xOp (gEqD false) (xVar 4) (xC (.int 1)))) (zRet (xLc true (xiSeq (xCall0 f__law_meet (xCons (xVar 1) (xCons (xVar 2) xNil)))) (xgName 7) xYes (xOp (gAdd true) (xOp (gMul true) (xC (.int 2)) (xVar 7)) (xCall0 f__law_take (xCons (xVar 0) (xCons (xC (.int 2)) xNil)))) [7])) zNop)
    (zSeq (zIf (xTest (xOp (gEqD false) (xVar 4) (xC (.int 2)))) (zSeq (zAsg 8 (xCall0 f__law_join (xCons (xVar 1) (xCons (xVar 2) xNil))))
    (zRet (xLc true (xiSeq (xVar 8)) (xgName 7) xYes (xIf (xTest (xOp (gEqD false) (xVar 7) (xOp gIx (xVar 8) (xVar 6)))) (xOp gIx (xVar 8) (xVar 5)) (xVar 7)) [7]))) zNop)
    (zSeq (zAsg 9 (xCB (gList false) (xCons (xVar 1) xNil)))
    (zSeq (zSet (xVar 6) (xVar 9) (xVar 5))
    (zRet (xFz (xVar 9))))))))))))
def f__law_third : Fn := fnOf 10 b__law_third

def b__law_finer : XS :=
  (zRet (xOp (gEqD false) (xLc true (xiR1 (xCons (xCB gLen (xCons (xVar 0) xNil)) xNil)) (xgName 2) xYes (xOp (gEqD false) (xOp gIx (xVar 1) (xVar 2)) (xOp gIx (xVar 1) (xOp gIx (xVar 0) (xVar 2)))) [2]) (xOp (gMul true) (xLst true (xCons (xC (.bl true)) xNil)) (xCB gLen (xCons (xVar 0) xNil)))))
def f__law_finer : Fn := fnOf 3 b__law_finer

def b__law_refused : XS :=
  (zSeq (zAsg 4 (xLst false xNil))
    (zSeq (zDrop (xBM gAppend (xVar 4) (xCons (xTold tell__law_told (xMeth 33 24 f_Split_finer (xVar 0) (xCons (xVar 1) xNil))) xNil)))
    (zSeq (zDrop (xBM gAppend (xVar 4) (xCons (xTold tell__law_told (xMeth 33 24 f_Split_finer (xVar 1) (xCons (xVar 0) xNil))) xNil)))
    (zSeq (zDrop (xBM gAppend (xVar 4) (xCons (xTold tell__law_told (xOpR (gOBin 33 f_Split___and__) (xVar 0) (xVar 1))) xNil)))
    (zSeq (zDrop (xBM gAppend (xVar 4) (xCons (xTold tell__law_told (xOpR (gOBin 33 f_Split___and__) (xVar 1) (xVar 0))) xNil)))
    (zSeq (zDrop (xBM gAppend (xVar 4) (xCons (xTold tell__law_told (xOpR (gOBin 33 f_Split___or__) (xVar 0) (xVar 1))) xNil)))
    (zSeq (zDrop (xBM gAppend (xVar 4) (xCons (xTold tell__law_told (xOpR (gOBin 33 f_Split___or__) (xVar 1) (xVar 0))) xNil)))
    (zSeq (zAsg 5 (xLst true (xCons (xC (.bl true)) (xCons (xC (.bl true)) (xCons (xC (.bl false)) xNil)))))
    (zSeq (zAsg 6 (xLst true (xCons (xLst true (xCons (xC (.str "SizeMismatch")) (xCons (xVar 2) (xCons (xVar 3) (xCons (xVar 5) xNil))))) (xCons (xLst true (xCons (xC (.str "SizeMismatch")) (xCons (xVar 3) (xCons (xVar 2) (xCons (xVar 5) xNil))))) xNil))))
    (zRet (xCall0 (f__law_same 4) (xCons (xFz (xVar 4)) (xCons (xOp (gAdd true) (xOp (gAdd true) (xVar 6) (xVar 6)) (xVar 6)) xNil)))))))))))))
def f__law_refused : Fn := fnOf 7 b__law_refused

def b_Split_marks : XS :=
  (zRet (xCB (gList true) (xCons (xFld FLDS 33 (xVar 0)) xNil)))
def f_Split_marks : Fn := fnOf 1 b_Split_marks

def b__law_shown : XS :=
  (zSeq (zFor (xiR1 (xCons (xCB gLen (xCons (xVar 1) xNil)) xNil)) (xgName 2) (zSeq (zIf (xOr (xNot (xTest (xCB (gIsi' KITS) (xCons (xOp gIx (xVar 0) (xVar 2)) (xCons (xC (.cls 33)) xNil))))) (xNot (xTest (xCall0 (f__law_same 4) (xCons (xMeth0 33 20 f_Split_marks (xOp gIx (xVar 0) (xVar 2)) xNil) (xCons (xOp gIx (xVar 1) (xVar 2)) xNil)))))) (zRet (xC (.bl false))) zNop)
    (zIf (xNot (xTest (xCall0 (f__law_same 4) (xCons (xFld FLDS 1 (xOp gIx (xVar 0) (xVar 2))) (xCons (xCB gLen (xCons (xOp gIx (xVar 1) (xVar 2)) xNil)) xNil))))) (zRet (xC (.bl false))) zNop)))
    (zRet (xC (.bl true))))
def f__law_shown : Fn := fnOf 3 b__law_shown

def b_law : XS :=
  (zSeq (zAsg 1 (xCall0 f__law_start (xCons (xVar 0) xNil)))
    (zSeq (zAsg 2 (xOp (gAdd true) (xC (.int 1)) (xCall0 f__law_take (xCons (xVar 1) (xCons (xC (.int 12)) xNil)))))
    (zSeq (zIf (xTest (xOp (gEqD false) (xCall0 f__law_take (xCons (xVar 1) (xCons (xC (.int 6)) xNil))) (xC (.int 5)))) (zAsg 2 (xC (.int 12))) zNop)
    (zSeq (zAsg 3 (xCall0 f__law_marks (xCons (xVar 1) (xCons (xVar 2) xNil))))
    (zSeq (zAsg 4 (xCall0 f__law_marks (xCons (xVar 1) (xCons (xVar 2) xNil))))
    (zSeq (zAsg 5 (xCall0 f__law_third (xCons (xVar 1) (xCons (xVar 3) (xCons (xVar 4) xNil)))))
    (zSeq (zAsg 6 (xCall0 (mkF true 33 f_Split___init__) (xCons (xCB (gList true) (xCons (xVar 3) xNil)) xNil)))
    (zSeq (zAsg 7 (xCall0 (mkF true 33 f_Split___init__) (xCons (xCB (gList true) (xCons (xVar 4) xNil)) xNil)))
    (zSeq (zAsg 8 (xCall0 (mkF true 33 f_Split___init__) (xCons (xCB (gList true) (xCons (xVar 5) xNil)) xNil)))
    (zSeq (zAsg 9 (xOp (gAdd true) (xC (.int 1)) (xOp gMod (xOp (gAdd true) (xVar 2) (xCall0 f__law_take (xCons (xVar 1) (xCons (xC (.int 11)) xNil)))) (xC (.int 12)))))
    (zSeq (zAsg 10 (xCall0 (mkF true 33 f_Split___init__) (xCons (xCall0 f__law_marks (xCons (xVar 1) (xCons (xVar 9) xNil))) xNil)))
    (zSeq (zAsg 11 (xLst true (xCons (xCall0 f__law_low (xCons (xVar 3) xNil)) (xCons (xCall0 f__law_low (xCons (xVar 4) xNil)) (xCons (xCall0 f__law_low (xCons (xVar 5) xNil)) xNil)))))
    (zSeq (zAsg 12 (xCall0 f__law_meet (xCons (xVar 3) (xCons (xVar 4) xNil))))
    (zSeq (zAsg 13 (xCall0 f__law_join (xCons (xVar 3) (xCons (xVar 4) xNil))))
    (zSeq (zAsg 14 (xOp (gAdd true) (xVar 11) (xLst true (xCons (xVar 12) (xCons (xVar 13) (xCons (xOp (gMul true) (xLst true (xCons (xC (.int 0)) xNil)) (xVar 2)) (xCons (xListR1 true (xVar 2)) (xCons (xVar 12) (xCons (xVar 13) xNil)))))))))
    (zSeq (zAsg 15 (xLst true (xCons (xVar 6) (xCons (xVar 7) (xCons (xVar 8) (xCons (xOpR (gOBin0 33 f_Split___and__) (xVar 6) (xVar 7)) (xCons (xOpR (gOBin0 33 f_Split___or__) (xVar 6) (xVar 7)) (xCons (xCall0 (mkF true 33 f_Split___init__) (xCons (xOp (gMul true) (xLst true (xCons (xC (.int 0)) xNil)) (xVar 2)) xNil)) (xCons (xCall0 (mkF true 33 f_Split___init__) (xCons (xListR1 true (xVar 2)) xNil)) xNil)))))))))
    (zSeq (zAsg 15 (xOp (gAdd true) (xVar 15) (xLst true (xCons (xOpR (gOBin0 33 f_Split___and__) (xVar 7) (xVar 6)) (xCons (xOpR (gOBin0 33 f_Split___or__) (xVar 7) (xVar 6)) xNil)))))
    (zSeq (zIf (xNot (xTest (xCall0 f__law_shown (xCons (xVar 15) (xCons (xVar 14) xNil))))) (zRet (xC (.bl false))) zNop)
    (zSeq (zFor (xiR1 (xCons (xC (.int 9)) xNil)) (xgName 16) (zSeq (zAsg 17 (xLc true (xiSeq (xVar 15)) (xgName 18) xYes (xMeth0 33 24 f_Split_finer (xOp gIx (xVar 15) (xVar 16)) (xCons (xVar 18) xNil)) [18]))
    (zIf (xNot (xTest (xCall0 (f__law_same 4) (xCons (xVar 17) (xCons (xLc true (xiSeq (xVar 14)) (xgName 19) xYes (xCall0 f__law_finer (xCons (xOp gIx (xVar 14) (xVar 16)) (xCons (xVar 19) xNil))) [19]) xNil))))) (zRet (xC (.bl false))) zNop)))
    (zSeq (zAsg 20 (xLst true (xCons (xOpR (gOBin0 33 f_Split___or__) (xOpR (gOBin0 33 f_Split___and__) (xVar 6) (xVar 7)) (xVar 8)) (xCons (xOpR (gOBin0 33 f_Split___and__) (xOpR (gOBin0 33 f_Split___or__) (xVar 6) (xVar 7)) (xVar 8)) (xCons (xOpR (gOBin0 33 f_Split___and__) (xVar 8) (xOpR (gOBin0 33 f_Split___and__) (xVar 6) (xVar 7))) (xCons (xOpR (gOBin0 33 f_Split___or__) (xVar 8) (xOpR (gOBin0 33 f_Split___or__) (xVar 7) (xVar 6))) xNil))))))
    (zSeq (zAsg 20 (xOp (gAdd true) (xVar 20) (xLst true (xCons (xOpR (gOBin0 33 f_Split___and__) (xVar 6) (xVar 6)) (xCons (xOpR (gOBin0 33 f_Split___or__) (xVar 7) (xVar 7)) xNil)))))
    (zSeq (zAsg 21 (xLst true (xCons (xCall0 f__law_join (xCons (xVar 12) (xCons (xOp gIx (xVar 11) (xC (.int 2))) xNil))) (xCons (xCall0 f__law_meet (xCons (xVar 13) (xCons (xOp gIx (xVar 11) (xC (.int 2))) xNil))) (xCons (xCall0 f__law_meet (xCons (xOp gIx (xVar 11) (xC (.int 2))) (xCons (xVar 12) xNil))) (xCons (xCall0 f__law_join (xCons (xOp gIx (xVar 11) (xC (.int 2))) (xCons (xVar 13) xNil))) xNil))))))
    (zSeq (zIf (xNot (xTest (xCall0 f__law_shown (xCons (xVar 20) (xCons (xOp (gAdd true) (xVar 21) (xLst true (xCons (xOp gIx (xVar 11) (xC (.int 0))) (xCons (xOp gIx (xVar 11) (xC (.int 1))) xNil)))) xNil))))) (zRet (xC (.bl false))) zNop)
    (zSeq (zAsg 22 (xLst true (xCons (xOpR (gOEq 33 NFL_Split f_Split___eq__ false) (xOp gIx (xVar 15) (xC (.int 3))) (xOp gIx (xVar 15) (xC (.int 7)))) (xCons (xOpR (gOEq 33 NFL_Split f_Split___eq__ false) (xOp gIx (xVar 15) (xC (.int 4))) (xOp gIx (xVar 15) (xC (.int 8)))) (xCons (xOpR (gOEq 33 NFL_Split f_Split___eq__ false) (xOp gIx (xVar 15) (xC (.int 3))) (xOp gIx (xVar 15) (xC (.int 4)))) xNil)))))
    (zSeq (zIf (xNot (xTest (xCall0 (f__law_same 4) (xCons (xVar 22) (xCons (xLst true (xCons (xC (.bl true)) (xCons (xC (.bl true)) (xCons (xOp (gEqD false) (xVar 12) (xVar 13)) xNil)))) xNil))))) (zRet (xC (.bl false))) zNop)
    (zRet (xAndV (xCall0 f__law_refused (xCons (xVar 6) (xCons (xVar 10) (xCons (xVar 2) (xCons (xVar 9) xNil))))) (xCall0 f__law_shown (xCons (xVar 15) (xCons (xVar 14) xNil))))))))))))))))))))))))))))))
def f_law : Fn := fnOf 23 b_law

end K


namespace K
open PySem L2 PySem.Spec PyProof.Rows ML

def top (i : Nat) : Stmt := PySem.Challenge.pw_thinwall_k01_meet_join_and_finer.main.body.getD i (.Pass ⟨0, 0, 0, 0⟩)
def NAMES : List (Nat × Str) := [(1, "size"), (2, "case"), (3, "first"), (4, "second"), (20, "marks"), (23, "together"), (24, "finer"), (33, "_marks")]
theorem nm_inj : ∀ i j, nmOf NAMES i = nmOf NAMES j → i = j := nmOf_inj (by decide +kernel) (by decide +kernel)
structure Txt (G : Ct) (mg : Str → Option Value) : Prop where
  b_ValueError : mg "ValueError" = none
  b_all : mg "all" = none
  b_bool : mg "bool" = none
  b_enumerate : mg "enumerate" = none
  b_int : mg "int" = none
  b_isinstance : mg "isinstance" = none
  b_len : mg "len" = none
  b_list : mg "list" = none
  b_min : mg "min" = none
  b_range : mg "range" = none
  b_str : mg "str" = none
  b_tuple : mg "tuple" = none
  b_zip : mg "zip" = none
  g_ThinwallError : mg "ThinwallError" = some (.ref (G.b.cl 0))
  g_BadSize : mg "BadSize" = some (.ref (G.b.cl 1))
  g_UnknownCase : mg "UnknownCase" = some (.ref (G.b.cl 2))
  g_SizeMismatch : mg "SizeMismatch" = some (.ref (G.b.cl 3))
  g_Split : mg "Split" = some (.ref (G.b.cl 33))
  n_size : G.b.nm 1 = "size"
  n_case : G.b.nm 2 = "case"
  n_first : G.b.nm 3 = "first"
  n_second : G.b.nm 4 = "second"
  n_marks : G.b.nm 20 = "marks"
  n_together : G.b.nm 23 = "together"
  n_finer : G.b.nm 24 = "finer"
  n__marks : G.b.nm 33 = "_marks"
  flds : FldOk G.b FLDS
  kit : KitOk G.b KITS
  kitx : KitX G.b KITX
  exm : ExmOk G.b EXM
  con_Split_MOST : ∃ mc v u, ClX.CRead G.b.K (G.b.cl 33) mc ∧ ClX.CVal G.b.K (G.b.cl 33) mc "MOST" v u ∧ ∀ W, Is G.b W (.int 12) v
  ins_Split : InsTy G.b.K (G.b.cl 33)
  nf_Split : NfOk G.b 33 NFL_Split
  xis_SizeMismatch : DL.XIs G.b.K (G.b.cl 3)
  xf_SizeMismatch : XfC G.b.K (G.b.cl 3)
  nof_SizeMismatch_first : PySem.W.findIn G.b.K (.ref (G.b.cl 3)) "first" = some none
  nof_SizeMismatch_second : PySem.W.findIn G.b.K (.ref (G.b.cl 3)) "second" = some none
section
variable {P : Program} {w : World} {G : Ct} {mg : Str → Option Value} {base : Heap}
abbrev st__law_told : Stmt := top 26
theorem sc__law_told : FnScope ["action", "e", "kinds"] ["action"] (defScope st__law_told) := ⟨rfl, rfl, rfl, by decide +kernel, rfl, by decide +kernel, by decide +kernel⟩
theorem told_k {X : Cx} {g : Addr} {cdg : Value} {q : Str} (T : Txt G mg) (hK : X.K = G.b.K) (hM : X.mg = mg) : LamX.GivesTo X ["action", "e", "kinds"] "_law_told" (defScope st__law_told) g cdg (defBody st__law_told) "action" q (TTd G tell__law_told) := by
  obtain ⟨⟨K0, cl0, nm0, inj0⟩, T0, xc0, xa0, xd0⟩ := G
  have hK : X.K = K0 := hK
  subst hK hM
  intro f c' s H Q tl act hc h
  refine ⟨_, pss_cons (DL.ps_tryC (X := (cxOf C8.CX0 X.prog X.w X.K X.mg X.base ["action", "e", "kinds"] "_law_told" (defScope st__law_told) g cdg X.A X.stack s H C8.E0).nox)
    (tb := fun W D σ H => ∃ Ech : XK, (∀ cls d σ' H', Ech cls d H' → (σ'.length = 3 → W cls d σ' H')) ∧ σ[0]? = some (some (.ref f)) ∧ H c' = some (LamX.CodeO c' q) ∧ tl Ech H fun _ H' => D.nx σ H')
    rfl rfl sc__law_told.nd LamX.takes0 (fun W pn xe tk _ => ⟨fun pins s' σ H' D I h' => ?_⟩)
    (DL.ClOk.named (i := 1) rfl rfl ⟨rfl, by decide, .inl T.g_SizeMismatch⟩ (fun _ _ _ _ _ hz hf => (pss_cons (ps_set (i := 2) sc__law_told.nd rfl (by first | exact Or.inl rfl | exact Or.inr rfl) (pe_lst (pa_cons (pe_callB (DL.call_isX T.xis_SizeMismatch hz hf) (by rfl) T.b_isinstance (by decide +kernel) (pa_cons (pv 1) (pa_cons (pe_glob (v := .ref (cl0 0)) rfl T.g_ThinwallError rfl) pa_nil))) (pa_cons (pe_callB (DL.call_isX T.xis_SizeMismatch hz hf) (by rfl) T.b_isinstance (by decide +kernel) (pa_cons (pv 1) (pa_cons (pe_bltn (v := .ty "ValueError") rfl T.b_ValueError (by decide +kernel) rfl) pa_nil))) (pa_cons (pe_callB (DL.call_isX T.xis_SizeMismatch hz hf) (by rfl) T.b_isinstance (by decide +kernel) (pa_cons (pv 1) (pa_cons (pe_glob (v := .ref (cl0 1)) rfl T.g_BadSize rfl) pa_nil))) pa_nil))))) (pss_one (ps_ret (pe_lst (pa_cons pe_str (pa_cons (pe_xf T.xf_SizeMismatch T.nof_SizeMismatch_first hz hf (pv 1)) (pa_cons (pe_xf T.xf_SizeMismatch T.nof_SizeMismatch_second hz hf (pv 1)) (pa_cons (pv 2) pa_nil))))))))) (DL.ClOk.bare ⟨rfl, by decide, .inl T.g_ThinwallError⟩ (fun _ _ _ _ _ hz hf => (pss_one (ps_ret (pe_lst (pa_cons pe_str pa_nil))))) DL.ClOk.nil))) (pss_one (ps_ret (pe_lst (pa_cons pe_str pa_nil)))), ?_⟩
  · obtain ⟨Ech, hW, h1, h2, h3⟩ := h'
    exact (pss_one (ps_expr (act (fun cls d σ H => σ.length = 3 → W cls d σ H) pn xe Ech _ _ (DL.takes_len tk) hW))).run pins s' σ H' D I ⟨h1, h2, h3⟩
  · refine told_run (G := ⟨⟨X.K, cl0, nm0, inj0⟩, T0, xc0, xa0, xd0⟩) (tell := tell__law_told) h rfl hc (fun d W F H' ht c k => ?_) fun C ns ds d W F H' dd σ' vs ht hl c iv hd k => ?_
    · have hb : SS (⟨⟨X.K, cl0, nm0, inj0⟩, T0, xc0, xa0, xd0⟩ : Ct) E0x _ (zRet (xLst true (xCons (xC (.str "no error")) xNil))) := (ss_ret (se_lst (san_cons se_str san_nil).1))
      exact tell_ret (σ := L2.start ["action", "e", "kinds"] [.ref f]) (De := { nx := fun _ H' => Q .non H', rt := Q }) (n := 3) hb ht (by rfl) c k
    · exact tell_clauses (G := ⟨⟨X.K, cl0, nm0, inj0⟩, T0, xc0, xa0, xd0⟩) T.exm hl c iv hd k ((CluOk.cons rfl (fun _ _ _ => (ss_seq (ss_asg (se_lst (san_cons (se_cb (g_isX (C := 3) T.kitx) (san_cons (se_var (i := 1)) (san_cons (se_cls (C := 0)) san_nil)).1) (san_cons (se_cb (g_isX (C := 3) T.kitx) (san_cons (se_var (i := 1)) (san_cons (se_ty (n := 8)) san_nil)).1) (san_cons (se_cb (g_isX (C := 3) T.kitx) (san_cons (se_var (i := 1)) (san_cons (se_cls (C := 1)) san_nil)).1) san_nil))).1)) (ss_ret (se_lst (san_cons se_str (san_cons (se_xf (C := 3) T.n_first (se_var (i := 1))) (san_cons (se_xf (C := 3) T.n_second (se_var (i := 1))) (san_cons (se_var (i := 2)) san_nil)))).1)))) (CluOk.cons rfl (fun _ _ _ => (ss_ret (se_lst (san_cons se_str san_nil).1))) CluOk.nil))) ht

abbrev st_least_marks : Stmt := top 9
theorem sc_least_marks : FnScope ["marks", "firsts", "found", "index", "mark"] ["marks"] (defScope st_least_marks) := ⟨rfl, rfl, rfl, by decide +kernel, rfl, by decide +kernel, by decide +kernel⟩

theorem ok_least_marks {f fd} (F : Fun G.b.K "least_marks" "least_marks" st_least_marks f fd) (T : Txt G mg)
     :
    FnOk P w G.b.K mg base CX0 1 f fd ["marks"] (spOf G f_least_marks 1) :=
  ok_of (b := b_least_marks) (N := ["marks", "firsts", "found", "index", "mark"]) F sc_least_marks fun cdv A outer s H E hr => ⟨_, (pss_cons (ps_set (i := 1) sc_least_marks.nd rfl (by first | exact Or.inl rfl | exact Or.inr rfl) pe_dnewA) (pss_cons (ps_set (i := 2) sc_least_marks.nd rfl (by first | exact Or.inl rfl | exact Or.inr rfl) (pe_lst pa_nil)) (pss_cons (ps_for PassesOwn.never rfl (DL.pi_enumA G.b.K rfl (by rfl) T.b_enumerate (pa_cons (pv 0) pa_nil)) (DL.pg_tupK G.b.K rfl rfl (pgs_cons (pg_name (i := 3) sc_least_marks.nd rfl (by first | exact Or.inl rfl | exact Or.inr rfl)) (pgs_cons (pg_name (i := 4) sc_least_marks.nd rfl (by first | exact Or.inl rfl | exact Or.inr rfl)) pgs_nil))) (pss_cons (ps_if (pt_cmp (pc_dnotin (hu_of hr) (pv 4) (pv 1))) (pss_one (ps_dput (hu_of hr) (pv 1) (pv 4) (pv 3) rfl)) pss_nil) (pss_one (ps_expr (DL.pe_bmK G.b.K rfl PySem.F.plainAttrs_list PySem.F.slot_list_append PySem.F.type_list_append mt_append (pv 2) (pa_cons (pe_dget (hu_of hr) (pv 1) (pv 4) (fun _ _ => rfl)) pa_nil)))))) (pss_one (ps_ret (pv 2)))))), (ss_alt (ss_seq (ss_asg (se_dnew (tk := true))) (ss_seq (ss_asg (se_lst san_nil.1)) (ss_seq (ss_for (si_enA (san_cons (se_var (i := 0)) san_nil).1) (sg_tup (sgs_cons (sg_name (i := 3)) (sgs_cons (sg_name (i := 4)) sgs_nil))) (ss_seq (ss_if (st_B (se_dnotin (se_var (i := 4)) (se_var (i := 1)))) (ss_dput (se_var (i := 1)) (se_var (i := 4)) (se_var (i := 3))) ss_nop) (ss_drop (se_bm g_append (se_var (i := 2)) (san_cons (se_dget (se_var (i := 1)) (se_var (i := 4))) san_nil).1)))) (ss_ret (se_fz (se_var (i := 2))))))) (ss_seq (ss_asg (se_dnew (tk := false))) (ss_seq (ss_asg (se_lst san_nil.1)) (ss_seq (ss_for (si_enA (san_cons (se_var (i := 0)) san_nil).1) (sg_tup (sgs_cons (sg_name (i := 3)) (sgs_cons (sg_name (i := 4)) sgs_nil))) (ss_seq (ss_if (st_B (se_dnotin (se_var (i := 4)) (se_var (i := 1)))) (ss_dput (se_var (i := 1)) (se_var (i := 4)) (se_var (i := 3))) ss_nop) (ss_drop (se_bm g_append (se_var (i := 2)) (san_cons (se_dget (se_var (i := 1)) (se_var (i := 4))) san_nil).1)))) (ss_ret (se_fz (se_var (i := 2))))))))⟩

abbrev st_check_size : Stmt := top 12
theorem sc_check_size : FnScope ["size"] ["size"] (defScope st_check_size) := ⟨rfl, rfl, rfl, by decide +kernel, rfl, by decide +kernel, by decide +kernel⟩

theorem ok_check_size {f fd} (F : Fun G.b.K "check_size" "check_size" st_check_size f fd) (T : Txt G mg)
    (X_BadSize : DL.XCal P w G.b.K mg base "BadSize" (G.b.cl 1) ["size"]) :
    FnOk P w G.b.K mg base (L2.CX P w) 3 f fd ["size"] (spOf G f_check_size 1) :=
  okX_of (b := b_check_size) (N := ["size"]) F sc_check_size fun cdv A outer s H E hr tk => ⟨_, (pss_one (ps_if (PW.pt (pw_or (pt_cmpR op_lt (pv 0) pe_int (nomark _)) (pw_or1 (pt_cmpR op_gt (pv 0) (pe_cvalK G.b.K rfl (pe_glob (v := .ref (G.b.cl 33)) rfl T.g_Split rfl)) (nomark _))))) (pss_one (ps_raise rfl tk (DL.pmk_x X_BadSize hr (by decide) (pa_cons (pv 0) pa_nil)))) pss_nil)), (ss_if (st_or (st_test (se_op g_lt (se_var (i := 0)) se_int)) (st_test (se_op g_gt (se_var (i := 0)) (se_con T.con_Split_MOST (se_cls (C := 33)))))) (ss_raise (C := 1) (fs := [1]) (by simp [T.n_size]) (san_cons (se_var (i := 0)) san_nil).1) ss_nop)⟩

abbrev st_Split___init__ : Stmt := inClass (top 15) 1
theorem sc_Split___init__ : FnScope ["self", "marks"] ["self", "marks"] (defScope st_Split___init__) := ⟨rfl, rfl, rfl, by decide +kernel, rfl, by decide +kernel, by decide +kernel⟩

theorem ok_Split___init__ {f fd} (F : Fun G.b.K "__init__" "Split.__init__" st_Split___init__ f fd) (T : Txt G mg)
    (C_least_marks : DL.Cal P w G.b.K mg base CX0 1 "least_marks" ["marks"] (spOf G f_least_marks 1))
    (C_check_size : DL.Cal P w G.b.K mg base (L2.CX P w) 3 "check_size" ["size"] (spOf G f_check_size 1)) :
    FnOk P w G.b.K mg base (L2.CX P w) 4 f fd ["self", "marks"] (spOf G f_Split___init__ 2) :=
  okX_of (b := b_Split___init__) (N := ["self", "marks"]) F sc_Split___init__ fun cdv A outer s H E hr tk => ⟨_, (pss_cons (ps_expr (DL.pe_cal C_check_size hr (by first | decide | exact Nat.le_refl _ | omega) (passes_call tk fun _ _ _ _ h => h) (pa_cons (pe_callB (call_lenB G.b.K rfl) (by rfl) T.b_len PySem.boot_len (pa_cons (pv 1) pa_nil)) pa_nil))) (pss_cons (DL.ps_fldK G.b.K rfl (pv 0) (pe_callB (call_lenB G.b.K rfl) (by rfl) T.b_len PySem.boot_len (pa_cons (pv 1) pa_nil)) rfl) (pss_one (DL.ps_fldK G.b.K rfl (pv 0) (pe_callTy (call_tupB G.b.K rfl) (by rfl) T.b_tuple (by decide +kernel) (pa_cons (DL.pe_cal C_least_marks hr (by first | decide | exact Nat.le_refl _ | omega) L2.pass0 (pa_cons (pv 1) pa_nil)) pa_nil)) rfl)))), (ss_seq (ss_drop (se_call (san_cons (se_cb g_len (san_cons (se_var (i := 1)) san_nil).1) san_nil) hE)) (ss_seq (ss_fld T.flds T.n_size (se_var (i := 0)) (se_cb g_len (san_cons (se_var (i := 1)) san_nil).1)) (ss_fld T.flds T.n__marks (se_var (i := 0)) (se_cb g_tupF (san_cons (se_call0 (san_cons (se_var (i := 1)) san_nil)) san_nil).1))))⟩

abbrev st_check_sizes : Stmt := top 14
theorem sc_check_sizes : FnScope ["one", "other"] ["one", "other"] (defScope st_check_sizes) := ⟨rfl, rfl, rfl, by decide +kernel, rfl, by decide +kernel, by decide +kernel⟩

theorem ok_check_sizes {f fd} (F : Fun G.b.K "check_sizes" "check_sizes" st_check_sizes f fd) (T : Txt G mg)
    (X_SizeMismatch : DL.XCal P w G.b.K mg base "SizeMismatch" (G.b.cl 3) ["first", "second"]) :
    FnOk P w G.b.K mg base (L2.CX P w) 3 f fd ["one", "other"] (spOf G f_check_sizes 2) :=
  okX_of (b := b_check_sizes) (N := ["one", "other"]) F sc_check_sizes fun cdv A outer s H E hr tk => ⟨_, (pss_one (ps_if (pt_cmpR (op_neDK G.b.K rfl hr.units) (DL.pe_fldK G.b.K rfl (pv 0) rfl) (DL.pe_fldK G.b.K rfl (pv 1) rfl) (nomark _)) (pss_one (ps_raise rfl tk (DL.pmk_x X_SizeMismatch hr (by decide) (pa_cons (DL.pe_fldK G.b.K rfl (pv 0) rfl) (pa_cons (DL.pe_fldK G.b.K rfl (pv 1) rfl) pa_nil))))) pss_nil)), (ss_if (st_test (se_op g_neD (se_fld T.flds T.n_size (se_var (i := 0))) (se_fld T.flds T.n_size (se_var (i := 1))))) (ss_raise (C := 3) (fs := [3, 4]) (by simp [T.n_first, T.n_second]) (san_cons (se_fld T.flds T.n_size (se_var (i := 0))) (san_cons (se_fld T.flds T.n_size (se_var (i := 1))) san_nil)).1) ss_nop)⟩

abbrev st_check_within : Stmt := top 13
theorem sc_check_within : FnScope ["size", "case"] ["size", "case"] (defScope st_check_within) := ⟨rfl, rfl, rfl, by decide +kernel, rfl, by decide +kernel, by decide +kernel⟩

theorem ok_check_within {f fd} (F : Fun G.b.K "check_within" "check_within" st_check_within f fd) (T : Txt G mg)
    (X_UnknownCase : DL.XCal P w G.b.K mg base "UnknownCase" (G.b.cl 2) ["case"]) :
    FnOk P w G.b.K mg base (L2.CX P w) 3 f fd ["size", "case"] (spOf G f_check_within 2) :=
  okX_of (b := b_check_within) (N := ["size", "case"]) F sc_check_within fun cdv A outer s H E hr tk => ⟨_, (pss_one (ps_if (PW.pt (pw_or (pt_cmpR op_lt (pv 1) pe_int (nomark _)) (pw_or1 (pt_cmpR op_ge (pv 1) (pv 0) (nomark _))))) (pss_one (ps_raise rfl tk (DL.pmk_x X_UnknownCase hr (by decide) (pa_cons (pv 1) pa_nil)))) pss_nil)), (ss_if (st_or (st_test (se_op g_lt (se_var (i := 1)) se_int)) (st_test (se_op g_ge (se_var (i := 1)) (se_var (i := 0))))) (ss_raise (C := 2) (fs := [2]) (by simp [T.n_case]) (san_cons (se_var (i := 1)) san_nil).1) ss_nop)⟩

abbrev st_Split_together : Stmt := inClass (top 15) 8
theorem sc_Split_together : FnScope ["self", "first", "second"] ["self", "first", "second"] (defScope st_Split_together) := ⟨rfl, rfl, rfl, by decide +kernel, rfl, by decide +kernel, by decide +kernel⟩

theorem ok_Split_together {f fd} (F : Fun G.b.K "together" "Split.together" st_Split_together f fd) (T : Txt G mg)
    (C_check_within : DL.Cal P w G.b.K mg base (L2.CX P w) 3 "check_within" ["size", "case"] (spOf G f_check_within 2)) :
    FnOk P w G.b.K mg base (L2.CX P w) 4 f fd ["self", "first", "second"] (spOf G f_Split_together 3) :=
  okX_of (b := b_Split_together) (N := ["self", "first", "second"]) F sc_Split_together fun cdv A outer s H E hr tk => ⟨_, (pss_cons (ps_expr (DL.pe_cal C_check_within hr (by first | decide | exact Nat.le_refl _ | omega) (passes_call tk fun _ _ _ _ h => h) (pa_cons (DL.pe_fldK G.b.K rfl (pv 0) rfl) (pa_cons (pv 1) pa_nil)))) (pss_cons (ps_expr (DL.pe_cal C_check_within hr (by first | decide | exact Nat.le_refl _ | omega) (passes_call tk fun _ _ _ _ h => h) (pa_cons (DL.pe_fldK G.b.K rfl (pv 0) rfl) (pa_cons (pv 2) pa_nil)))) (pss_one (ps_ret (pe_cmpR (op_eqDK G.b.K rfl hr.units) (pe_ix (DL.ix_seqK G.b.K rfl) (DL.pe_fldK G.b.K rfl (pv 0) rfl) (pv 1) (fun _ _ => rfl)) (pe_ix (DL.ix_seqK G.b.K rfl) (DL.pe_fldK G.b.K rfl (pv 0) rfl) (pv 2) (fun _ _ => rfl)) (nomark _)))))), (ss_seq (ss_drop (se_call (san_cons (se_fld T.flds T.n_size (se_var (i := 0))) (san_cons (se_var (i := 1)) san_nil)) hE)) (ss_seq (ss_drop (se_call (san_cons (se_fld T.flds T.n_size (se_var (i := 0))) (san_cons (se_var (i := 2)) san_nil)) hE)) (ss_ret (se_op g_eqD (se_op g_ix (se_fld T.flds T.n__marks (se_var (i := 0))) (se_var (i := 1))) (se_op g_ix (se_fld T.flds T.n__marks (se_var (i := 0))) (se_var (i := 2)))))))⟩

abbrev st_Split_finer : Stmt := inClass (top 15) 9
theorem sc_Split_finer : FnScope ["self", "other", "case"] ["self", "other"] (defScope st_Split_finer) := ⟨rfl, rfl, rfl, by decide +kernel, rfl, by decide +kernel, by decide +kernel⟩

theorem ok_Split_finer {f fd} (F : Fun G.b.K "finer" "Split.finer" st_Split_finer f fd) (T : Txt G mg)
    (C_check_sizes : DL.Cal P w G.b.K mg base (L2.CX P w) 3 "check_sizes" ["one", "other"] (spOf G f_check_sizes 2))
    (C_Split_together : DL.CalM P w G.b.K mg base (L2.CX P w) 4 (G.b.cl 33) "together" ["self", "first", "second"] (spOf G f_Split_together 3)) :
    FnOk P w G.b.K mg base (L2.CX P w) 5 f fd ["self", "other"] (spOf G f_Split_finer 2) :=
  okX_of (b := b_Split_finer) (N := ["self", "other", "case"]) F sc_Split_finer fun cdv A outer s H E hr tk => ⟨_, (pss_cons (ps_expr (DL.pe_cal C_check_sizes hr (by first | decide | exact Nat.le_refl _ | omega) (passes_call tk fun _ _ _ _ h => h) (pa_cons (pv 0) (pa_cons (pv 1) pa_nil)))) (pss_one (ps_ret (pe_callB (DL.cr_allK G.b.K rfl rfl) (by rfl) T.b_all (by decide +kernel) (pa_cons (pe_lc (own := [("case", 2)]) rfl sc_Split_finer.nd (pi_range1 (by rfl) T.b_range (pa_cons (DL.pe_fldK G.b.K rfl (pv 0) rfl) pa_nil)) (blkOk_by (by first | decide +kernel | kernel_rfl)) (fun _ _ _ _ _ => (pg_name (i := 2) sc_Split_finer.nd rfl (by first | exact Or.inl rfl | exact Or.inr rfl))) (fun _ _ _ _ _ => pts_nil) (fun _ _ _ _ _ => (DL.pe_calM C_Split_together hr (by first | decide | exact Nat.le_refl _ | omega) L2.passL (pv 1) (pa_cons (pv 2) (pa_cons (pe_ix (DL.ix_seqK G.b.K rfl) (DL.pe_fldK G.b.K rfl (pv 0) rfl) (pv 2) (fun _ _ => rfl)) pa_nil))))) pa_nil))))), (ss_seq (ss_drop (se_call (san_cons (se_var (i := 0)) (san_cons (se_var (i := 1)) san_nil)) hE)) (ss_ret (se_cb g_all (san_cons (se_lc (vs := [2]) (si_r1 (san_cons (se_fld T.flds T.n_size (se_var (i := 0))) san_nil).1) (sg_name (i := 2)) (own_name (by simp)) st_yes (se_meth0 (C := 33) (se_var (i := 1)) (san_cons (se_var (i := 2)) (san_cons (se_op g_ix (se_fld T.flds T.n__marks (se_var (i := 0))) (se_var (i := 2))) san_nil)) T.n_together)) san_nil).1)))⟩

abbrev st_Split___eq__ : Stmt := inClass (top 15) 13
theorem sc_Split___eq__ : FnScope ["self", "other"] ["self", "other"] (defScope st_Split___eq__) := ⟨rfl, rfl, rfl, by decide +kernel, rfl, by decide +kernel, by decide +kernel⟩

theorem ok_Split___eq__ {f fd} (F : Fun G.b.K "__eq__" "Split.__eq__" st_Split___eq__ f fd) (T : Txt G mg)
     :
    FnOk P w G.b.K mg base CX0 1 f fd ["self", "other"] (spOf G f_Split___eq__ 2) :=
  ok_of (b := b_Split___eq__) (N := ["self", "other"]) F sc_Split___eq__ fun cdv A outer s H E hr => ⟨_, (pss_one (ps_ret (pe_and (pe_callB (DL.call_isiK' G.b.K rfl) (by rfl) T.b_isinstance (by decide +kernel) (pa_cons (pv 1) (pa_cons (pe_glob (v := .ref (G.b.cl 33)) rfl T.g_Split rfl) pa_nil))) (pe_one (pe_cmpR (op_eqDK G.b.K rfl hr.units) (DL.pe_fldK G.b.K rfl (pv 0) rfl) (DL.pe_fldK G.b.K rfl (pv 1) rfl) (nomark _)))))), (ss_ret (se_andV (se_cb (g_isi T.kit) (san_cons (se_var (i := 1)) (san_cons (se_cls (C := 33)) san_nil)).1) (se_op g_eqD (se_fld T.flds T.n__marks (se_var (i := 0))) (se_fld T.flds T.n__marks (se_var (i := 1))))))⟩

abbrev st_together_marks : Stmt := top 10
theorem sc_together_marks : FnScope ["first", "second"] ["first", "second"] (defScope st_together_marks) := ⟨rfl, rfl, rfl, by decide +kernel, rfl, by decide +kernel, by decide +kernel⟩

theorem ok_together_marks {f fd} (F : Fun G.b.K "together_marks" "together_marks" st_together_marks f fd) (T : Txt G mg)
    (C_least_marks : DL.Cal P w G.b.K mg base CX0 1 "least_marks" ["marks"] (spOf G f_least_marks 1)) :
    FnOk P w G.b.K mg base CX0 2 f fd ["first", "second"] (spOf G f_together_marks 2) :=
  ok_of (b := b_together_marks) (N := ["first", "second"]) F sc_together_marks fun cdv A outer s H E hr => ⟨_, (pss_one (ps_ret (DL.pe_cal C_least_marks hr (by first | decide | exact Nat.le_refl _ | omega) L2.pass0 (pa_cons (DL.pe_listZip rfl (by rfl) T.b_list (by rfl) T.b_zip (pa_cons (pv 0) (pa_cons (pv 1) pa_nil))) pa_nil)))), (ss_ret (se_call0 (san_cons (se_listZip (san_cons (se_var (i := 0)) (san_cons (se_var (i := 1)) san_nil)).1) san_nil)))⟩

abbrev st_Split___and__ : Stmt := inClass (top 15) 14
theorem sc_Split___and__ : FnScope ["self", "other"] ["self", "other"] (defScope st_Split___and__) := ⟨rfl, rfl, rfl, by decide +kernel, rfl, by decide +kernel, by decide +kernel⟩

theorem ok_Split___and__ {f fd} (F : Fun G.b.K "__and__" "Split.__and__" st_Split___and__ f fd) (T : Txt G mg)
    (C_Split : DL.CalC P w G.b.K mg base (L2.CX P w) 4 "Split" (G.b.cl 33) ["self", "marks"] (spOf G f_Split___init__ 2))
    (C_check_sizes : DL.Cal P w G.b.K mg base (L2.CX P w) 3 "check_sizes" ["one", "other"] (spOf G f_check_sizes 2))
    (C_together_marks : DL.Cal P w G.b.K mg base CX0 2 "together_marks" ["first", "second"] (spOf G f_together_marks 2)) :
    FnOk P w G.b.K mg base (L2.CX P w) 6 f fd ["self", "other"] (spOf G f_Split___and__ 2) :=
  okX_of (b := b_Split___and__) (N := ["self", "other"]) F sc_Split___and__ fun cdv A outer s H E hr tk => ⟨_, (pss_cons (ps_if (pt_not (pt_val (pe_callB (DL.call_isiK' G.b.K rfl) (by rfl) T.b_isinstance (by decide +kernel) (pa_cons (pv 1) (pa_cons (pe_glob (v := .ref (G.b.cl 33)) rfl T.g_Split rfl) pa_nil))))) (pss_one ps_never) pss_nil) (pss_cons (ps_expr (DL.pe_cal C_check_sizes hr (by first | decide | exact Nat.le_refl _ | omega) (passes_call tk fun _ _ _ _ h => h) (pa_cons (pv 0) (pa_cons (pv 1) pa_nil)))) (pss_one (ps_ret (DL.pe_calC C_Split hr (by first | decide | exact Nat.le_refl _ | omega) (passes_call tk fun _ _ _ _ h => h) (pa_cons (DL.pe_cal C_together_marks hr (by first | decide | exact Nat.le_refl _ | omega) L2.pass0 (pa_cons (DL.pe_fldK G.b.K rfl (pv 0) rfl) (pa_cons (DL.pe_fldK G.b.K rfl (pv 1) rfl) pa_nil))) pa_nil)))))), (ss_seq (ss_if (st_not (st_B (se_cb (g_isi T.kit) (san_cons (se_var (i := 1)) (san_cons (se_cls (C := 33)) san_nil)).1))) ss_never ss_nop) (ss_seq (ss_drop (se_call (san_cons (se_var (i := 0)) (san_cons (se_var (i := 1)) san_nil)) hE)) (ss_ret (se_make (C := 33) (san_cons (se_call0 (san_cons (se_fld T.flds T.n__marks (se_var (i := 0))) (san_cons (se_fld T.flds T.n__marks (se_var (i := 1))) san_nil))) san_nil) hE))))⟩

abbrev st_joined_marks : Stmt := top 11
theorem sc_joined_marks : FnScope ["first", "second", "marks", "index", "root", "old", "new", "mark"] ["first", "second"] (defScope st_joined_marks) := ⟨rfl, rfl, rfl, by decide +kernel, rfl, by decide +kernel, by decide +kernel⟩

theorem ok_joined_marks {f fd} (F : Fun G.b.K "joined_marks" "joined_marks" st_joined_marks f fd) (T : Txt G mg)
     :
    FnOk P w G.b.K mg base CX0 1 f fd ["first", "second"] (spOf G f_joined_marks 2) :=
  ok_of (b := b_joined_marks) (N := ["first", "second", "marks", "index", "root", "old", "new", "mark"]) F sc_joined_marks fun cdv A outer s H E hr => ⟨_, (pss_cons (ps_set (i := 2) sc_joined_marks.nd rfl (by first | exact Or.inl rfl | exact Or.inr rfl) (pe_callTy (call_listB G.b.K rfl) (by rfl) T.b_list (by decide +kernel) (pa_cons (pv 0) pa_nil))) (pss_cons (ps_for PassesOwn.never rfl (DL.pi_enumA G.b.K rfl (by rfl) T.b_enumerate (pa_cons (pv 1) pa_nil)) (DL.pg_tupK G.b.K rfl rfl (pgs_cons (pg_name (i := 3) sc_joined_marks.nd rfl (by first | exact Or.inl rfl | exact Or.inr rfl)) (pgs_cons (pg_name (i := 4) sc_joined_marks.nd rfl (by first | exact Or.inl rfl | exact Or.inr rfl)) pgs_nil))) (pss_cons (ps_set (i := 5) sc_joined_marks.nd rfl (by first | exact Or.inl rfl | exact Or.inr rfl) (pe_ix (DL.ix_seqK G.b.K rfl) (pv 2) (pv 3) (fun _ _ => rfl))) (pss_cons (ps_set (i := 6) sc_joined_marks.nd rfl (by first | exact Or.inl rfl | exact Or.inr rfl) (pe_ix (DL.ix_seqK G.b.K rfl) (pv 2) (pv 4) (fun _ _ => rfl))) (pss_one (ps_if (pt_cmpR (op_neDK G.b.K rfl hr.units) (pv 5) (pv 6) (nomark _)) (pss_one (ps_setLc (i := 2) (own := [("mark", 7)]) rfl sc_joined_marks.nd rfl rfl (sw_true rfl rfl rfl (by decide +kernel)) (pi_seq G.b.K rfl (pv 2)) (blkOk_by (by first | decide +kernel | kernel_rfl)) (fun _ _ _ _ _ => (pg_name (i := 7) sc_joined_marks.nd rfl (by first | exact Or.inl rfl | exact Or.inr rfl))) (fun _ _ _ _ _ => pts_nil) (fun _ _ _ _ _ => (pe_ifExp (pt_cmpR (op_eqDK G.b.K rfl hr.units) (pv 7) (pv 5) (nomark _)) (pv 6) (pv 7))))) pss_nil))))) (pss_one (ps_ret (pv 2))))), (ss_seq (ss_asg (se_cb g_list (san_cons (se_var (i := 0)) san_nil).1)) (ss_seq (ss_for (si_enA (san_cons (se_var (i := 1)) san_nil).1) (sg_tup (sgs_cons (sg_name (i := 3)) (sgs_cons (sg_name (i := 4)) sgs_nil))) (ss_seq (ss_asg (se_op g_ix (se_var (i := 2)) (se_var (i := 3)))) (ss_seq (ss_asg (se_op g_ix (se_var (i := 2)) (se_var (i := 4)))) (ss_if (st_test (se_op g_neD (se_var (i := 5)) (se_var (i := 6)))) (ss_asg (se_lc (vs := [7]) (si_seq (se_var (i := 2))) (sg_name (i := 7)) (own_name (by simp)) st_yes (se_if (st_test (se_op g_eqD (se_var (i := 7)) (se_var (i := 5)))) (se_var (i := 6)) (se_var (i := 7))))) ss_nop)))) (ss_ret (se_var (i := 2)))))⟩

abbrev st_Split___or__ : Stmt := inClass (top 15) 15
theorem sc_Split___or__ : FnScope ["self", "other"] ["self", "other"] (defScope st_Split___or__) := ⟨rfl, rfl, rfl, by decide +kernel, rfl, by decide +kernel, by decide +kernel⟩

theorem ok_Split___or__ {f fd} (F : Fun G.b.K "__or__" "Split.__or__" st_Split___or__ f fd) (T : Txt G mg)
    (C_Split : DL.CalC P w G.b.K mg base (L2.CX P w) 4 "Split" (G.b.cl 33) ["self", "marks"] (spOf G f_Split___init__ 2))
    (C_check_sizes : DL.Cal P w G.b.K mg base (L2.CX P w) 3 "check_sizes" ["one", "other"] (spOf G f_check_sizes 2))
    (C_joined_marks : DL.Cal P w G.b.K mg base CX0 1 "joined_marks" ["first", "second"] (spOf G f_joined_marks 2)) :
    FnOk P w G.b.K mg base (L2.CX P w) 6 f fd ["self", "other"] (spOf G f_Split___or__ 2) :=
  okX_of (b := b_Split___or__) (N := ["self", "other"]) F sc_Split___or__ fun cdv A outer s H E hr tk => ⟨_, (pss_cons (ps_if (pt_not (pt_val (pe_callB (DL.call_isiK' G.b.K rfl) (by rfl) T.b_isinstance (by decide +kernel) (pa_cons (pv 1) (pa_cons (pe_glob (v := .ref (G.b.cl 33)) rfl T.g_Split rfl) pa_nil))))) (pss_one ps_never) pss_nil) (pss_cons (ps_expr (DL.pe_cal C_check_sizes hr (by first | decide | exact Nat.le_refl _ | omega) (passes_call tk fun _ _ _ _ h => h) (pa_cons (pv 0) (pa_cons (pv 1) pa_nil)))) (pss_one (ps_ret (DL.pe_calC C_Split hr (by first | decide | exact Nat.le_refl _ | omega) (passes_call tk fun _ _ _ _ h => h) (pa_cons (DL.pe_cal C_joined_marks hr (by first | decide | exact Nat.le_refl _ | omega) L2.pass0 (pa_cons (DL.pe_fldK G.b.K rfl (pv 0) rfl) (pa_cons (DL.pe_fldK G.b.K rfl (pv 1) rfl) pa_nil))) pa_nil)))))), (ss_seq (ss_if (st_not (st_B (se_cb (g_isi T.kit) (san_cons (se_var (i := 1)) (san_cons (se_cls (C := 33)) san_nil)).1))) ss_never ss_nop) (ss_seq (ss_drop (se_call (san_cons (se_var (i := 0)) (san_cons (se_var (i := 1)) san_nil)) hE)) (ss_ret (se_make (C := 33) (san_cons (se_call0 (san_cons (se_fld T.flds T.n__marks (se_var (i := 0))) (san_cons (se_fld T.flds T.n__marks (se_var (i := 1))) san_nil))) san_nil) hE))))⟩

end
end K


namespace K
open PySem L2 PySem.Spec PyProof.Rows ML

section
variable {P : Program} {w : World} {G : Ct} {mg : Str → Option Value} {base : Heap}
abbrev st__law_start : Stmt := top 17
theorem sc__law_start : FnScope ["script", "cells", "cell", "seed"] ["script"] (defScope st__law_start) := ⟨rfl, rfl, rfl, by decide +kernel, rfl, by decide +kernel, by decide +kernel⟩

theorem ok__law_start {f fd} (F : Fun G.b.K "_law_start" "_law_start" st__law_start f fd) (T : Txt G mg)
     :
    FnOk P w G.b.K mg base CX0 1 f fd ["script"] (spOf G f__law_start 1) :=
  ok_of (b := b__law_start) (N := ["script", "cells", "cell", "seed"]) F sc__law_start fun cdv A outer s H E hr => ⟨_, (pss_cons (ps_setLc (i := 1) (own := [("cell", 2)]) rfl sc__law_start.nd rfl rfl (sw_true rfl rfl rfl (by decide +kernel)) (pi_seq G.b.K rfl (pe_slice (sl_B G.b.K rfl) (pv 0) po_none (po_some pe_int))) (blkOk_by (by first | decide +kernel | kernel_rfl)) (fun _ _ _ _ _ => (pg_name (i := 2) sc__law_start.nd rfl (by first | exact Or.inl rfl | exact Or.inr rfl))) (fun _ _ _ _ _ => pts_nil) (fun _ _ _ _ _ => (pe_ifExp (pt_cmpR op_ge (pv 2) pe_int (nomark _)) (pe_callTy call_intB (by rfl) T.b_int (by decide +kernel) (pa_cons (pv 2) pa_nil)) (pe_op op_sub (pe_un un_neg pe_int) (pe_callTy call_intB (by rfl) T.b_int (by decide +kernel) (pa_cons (pv 2) pa_nil)))))) (pss_cons (ps_set (i := 3) sc__law_start.nd rfl (by first | exact Or.inl rfl | exact Or.inr rfl) pe_int) (pss_cons (ps_for PassesOwn.never rfl (pi_seq G.b.K rfl (pv 1)) (pg_name (i := 2) sc__law_start.nd rfl (by first | exact Or.inl rfl | exact Or.inr rfl)) (pss_one (ps_set (i := 3) sc__law_start.nd rfl (by first | exact Or.inl rfl | exact Or.inr rfl) (pe_op op_mod (pe_callTy call_intB (by rfl) T.b_int (by decide +kernel) (pa_cons (pe_op (op_addB G.b.K rfl) (pe_op (op_addB G.b.K rfl) (pe_op op_mulB (pv 3) pe_int) (pe_op op_mod (pv 2) pe_int)) pe_int) pa_nil)) pe_int)))) (pss_one (ps_ret (pe_lst (pa_cons (pe_lc (own := [("cell", 2)]) rfl sc__law_start.nd (pi_seq G.b.K rfl (pv 1)) (blkOk_by (by first | decide +kernel | kernel_rfl)) (fun _ _ _ _ _ => (pg_name (i := 2) sc__law_start.nd rfl (by first | exact Or.inl rfl | exact Or.inr rfl))) (fun _ _ _ _ _ => (pts_one (pt_cmpR op_ge (pv 2) (pe_op op_pow pe_int pe_int) (nomark _)))) (fun _ _ _ _ _ => (pv 2))) (pa_cons (pv 3) (pa_cons pe_int pa_nil))))))))), (ss_seq (ss_asg (se_lc (vs := [2]) (si_seq (se_sl (se_var (i := 0)) so_no (so_at se_int))) (sg_name (i := 2)) (own_name (by simp)) st_yes (se_if (st_test (se_op g_ge (se_var (i := 2)) se_int)) (se_cb g_int (san_cons (se_var (i := 2)) san_nil).1) (se_op g_sub (se_un g_neg se_int) (se_cb g_int (san_cons (se_var (i := 2)) san_nil).1))))) (ss_seq (ss_asg se_int) (ss_seq (ss_for (si_seq (se_var (i := 1))) (sg_name (i := 2)) (ss_asg (se_op g_mod (se_cb g_int (san_cons (se_op g_add (se_op g_add (se_op g_mul (se_var (i := 3)) se_int) (se_op g_mod (se_var (i := 2)) se_int)) se_int) san_nil).1) se_int))) (ss_ret (se_lst (san_cons (se_lc (vs := [2]) (si_seq (se_var (i := 1))) (sg_name (i := 2)) (own_name (by simp)) (st_test (se_op g_ge (se_var (i := 2)) (se_op g_pow se_int se_int))) (se_var (i := 2))) (san_cons (se_var (i := 3)) (san_cons se_int san_nil))).1)))))⟩

abbrev st__law_take : Stmt := top 18
theorem sc__law_take : FnScope ["bag", "many", "row", "digit", "mixed"] ["bag", "many"] (defScope st__law_take) := ⟨rfl, rfl, rfl, by decide +kernel, rfl, by decide +kernel, by decide +kernel⟩

theorem ok__law_take {f fd} (F : Fun G.b.K "_law_take" "_law_take" st__law_take f fd) (T : Txt G mg)
     :
    FnOk P w G.b.K mg base CX0 1 f fd ["bag", "many"] (spOf G f__law_take 2) :=
  ok_of (b := b__law_take) (N := ["bag", "many", "row", "digit", "mixed"]) F sc__law_take fun cdv A outer s H E hr => ⟨_, (pss_cons (ps_set (i := 2) sc__law_take.nd rfl (by first | exact Or.inl rfl | exact Or.inr rfl) (pe_ix (DL.ix_seqK G.b.K rfl) (pv 0) pe_int (fun _ _ => rfl))) (pss_cons (ps_if (pt_cmpR (op_neDK G.b.K rfl hr.units) (pv 2) (pe_lst pa_nil) (nomark _)) (pss_cons (ps_set (i := 3) sc__law_take.nd rfl (by first | exact Or.inl rfl | exact Or.inr rfl) (pe_op op_mod (pe_callTy call_intB (by rfl) T.b_int (by decide +kernel) (pa_cons (pe_ix (DL.ix_seqK G.b.K rfl) (pv 2) pe_int (fun _ _ => rfl)) pa_nil)) (pv 1))) (pss_cons (ps_asg (pe_op op_fdivW (pe_callTy call_intB (by rfl) T.b_int (by decide +kernel) (pa_cons (pe_ix (DL.ix_seqK G.b.K rfl) (pv 2) pe_int (fun _ _ => rfl)) pa_nil)) (pv 1)) (pg_sub (pv 2) pe_int set_list)) (pss_cons (ps_if (pt_cmpR (op_eqDK G.b.K rfl hr.units) (pe_ix (DL.ix_seqK G.b.K rfl) (pv 2) pe_int (fun _ _ => rfl)) pe_int (nomark _)) (pss_one (ps_expr (DL.pe_bmK G.b.K rfl PySem.F.plainAttrs_list PySem.F.slot_list_pop PySem.F.type_list_pop mt_popAt (pv 2) (pa_cons pe_int pa_nil)))) pss_nil) (pss_one (ps_ret (pv 3)))))) pss_nil) (pss_cons (ps_asg (pe_op (op_addB G.b.K rfl) (pe_ix (DL.ix_seqK G.b.K rfl) (pv 0) pe_int (fun _ _ => rfl)) pe_int) (pg_sub (pv 0) pe_int set_list)) (pss_cons (ps_asg (pe_op op_mod (pe_callTy call_intB (by rfl) T.b_int (by decide +kernel) (pa_cons (pe_op (op_addB G.b.K rfl) (pe_op (op_addB G.b.K rfl) (pe_op op_mulB (pe_ix (DL.ix_seqK G.b.K rfl) (pv 0) pe_int (fun _ _ => rfl)) pe_int) (pe_op op_mulB (pe_ix (DL.ix_seqK G.b.K rfl) (pv 0) pe_int (fun _ _ => rfl)) pe_int)) pe_int) pa_nil)) pe_int) (pg_sub (pv 0) pe_int set_list)) (pss_cons (ps_set (i := 4) sc__law_take.nd rfl (by first | exact Or.inl rfl | exact Or.inr rfl) (pe_op op_mod (pe_callTy call_intB (by rfl) T.b_int (by decide +kernel) (pa_cons (pe_op (op_addB G.b.K rfl) (pe_op (op_addB G.b.K rfl) (pe_op op_mulB (pe_ix (DL.ix_seqK G.b.K rfl) (pv 0) pe_int (fun _ _ => rfl)) pe_int) (pe_op op_fdivW (pe_ix (DL.ix_seqK G.b.K rfl) (pv 0) pe_int (fun _ _ => rfl)) pe_int)) (pe_op op_mulB (pe_ix (DL.ix_seqK G.b.K rfl) (pv 0) pe_int (fun _ _ => rfl)) pe_int)) pa_nil)) pe_int)) (pss_one (ps_ret (pe_op op_mod (pe_op op_fdivW (pv 4) pe_int) (pv 1))))))))), (ss_seq (ss_asg (se_op g_ix (se_var (i := 0)) se_int)) (ss_seq (ss_if (st_test (se_op g_neD (se_var (i := 2)) (se_lst san_nil.1))) (ss_seq (ss_asg (se_op g_mod (se_cb g_int (san_cons (se_op g_ix (se_var (i := 2)) se_int) san_nil).1) (se_var (i := 1)))) (ss_seq (ss_set (se_op g_fdv (se_cb g_int (san_cons (se_op g_ix (se_var (i := 2)) se_int) san_nil).1) (se_var (i := 1))) (se_var (i := 2)) se_int) (ss_seq (ss_if (st_test (se_op g_eqD (se_op g_ix (se_var (i := 2)) se_int) se_int)) (ss_drop (se_bm g_popAt (se_var (i := 2)) (san_cons se_int san_nil).1)) ss_nop) (ss_ret (se_var (i := 3)))))) ss_nop) (ss_seq (ss_set (se_op g_add (se_op g_ix (se_var (i := 0)) se_int) se_int) (se_var (i := 0)) se_int) (ss_seq (ss_set (se_op g_mod (se_cb g_int (san_cons (se_op g_add (se_op g_add (se_op g_mul (se_op g_ix (se_var (i := 0)) se_int) se_int) (se_op g_mul (se_op g_ix (se_var (i := 0)) se_int) se_int)) se_int) san_nil).1) se_int) (se_var (i := 0)) se_int) (ss_seq (ss_asg (se_op g_mod (se_cb g_int (san_cons (se_op g_add (se_op g_add (se_op g_mul (se_op g_ix (se_var (i := 0)) se_int) se_int) (se_op g_fdv (se_op g_ix (se_var (i := 0)) se_int) se_int)) (se_op g_mul (se_op g_ix (se_var (i := 0)) se_int) se_int)) san_nil).1) se_int)) (ss_ret (se_op g_mod (se_op g_fdv (se_var (i := 4)) se_int) (se_var (i := 1)))))))))⟩

abbrev st__law_same : Stmt := top 19
theorem sc__law_same : FnScope ["actual", "due", "k"] ["actual", "due"] (defScope st__law_same) := ⟨rfl, rfl, rfl, by decide +kernel, rfl, by decide +kernel, by decide +kernel⟩

theorem ok__law_same {f fd} (k : Nat) (F : Fun G.b.K "_law_same" "_law_same" st__law_same f fd) (T : Txt G mg) (C_rec : DL.Cal P w G.b.K mg base CX0 (0 + k) "_law_same" ["actual", "due"] (spOf G (f__law_same k) 2))
     :
    FnOk P w G.b.K mg base CX0 (0 + k + 1) f fd ["actual", "due"] (spOf G (f__law_same (k + 1)) 2) :=
  ok_of (b := b__law_same (f__law_same k)) (N := ["actual", "due", "k"]) F sc__law_same fun cdv A outer s H E hr => ⟨_, (pss_cons (ps_if (pt_cmpR op_isN (pv 1) pe_non (nomark _)) (pss_one (ps_ret (pe_cmpR op_isN (pv 0) pe_non (nomark _)))) pss_nil) (pss_cons (ps_if (pt_cmpR DL.op_isCA (pv 1) pe_bl (nomark _)) (pss_one (ps_ret (pe_cmpR DL.op_isCA (pv 0) pe_bl (nomark _)))) pss_nil) (pss_cons (ps_if (pt_cmpR DL.op_isCA (pv 1) pe_bl (nomark _)) (pss_one (ps_ret (pe_cmpR DL.op_isCA (pv 0) pe_bl (nomark _)))) pss_nil) (pss_cons (ps_if (pt_val (pe_callB (DL.call_isiK' G.b.K rfl) (by rfl) T.b_isinstance (by decide +kernel) (pa_cons (pv 1) (pa_cons (pe_bltn (v := .ty "int") rfl T.b_int (by decide +kernel) rfl) pa_nil)))) (pss_one (ps_ret (pe_and (pe_callB (DL.call_isiK' G.b.K rfl) (by rfl) T.b_isinstance (by decide +kernel) (pa_cons (pv 0) (pa_cons (pe_bltn (v := .ty "int") rfl T.b_int (by decide +kernel) rfl) pa_nil))) (pe_and (pe_not (pe_callB (DL.call_isiK' G.b.K rfl) (by rfl) T.b_isinstance (by decide +kernel) (pa_cons (pv 0) (pa_cons (pe_bltn (v := .ty "bool") rfl T.b_bool (by decide +kernel) rfl) pa_nil)))) (pe_one (pe_cmpR (op_eqDK G.b.K rfl hr.units) (pv 0) (pv 1) (nomark _))))))) pss_nil) (pss_cons (ps_if (pt_val (pe_callB (DL.call_isiK' G.b.K rfl) (by rfl) T.b_isinstance (by decide +kernel) (pa_cons (pv 1) (pa_cons (pe_bltn (v := .ty "str") rfl T.b_str (by decide +kernel) rfl) pa_nil)))) (pss_one (ps_ret (pe_and (pe_callB (DL.call_isiK' G.b.K rfl) (by rfl) T.b_isinstance (by decide +kernel) (pa_cons (pv 0) (pa_cons (pe_bltn (v := .ty "str") rfl T.b_str (by decide +kernel) rfl) pa_nil))) (pe_one (pe_cmpR (op_eqDK G.b.K rfl hr.units) (pv 0) (pv 1) (nomark _)))))) pss_nil) (pss_cons (ps_if (PW.pt (pw_and (pt_val (pe_callB (DL.call_isiK' G.b.K rfl) (by rfl) T.b_isinstance (by decide +kernel) (pa_cons (pv 1) (pa_cons (pe_bltn (v := .ty "list") rfl T.b_list (by decide +kernel) rfl) pa_nil)))) (pw_and1 (pt_not (pt_val (pe_callB (DL.call_isiK' G.b.K rfl) (by rfl) T.b_isinstance (by decide +kernel) (pa_cons (pv 0) (pa_cons (pe_bltn (v := .ty "list") rfl T.b_list (by decide +kernel) rfl) pa_nil)))))))) (pss_one (ps_ret pe_bl)) pss_nil) (pss_cons (ps_if (PW.pt (pw_and (pt_val (pe_callB (DL.call_isiK' G.b.K rfl) (by rfl) T.b_isinstance (by decide +kernel) (pa_cons (pv 1) (pa_cons (pe_bltn (v := .ty "tuple") rfl T.b_tuple (by decide +kernel) rfl) pa_nil)))) (pw_and1 (pt_not (pt_val (pe_callB (DL.call_isiK' G.b.K rfl) (by rfl) T.b_isinstance (by decide +kernel) (pa_cons (pv 0) (pa_cons (pe_bltn (v := .ty "tuple") rfl T.b_tuple (by decide +kernel) rfl) pa_nil)))))))) (pss_one (ps_ret pe_bl)) pss_nil) (pss_cons (ps_if (pt_cmpR (op_neDK G.b.K rfl hr.units) (pe_callB (call_lenB G.b.K rfl) (by rfl) T.b_len PySem.boot_len (pa_cons (pv 0) pa_nil)) (pe_callB (call_lenB G.b.K rfl) (by rfl) T.b_len PySem.boot_len (pa_cons (pv 1) pa_nil)) (nomark _)) (pss_one (ps_ret pe_bl)) pss_nil) (pss_cons (ps_for PassesOwn.never rfl (pi_range1 (by rfl) T.b_range (pa_cons (pe_callB (call_lenB G.b.K rfl) (by rfl) T.b_len PySem.boot_len (pa_cons (pv 1) pa_nil)) pa_nil)) (pg_name (i := 2) sc__law_same.nd rfl (by first | exact Or.inl rfl | exact Or.inr rfl)) (pss_one (ps_if (pt_not (pt_val (DL.pe_cal C_rec hr (by first | decide | exact Nat.le_refl _ | omega) L2.pass0 (pa_cons (pe_ix (DL.ix_seqK G.b.K rfl) (pv 0) (pv 2) (fun _ _ => rfl)) (pa_cons (pe_ix (DL.ix_seqK G.b.K rfl) (pv 1) (pv 2) (fun _ _ => rfl)) pa_nil))))) (pss_one (ps_ret pe_bl)) pss_nil))) (pss_one (ps_ret pe_bl))))))))))), (ss_seq (ss_if (st_test (se_op g_isN (se_var (i := 1)) se_non)) (ss_ret (se_op g_isN (se_var (i := 0)) se_non)) ss_nop) (ss_seq (ss_if (st_test (se_op g_isC (se_var (i := 1)) se_bl)) (ss_ret (se_op g_isC (se_var (i := 0)) se_bl)) ss_nop) (ss_seq (ss_if (st_test (se_op g_isC (se_var (i := 1)) se_bl)) (ss_ret (se_op g_isC (se_var (i := 0)) se_bl)) ss_nop) (ss_seq (ss_if (st_B (se_cb (g_isi T.kit) (san_cons (se_var (i := 1)) (san_cons (se_ty (n := 2)) san_nil)).1)) (ss_ret (se_andV (se_cb (g_isi T.kit) (san_cons (se_var (i := 0)) (san_cons (se_ty (n := 2)) san_nil)).1) (se_andV (se_notV (se_cb (g_isi T.kit) (san_cons (se_var (i := 0)) (san_cons (se_ty (n := 1)) san_nil)).1)) (se_op g_eqD (se_var (i := 0)) (se_var (i := 1)))))) ss_nop) (ss_seq (ss_if (st_B (se_cb (g_isi T.kit) (san_cons (se_var (i := 1)) (san_cons (se_ty (n := 3)) san_nil)).1)) (ss_ret (se_andV (se_cb (g_isi T.kit) (san_cons (se_var (i := 0)) (san_cons (se_ty (n := 3)) san_nil)).1) (se_op g_eqD (se_var (i := 0)) (se_var (i := 1))))) ss_nop) (ss_seq (ss_if (st_and (st_B (se_cb (g_isi T.kit) (san_cons (se_var (i := 1)) (san_cons (se_ty (n := 4)) san_nil)).1)) (st_not (st_B (se_cb (g_isi T.kit) (san_cons (se_var (i := 0)) (san_cons (se_ty (n := 4)) san_nil)).1)))) (ss_ret se_bl) ss_nop) (ss_seq (ss_if (st_and (st_B (se_cb (g_isi T.kit) (san_cons (se_var (i := 1)) (san_cons (se_ty (n := 5)) san_nil)).1)) (st_not (st_B (se_cb (g_isi T.kit) (san_cons (se_var (i := 0)) (san_cons (se_ty (n := 5)) san_nil)).1)))) (ss_ret se_bl) ss_nop) (ss_seq (ss_if (st_test (se_op g_neD (se_cb g_len (san_cons (se_var (i := 0)) san_nil).1) (se_cb g_len (san_cons (se_var (i := 1)) san_nil).1))) (ss_ret se_bl) ss_nop) (ss_seq (ss_for (si_r1 (san_cons (se_cb g_len (san_cons (se_var (i := 1)) san_nil).1) san_nil).1) (sg_name (i := 2)) (ss_if (st_not (st_B (se_call0 (san_cons (se_op g_ix (se_var (i := 0)) (se_var (i := 2))) (san_cons (se_op g_ix (se_var (i := 1)) (se_var (i := 2))) san_nil))))) (ss_ret se_bl) ss_nop)) (ss_ret se_bl))))))))))⟩

abbrev st__law_low : Stmt := top 20
theorem sc__law_low : FnScope ["marks", "mark"] ["marks"] (defScope st__law_low) := ⟨rfl, rfl, rfl, by decide +kernel, rfl, by decide +kernel, by decide +kernel⟩

theorem ok__law_low {f fd} (F : Fun G.b.K "_law_low" "_law_low" st__law_low f fd) (T : Txt G mg)
     :
    FnOk P w G.b.K mg base CX0 1 f fd ["marks"] (spOf G f__law_low 1) :=
  ok_of (b := b__law_low) (N := ["marks", "mark"]) F sc__law_low fun cdv A outer s H E hr => ⟨_, (pss_one (ps_ret (pe_lc (own := [("mark", 1)]) rfl sc__law_low.nd (pi_seq G.b.K rfl (pv 0)) (blkOk_by (by first | decide +kernel | kernel_rfl)) (fun _ _ _ _ _ => (pg_name (i := 1) sc__law_low.nd rfl (by first | exact Or.inl rfl | exact Or.inr rfl))) (fun _ _ _ _ _ => pts_nil) (fun _ _ _ _ _ => (DL.pe_bmK G.b.K rfl PySem.F.plainAttrs_list PySem.F.slot_list_index PySem.F.type_list_index (mt_indexA G.b.K rfl hr) (pv 0) (pa_cons (pv 1) pa_nil)))))), (ss_ret (se_lc (vs := [1]) (si_seq (se_var (i := 0))) (sg_name (i := 1)) (own_name (by simp)) st_yes (se_bm g_indexA (se_var (i := 0)) (san_cons (se_var (i := 1)) san_nil).1)))⟩

abbrev st__law_meet : Stmt := top 21
theorem sc__law_meet : FnScope ["one", "two", "pairs", "case", "pair"] ["one", "two"] (defScope st__law_meet) := ⟨rfl, rfl, rfl, by decide +kernel, rfl, by decide +kernel, by decide +kernel⟩

theorem ok__law_meet {f fd} (F : Fun G.b.K "_law_meet" "_law_meet" st__law_meet f fd) (T : Txt G mg)
     :
    FnOk P w G.b.K mg base CX0 1 f fd ["one", "two"] (spOf G f__law_meet 2) :=
  ok_of (b := b__law_meet) (N := ["one", "two", "pairs", "case", "pair"]) F sc__law_meet fun cdv A outer s H E hr => ⟨_, (pss_cons (ps_set (i := 2) sc__law_meet.nd rfl (by first | exact Or.inl rfl | exact Or.inr rfl) (pe_lc (own := [("case", 3)]) rfl sc__law_meet.nd (pi_range1 (by rfl) T.b_range (pa_cons (pe_callB (call_lenB G.b.K rfl) (by rfl) T.b_len PySem.boot_len (pa_cons (pv 0) pa_nil)) pa_nil)) (blkOk_by (by first | decide +kernel | kernel_rfl)) (fun _ _ _ _ _ => (pg_name (i := 3) sc__law_meet.nd rfl (by first | exact Or.inl rfl | exact Or.inr rfl))) (fun _ _ _ _ _ => pts_nil) (fun _ _ _ _ _ => (pe_tup (pa_cons (pe_ix (DL.ix_seqK G.b.K rfl) (pv 0) (pv 3) (fun _ _ => rfl)) (pa_cons (pe_ix (DL.ix_seqK G.b.K rfl) (pv 1) (pv 3) (fun _ _ => rfl)) pa_nil)))))) (pss_one (ps_ret (pe_lc (own := [("pair", 4)]) rfl sc__law_meet.nd (pi_seq G.b.K rfl (pv 2)) (blkOk_by (by first | decide +kernel | kernel_rfl)) (fun _ _ _ _ _ => (pg_name (i := 4) sc__law_meet.nd rfl (by first | exact Or.inl rfl | exact Or.inr rfl))) (fun _ _ _ _ _ => pts_nil) (fun _ _ _ _ _ => (DL.pe_bmK G.b.K rfl PySem.F.plainAttrs_list PySem.F.slot_list_index PySem.F.type_list_index (mt_indexA G.b.K rfl hr) (pv 2) (pa_cons (pv 4) pa_nil))))))), (ss_seq (ss_asg (se_lc (vs := [3]) (si_r1 (san_cons (se_cb g_len (san_cons (se_var (i := 0)) san_nil).1) san_nil).1) (sg_name (i := 3)) (own_name (by simp)) st_yes (se_tup (san_cons (se_op g_ix (se_var (i := 0)) (se_var (i := 3))) (san_cons (se_op g_ix (se_var (i := 1)) (se_var (i := 3))) san_nil)).1))) (ss_ret (se_lc (vs := [4]) (si_seq (se_var (i := 2))) (sg_name (i := 4)) (own_name (by simp)) st_yes (se_bm g_indexA (se_var (i := 2)) (san_cons (se_var (i := 4)) san_nil).1))))⟩

abbrev st__law_join : Stmt := top 22
theorem sc__law_join : FnScope ["one", "two", "low", "turn", "marks", "at", "mark"] ["one", "two"] (defScope st__law_join) := ⟨rfl, rfl, rfl, by decide +kernel, rfl, by decide +kernel, by decide +kernel⟩

theorem ok__law_join {f fd} (F : Fun G.b.K "_law_join" "_law_join" st__law_join f fd) (T : Txt G mg)
     :
    FnOk P w G.b.K mg base CX0 1 f fd ["one", "two"] (spOf G f__law_join 2) :=
  ok_of (b := b__law_join) (N := ["one", "two", "low", "turn", "marks", "at", "mark"]) F sc__law_join fun cdv A outer s H E hr => ⟨_, (pss_cons (ps_set (i := 2) sc__law_join.nd rfl (by first | exact Or.inl rfl | exact Or.inr rfl) (pe_listRg rfl (by rfl) T.b_list (prg_1 (by rfl) T.b_range (pe_callB (call_lenB G.b.K rfl) (by rfl) T.b_len PySem.boot_len (pa_cons (pv 0) pa_nil))))) (pss_cons (ps_for PassesOwn.never rfl (pi_range1 (by rfl) T.b_range (pa_cons (pe_callB (call_lenB G.b.K rfl) (by rfl) T.b_len PySem.boot_len (pa_cons (pv 0) pa_nil)) pa_nil)) (pg_name (i := 3) sc__law_join.nd rfl (by first | exact Or.inl rfl | exact Or.inr rfl)) (pss_one (ps_for PassesOwn.never rfl (pi_seq G.b.K rfl (pe_lst (pa_cons (pv 0) (pa_cons (pv 1) pa_nil)))) (pg_name (i := 4) sc__law_join.nd rfl (by first | exact Or.inl rfl | exact Or.inr rfl)) (pss_one (ps_set (i := 2) sc__law_join.nd rfl (by first | exact Or.inl rfl | exact Or.inr rfl) (pe_lc (own := [("mark", 6)]) rfl sc__law_join.nd (pi_seq G.b.K rfl (pv 4)) (blkOk_by (by first | decide +kernel | kernel_rfl)) (fun _ _ _ _ _ => (pg_name (i := 6) sc__law_join.nd rfl (by first | exact Or.inl rfl | exact Or.inr rfl))) (fun _ _ _ _ _ => pts_nil) (fun _ _ _ _ _ => (pe_callB (DL.cr_minK G.b.K rfl rfl) (by rfl) T.b_min (by decide +kernel) (pa_cons (pe_lc (own := [("at", 5)]) rfl sc__law_join.nd (pi_range1 (by rfl) T.b_range (pa_cons (pe_callB (call_lenB G.b.K rfl) (by rfl) T.b_len PySem.boot_len (pa_cons (pv 0) pa_nil)) pa_nil)) (blkOk_by (by first | decide +kernel | kernel_rfl)) (fun _ _ _ _ _ => (pg_name (i := 5) sc__law_join.nd rfl (by first | exact Or.inl rfl | exact Or.inr rfl))) (fun _ _ _ _ _ => (pts_one (pt_cmpR (op_eqDK G.b.K rfl hr.units) (pe_ix (DL.ix_seqK G.b.K rfl) (pv 4) (pv 5) (fun _ _ => rfl)) (pv 6) (nomark _)))) (fun _ _ _ _ _ => (pe_ix (DL.ix_seqK G.b.K rfl) (pv 2) (pv 5) (fun _ _ => rfl)))) pa_nil))))))))) (pss_one (ps_ret (pv 2))))), (ss_seq (ss_asg (se_listR1 (se_cb g_len (san_cons (se_var (i := 0)) san_nil).1))) (ss_seq (ss_for (si_r1 (san_cons (se_cb g_len (san_cons (se_var (i := 0)) san_nil).1) san_nil).1) (sg_name (i := 3)) (ss_for (si_seq (se_lst (san_cons (se_var (i := 0)) (san_cons (se_var (i := 1)) san_nil)).1)) (sg_name (i := 4)) (ss_asg (se_lc (vs := [6]) (si_seq (se_var (i := 4))) (sg_name (i := 6)) (own_name (by simp)) st_yes (se_cb g_min (san_cons (se_lc (vs := [5]) (si_r1 (san_cons (se_cb g_len (san_cons (se_var (i := 0)) san_nil).1) san_nil).1) (sg_name (i := 5)) (own_name (by simp)) (st_test (se_op g_eqD (se_op g_ix (se_var (i := 4)) (se_var (i := 5))) (se_var (i := 6)))) (se_op g_ix (se_var (i := 2)) (se_var (i := 5)))) san_nil).1))))) (ss_ret (se_var (i := 2)))))⟩

abbrev st__law_marks : Stmt := top 23
theorem sc__law_marks : FnScope ["bag", "many", "kinds", "k"] ["bag", "many"] (defScope st__law_marks) := ⟨rfl, rfl, rfl, by decide +kernel, rfl, by decide +kernel, by decide +kernel⟩

theorem ok__law_marks {f fd} (F : Fun G.b.K "_law_marks" "_law_marks" st__law_marks f fd) (T : Txt G mg)
    (C__law_take : DL.Cal P w G.b.K mg base CX0 1 "_law_take" ["bag", "many"] (spOf G f__law_take 2)) :
    FnOk P w G.b.K mg base CX0 2 f fd ["bag", "many"] (spOf G f__law_marks 2) :=
  ok_of (b := b__law_marks) (N := ["bag", "many", "kinds", "k"]) F sc__law_marks fun cdv A outer s H E hr => ⟨_, (pss_cons (ps_set (i := 2) sc__law_marks.nd rfl (by first | exact Or.inl rfl | exact Or.inr rfl) (pe_op (op_addB G.b.K rfl) pe_int (DL.pe_cal C__law_take hr (by first | decide | exact Nat.le_refl _ | omega) L2.pass0 (pa_cons (pv 0) (pa_cons (pv 1) pa_nil))))) (pss_one (ps_ret (pe_lc (own := [("k", 3)]) rfl sc__law_marks.nd (pi_range1 (by rfl) T.b_range (pa_cons (pv 1) pa_nil)) (blkOk_by (by first | decide +kernel | kernel_rfl)) (fun _ _ _ _ _ => (pg_name (i := 3) sc__law_marks.nd rfl (by first | exact Or.inl rfl | exact Or.inr rfl))) (fun _ _ _ _ _ => pts_nil) (fun _ _ _ _ _ => (DL.pe_cal C__law_take hr (by first | decide | exact Nat.le_refl _ | omega) L2.pass0 (pa_cons (pv 0) (pa_cons (pv 2) pa_nil)))))))), (ss_seq (ss_asg (se_op g_add se_int (se_call0 (san_cons (se_var (i := 0)) (san_cons (se_var (i := 1)) san_nil))))) (ss_ret (se_lc (vs := [3]) (si_r1 (san_cons (se_var (i := 1)) san_nil).1) (sg_name (i := 3)) (own_name (by simp)) st_yes (se_call0 (san_cons (se_var (i := 0)) (san_cons (se_var (i := 2)) san_nil))))))⟩

abbrev st__law_third : Stmt := top 24
theorem sc__law_third : FnScope ["bag", "one", "two", "many", "way", "place", "other", "mark", "low", "marks"] ["bag", "one", "two"] (defScope st__law_third) := ⟨rfl, rfl, rfl, by decide +kernel, rfl, by decide +kernel, by decide +kernel⟩

theorem ok__law_third {f fd} (F : Fun G.b.K "_law_third" "_law_third" st__law_third f fd) (T : Txt G mg)
    (C__law_take : DL.Cal P w G.b.K mg base CX0 1 "_law_take" ["bag", "many"] (spOf G f__law_take 2))
    (C__law_meet : DL.Cal P w G.b.K mg base CX0 1 "_law_meet" ["one", "two"] (spOf G f__law_meet 2))
    (C__law_join : DL.Cal P w G.b.K mg base CX0 1 "_law_join" ["one", "two"] (spOf G f__law_join 2))
    (C__law_marks : DL.Cal P w G.b.K mg base CX0 2 "_law_marks" ["bag", "many"] (spOf G f__law_marks 2)) :
    FnOk P w G.b.K mg base CX0 3 f fd ["bag", "one", "two"] (spOf G f__law_third 3) :=
  ok_of (b := b__law_third) (N := ["bag", "one", "two", "many", "way", "place", "other", "mark", "low", "marks"]) F sc__law_third fun cdv A outer s H E hr => ⟨_, (pss_cons (ps_set (i := 3) sc__law_third.nd rfl (by first | exact Or.inl rfl | exact Or.inr rfl) (pe_callB (call_lenB G.b.K rfl) (by rfl) T.b_len PySem.boot_len (pa_cons (pv 1) pa_nil))) (pss_cons (ps_set (i := 4) sc__law_third.nd rfl (by first | exact Or.inl rfl | exact Or.inr rfl) (DL.pe_cal C__law_take hr (by first | decide | exact Nat.le_refl _ | omega) L2.pass0 (pa_cons (pv 0) (pa_cons pe_int pa_nil)))) (pss_cons (ps_set (i := 5) sc__law_third.nd rfl (by first | exact Or.inl rfl | exact Or.inr rfl) (DL.pe_cal C__law_take hr (by first | decide | exact Nat.le_refl _ | omega) L2.pass0 (pa_cons (pv 0) (pa_cons (pv 3) pa_nil)))) (pss_cons (ps_set (i := 6) sc__law_third.nd rfl (by first | exact Or.inl rfl | exact Or.inr rfl) (DL.pe_cal C__law_take hr (by first | decide | exact Nat.le_refl _ | omega) L2.pass0 (pa_cons (pv 0) (pa_cons (pv 3) pa_nil)))) (pss_cons (ps_if (pt_cmpR (op_eqDK G.b.K rfl hr.units) (pv 4) pe_int (nomark _)) (pss_one (ps_ret (DL.pe_cal C__law_marks hr (by first | decide | exact Nat.le_refl _ | omega) L2.pass0 (pa_cons (pv 0) (pa_cons (pv 3) pa_nil))))) pss_nil) (pss_cons (ps_if (pt_cmpR (op_eqDK G.b.K rfl hr.units) (pv 4) pe_int (nomark _)) (pss_one (ps_ret (pe_lc (own := [("mark", 7)]) rfl sc__law_third.nd (pi_seq G.b.K rfl (DL.pe_cal C__law_meet hr (by first | decide | exact Nat.le_refl _ | omega) L2.pass0 (pa_cons (pv 1) (pa_cons (pv 2) pa_nil)))) (blkOk_by (by first | decide +kernel | kernel_rfl)) (fun _ _ _ _ _ => (pg_name (i := 7) sc__law_third.nd rfl (by first | exact Or.inl rfl | exact Or.inr rfl))) (fun _ _ _ _ _ => pts_nil) (fun _ _ _ _ _ => (pe_op (op_addB G.b.K rfl) (pe_op op_mulB pe_int (pv 7)) (DL.pe_cal C__law_take hr (by first | decide | exact Nat.le_refl _ | omega) L2.pass0 (pa_cons (pv 0) (pa_cons pe_int pa_nil)))))))) pss_nil) (pss_cons (ps_if (pt_cmpR (op_eqDK G.b.K rfl hr.units) (pv 4) pe_int (nomark _)) (pss_cons (ps_set (i := 8) sc__law_third.nd rfl (by first | exact Or.inl rfl | exact Or.inr rfl) (DL.pe_cal C__law_join hr (by first | decide | exact Nat.le_refl _ | omega) L2.pass0 (pa_cons (pv 1) (pa_cons (pv 2) pa_nil)))) (pss_one (ps_ret (pe_lc (own := [("mark", 7)]) rfl sc__law_third.nd (pi_seq G.b.K rfl (pv 8)) (blkOk_by (by first | decide +kernel | kernel_rfl)) (fun _ _ _ _ _ => (pg_name (i := 7) sc__law_third.nd rfl (by first | exact Or.inl rfl | exact Or.inr rfl))) (fun _ _ _ _ _ => pts_nil) (fun _ _ _ _ _ => (pe_ifExp (pt_cmpR (op_eqDK G.b.K rfl hr.units) (pv 7) (pe_ix (DL.ix_seqK G.b.K rfl) (pv 8) (pv 6) (fun _ _ => rfl)) (nomark _)) (pe_ix (DL.ix_seqK G.b.K rfl) (pv 8) (pv 5) (fun _ _ => rfl)) (pv 7))))))) pss_nil) (pss_cons (ps_set (i := 9) sc__law_third.nd rfl (by first | exact Or.inl rfl | exact Or.inr rfl) (pe_callTy (call_listB G.b.K rfl) (by rfl) T.b_list (by decide +kernel) (pa_cons (pv 1) pa_nil))) (pss_cons (ps_asg (pv 6) (pg_sub (pv 9) (pv 5) set_list)) (pss_one (ps_ret (pv 9)))))))))))), (ss_seq (ss_asg (se_cb g_len (san_cons (se_var (i := 1)) san_nil).1)) (ss_seq (ss_asg (se_call0 (san_cons (se_var (i := 0)) (san_cons se_int san_nil)))) (ss_seq (ss_asg (se_call0 (san_cons (se_var (i := 0)) (san_cons (se_var (i := 3)) san_nil)))) (ss_seq (ss_asg (se_call0 (san_cons (se_var (i := 0)) (san_cons (se_var (i := 3)) san_nil)))) (ss_seq (ss_if (st_test (se_op g_eqD (se_var (i := 4)) se_int)) (ss_ret (se_call0 (san_cons (se_var (i := 0)) (san_cons (se_var (i := 3)) san_nil)))) ss_nop) (ss_seq (ss_if (st_test (se_op g_eqD (se_var (i := 4)) se_int)) (ss_ret (se_lc (vs := [7]) (si_seq (se_call0 (san_cons (se_var (i := 1)) (san_cons (se_var (i := 2)) san_nil)))) (sg_name (i := 7)) (own_name (by simp)) st_yes (se_op g_add (se_op g_mul se_int (se_var (i := 7))) (se_call0 (san_cons (se_var (i := 0)) (san_cons se_int san_nil)))))) ss_nop) (ss_seq (ss_if (st_test (se_op g_eqD (se_var (i := 4)) se_int)) (ss_seq (ss_asg (se_call0 (san_cons (se_var (i := 1)) (san_cons (se_var (i := 2)) san_nil)))) (ss_ret (se_lc (vs := [7]) (si_seq (se_var (i := 8))) (sg_name (i := 7)) (own_name (by simp)) st_yes (se_if (st_test (se_op g_eqD (se_var (i := 7)) (se_op g_ix (se_var (i := 8)) (se_var (i := 6))))) (se_op g_ix (se_var (i := 8)) (se_var (i := 5))) (se_var (i := 7)))))) ss_nop) (ss_seq (ss_asg (se_cb g_list (san_cons (se_var (i := 1)) san_nil).1)) (ss_seq (ss_set (se_var (i := 6)) (se_var (i := 9)) (se_var (i := 5))) (ss_ret (se_fz (se_var (i := 9)))))))))))))⟩

abbrev st__law_finer : Stmt := top 25
theorem sc__law_finer : FnScope ["one", "two", "case"] ["one", "two"] (defScope st__law_finer) := ⟨rfl, rfl, rfl, by decide +kernel, rfl, by decide +kernel, by decide +kernel⟩

theorem ok__law_finer {f fd} (F : Fun G.b.K "_law_finer" "_law_finer" st__law_finer f fd) (T : Txt G mg)
     :
    FnOk P w G.b.K mg base CX0 1 f fd ["one", "two"] (spOf G f__law_finer 2) :=
  ok_of (b := b__law_finer) (N := ["one", "two", "case"]) F sc__law_finer fun cdv A outer s H E hr => ⟨_, (pss_one (ps_ret (pe_cmpR (op_eqDK G.b.K rfl hr.units) (pe_lc (own := [("case", 2)]) rfl sc__law_finer.nd (pi_range1 (by rfl) T.b_range (pa_cons (pe_callB (call_lenB G.b.K rfl) (by rfl) T.b_len PySem.boot_len (pa_cons (pv 0) pa_nil)) pa_nil)) (blkOk_by (by first | decide +kernel | kernel_rfl)) (fun _ _ _ _ _ => (pg_name (i := 2) sc__law_finer.nd rfl (by first | exact Or.inl rfl | exact Or.inr rfl))) (fun _ _ _ _ _ => pts_nil) (fun _ _ _ _ _ => (pe_cmpR (op_eqDK G.b.K rfl hr.units) (pe_ix (DL.ix_seqK G.b.K rfl) (pv 1) (pv 2) (fun _ _ => rfl)) (pe_ix (DL.ix_seqK G.b.K rfl) (pv 1) (pe_ix (DL.ix_seqK G.b.K rfl) (pv 0) (pv 2) (fun _ _ => rfl)) (fun _ _ => rfl)) (nomark _)))) (pe_op op_mulB (pe_lst (pa_cons pe_bl pa_nil)) (pe_callB (call_lenB G.b.K rfl) (by rfl) T.b_len PySem.boot_len (pa_cons (pv 0) pa_nil))) (nomark _)))), (ss_ret (se_op g_eqD (se_lc (vs := [2]) (si_r1 (san_cons (se_cb g_len (san_cons (se_var (i := 0)) san_nil).1) san_nil).1) (sg_name (i := 2)) (own_name (by simp)) st_yes (se_op g_eqD (se_op g_ix (se_var (i := 1)) (se_var (i := 2))) (se_op g_ix (se_var (i := 1)) (se_op g_ix (se_var (i := 0)) (se_var (i := 2)))))) (se_op g_mul (se_lst (san_cons se_bl san_nil).1) (se_cb g_len (san_cons (se_var (i := 0)) san_nil).1))))⟩

abbrev st__law_refused : Stmt := top 27
theorem sc__law_refused : FnScope ["left", "odd", "many", "wrong", "asked", "kinds", "due"] ["left", "odd", "many", "wrong"] (defScope st__law_refused) := ⟨rfl, rfl, rfl, by decide +kernel, rfl, by decide +kernel, by decide +kernel⟩

theorem ok__law_refused {f fd c Pt} {Tl : List (Addr × Str)} (F : FunC G.b.K "_law_refused" "_law_refused" st__law_refused f fd c) (T : Txt G mg) (TB : LamX.TabB base mg c Pt) (hmT : (Pt, ("_law_refused" : Str) ++ (".<locals>." : Str) ++ ("<lambda>" : Str)) ∈ Tl) (hu : ∀ p ∈ Tl, p.1 = Pt → p.2 = ("_law_refused" : Str) ++ (".<locals>." : Str) ++ ("<lambda>" : Str)) (hT : G.T = TabMap Tl)
    (C_Split_finer : DL.CalM P w G.b.K mg base (L2.CX P w) 5 (G.b.cl 33) "finer" ["self", "other"] (spOf G f_Split_finer 2))
    (C_Split___and__ : DL.CalB P w G.b.K mg base (L2.CX P w) 6 (G.b.cl 33) .BitAnd (spOf G f_Split___and__ 2))
    (C_Split___or__ : DL.CalB P w G.b.K mg base (L2.CX P w) 6 (G.b.cl 33) .BitOr (spOf G f_Split___or__ 2))
    (C__law_same : DL.Cal P w G.b.K mg base CX0 4 "_law_same" ["actual", "due"] (spOf G (f__law_same 4) 2))
    (C__law_told : TellC P w G.b.K mg base G tell__law_told) :
    FnOk P w G.b.K mg base CX0 9 f fd ["left", "odd", "many", "wrong"] (spOf G f__law_refused 4) :=
  okC_of (b := b__law_refused) (N := ["left", "odd", "many", "wrong", "asked", "kinds", "due"]) F sc__law_refused fun A outer s H E hr => ⟨_, (pss_cons (ps_set (i := 4) sc__law_refused.nd rfl (by first | exact Or.inl rfl | exact Or.inr rfl) (pe_lst pa_nil)) (pss_cons (ps_expr (DL.pe_bmK G.b.K rfl PySem.F.plainAttrs_list PySem.F.slot_list_append PySem.F.type_list_append mt_append (pv 4) (pa_cons (pe_lam C__law_told TB rfl hmT hu rfl hr (LamX.lamS_by (by first | decide +kernel | kernel_rfl)) (fun _ _ _ _ E2 _ _ hr2 => (DL.pe_calM C_Split_finer hr2 (by first | decide | exact Nat.le_refl _ | omega) (passes_call (takes_of rfl rfl rfl rfl) fun _ _ _ _ h => h) (pv 0) (pa_cons (pv 1) pa_nil)))) pa_nil))) (pss_cons (ps_expr (DL.pe_bmK G.b.K rfl PySem.F.plainAttrs_list PySem.F.slot_list_append PySem.F.type_list_append mt_append (pv 4) (pa_cons (pe_lam C__law_told TB rfl hmT hu rfl hr (LamX.lamS_by (by first | decide +kernel | kernel_rfl)) (fun _ _ _ _ E2 _ _ hr2 => (DL.pe_calM C_Split_finer hr2 (by first | decide | exact Nat.le_refl _ | omega) (passes_call (takes_of rfl rfl rfl rfl) fun _ _ _ _ h => h) (pv 1) (pa_cons (pv 0) pa_nil)))) pa_nil))) (pss_cons (ps_expr (DL.pe_bmK G.b.K rfl PySem.F.plainAttrs_list PySem.F.slot_list_append PySem.F.type_list_append mt_append (pv 4) (pa_cons (pe_lam C__law_told TB rfl hmT hu rfl hr (LamX.lamS_by (by first | decide +kernel | kernel_rfl)) (fun _ _ _ _ E2 _ _ hr2 => (pe_op (op_binCK G.b.K rfl C_Split___and__ (passes_call (takes_of rfl rfl rfl rfl) fun _ _ _ _ h => h) hr2 (by first | decide | exact Nat.le_refl _ | omega)) (pv 0) (pv 1)))) pa_nil))) (pss_cons (ps_expr (DL.pe_bmK G.b.K rfl PySem.F.plainAttrs_list PySem.F.slot_list_append PySem.F.type_list_append mt_append (pv 4) (pa_cons (pe_lam C__law_told TB rfl hmT hu rfl hr (LamX.lamS_by (by first | decide +kernel | kernel_rfl)) (fun _ _ _ _ E2 _ _ hr2 => (pe_op (op_binCK G.b.K rfl C_Split___and__ (passes_call (takes_of rfl rfl rfl rfl) fun _ _ _ _ h => h) hr2 (by first | decide | exact Nat.le_refl _ | omega)) (pv 1) (pv 0)))) pa_nil))) (pss_cons (ps_expr (DL.pe_bmK G.b.K rfl PySem.F.plainAttrs_list PySem.F.slot_list_append PySem.F.type_list_append mt_append (pv 4) (pa_cons (pe_lam C__law_told TB rfl hmT hu rfl hr (LamX.lamS_by (by first | decide +kernel | kernel_rfl)) (fun _ _ _ _ E2 _ _ hr2 => (pe_op (op_binCK G.b.K rfl C_Split___or__ (passes_call (takes_of rfl rfl rfl rfl) fun _ _ _ _ h => h) hr2 (by first | decide | exact Nat.le_refl _ | omega)) (pv 0) (pv 1)))) pa_nil))) (pss_cons (ps_expr (DL.pe_bmK G.b.K rfl PySem.F.plainAttrs_list PySem.F.slot_list_append PySem.F.type_list_append mt_append (pv 4) (pa_cons (pe_lam C__law_told TB rfl hmT hu rfl hr (LamX.lamS_by (by first | decide +kernel | kernel_rfl)) (fun _ _ _ _ E2 _ _ hr2 => (pe_op (op_binCK G.b.K rfl C_Split___or__ (passes_call (takes_of rfl rfl rfl rfl) fun _ _ _ _ h => h) hr2 (by first | decide | exact Nat.le_refl _ | omega)) (pv 1) (pv 0)))) pa_nil))) (pss_cons (ps_set (i := 5) sc__law_refused.nd rfl (by first | exact Or.inl rfl | exact Or.inr rfl) (pe_lst (pa_cons pe_bl (pa_cons pe_bl (pa_cons pe_bl pa_nil))))) (pss_cons (ps_set (i := 6) sc__law_refused.nd rfl (by first | exact Or.inl rfl | exact Or.inr rfl) (pe_lst (pa_cons (pe_lst (pa_cons pe_str (pa_cons (pv 2) (pa_cons (pv 3) (pa_cons (pv 5) pa_nil))))) (pa_cons (pe_lst (pa_cons pe_str (pa_cons (pv 3) (pa_cons (pv 2) (pa_cons (pv 5) pa_nil))))) pa_nil)))) (pss_one (ps_ret (DL.pe_cal C__law_same hr (by first | decide | exact Nat.le_refl _ | omega) L2.pass0 (pa_cons (pv 4) (pa_cons (pe_op (op_addB G.b.K rfl) (pe_op (op_addB G.b.K rfl) (pv 6) (pv 6)) (pv 6)) pa_nil)))))))))))))), (ss_seq (ss_asg (se_lst san_nil.1)) (ss_seq (ss_drop (se_bm g_append (se_var (i := 4)) (san_cons (se_told hT (fun E2 => (se_meth (C := 33) (se_var (i := 0)) (san_cons (se_var (i := 1)) san_nil) hE T.n_finer))) san_nil).1)) (ss_seq (ss_drop (se_bm g_append (se_var (i := 4)) (san_cons (se_told hT (fun E2 => (se_meth (C := 33) (se_var (i := 1)) (san_cons (se_var (i := 0)) san_nil) hE T.n_finer))) san_nil).1)) (ss_seq (ss_drop (se_bm g_append (se_var (i := 4)) (san_cons (se_told hT (fun E2 => (se_opR (g_obin T.ins_Split hE) (se_var (i := 0)) (se_var (i := 1))))) san_nil).1)) (ss_seq (ss_drop (se_bm g_append (se_var (i := 4)) (san_cons (se_told hT (fun E2 => (se_opR (g_obin T.ins_Split hE) (se_var (i := 1)) (se_var (i := 0))))) san_nil).1)) (ss_seq (ss_drop (se_bm g_append (se_var (i := 4)) (san_cons (se_told hT (fun E2 => (se_opR (g_obin T.ins_Split hE) (se_var (i := 0)) (se_var (i := 1))))) san_nil).1)) (ss_seq (ss_drop (se_bm g_append (se_var (i := 4)) (san_cons (se_told hT (fun E2 => (se_opR (g_obin T.ins_Split hE) (se_var (i := 1)) (se_var (i := 0))))) san_nil).1)) (ss_seq (ss_asg (se_lst (san_cons se_bl (san_cons se_bl (san_cons se_bl san_nil))).1)) (ss_seq (ss_asg (se_lst (san_cons (se_lst (san_cons se_str (san_cons (se_var (i := 2)) (san_cons (se_var (i := 3)) (san_cons (se_var (i := 5)) san_nil)))).1) (san_cons (se_lst (san_cons se_str (san_cons (se_var (i := 3)) (san_cons (se_var (i := 2)) (san_cons (se_var (i := 5)) san_nil)))).1) san_nil)).1)) (ss_ret (se_call0 (san_cons (se_fz (se_var (i := 4))) (san_cons (se_op g_add (se_op g_add (se_var (i := 6)) (se_var (i := 6))) (se_var (i := 6))) san_nil)))))))))))))⟩

abbrev st_Split_marks : Stmt := inClass (top 15) 5
theorem sc_Split_marks : FnScope ["self"] ["self"] (defScope st_Split_marks) := ⟨rfl, rfl, rfl, by decide +kernel, rfl, by decide +kernel, by decide +kernel⟩

theorem ok_Split_marks {f fd} (F : Fun G.b.K "marks" "Split.marks" st_Split_marks f fd) (T : Txt G mg)
     :
    FnOk P w G.b.K mg base CX0 1 f fd ["self"] (spOf G f_Split_marks 1) :=
  ok_of (b := b_Split_marks) (N := ["self"]) F sc_Split_marks fun cdv A outer s H E hr => ⟨_, (pss_one (ps_ret (pe_callTy (call_listB G.b.K rfl) (by rfl) T.b_list (by decide +kernel) (pa_cons (DL.pe_fldK G.b.K rfl (pv 0) rfl) pa_nil)))), (ss_ret (se_cb g_list (san_cons (se_fld T.flds T.n__marks (se_var (i := 0))) san_nil).1))⟩

abbrev st__law_shown : Stmt := top 28
theorem sc__law_shown : FnScope ["splits", "rows", "k"] ["splits", "rows"] (defScope st__law_shown) := ⟨rfl, rfl, rfl, by decide +kernel, rfl, by decide +kernel, by decide +kernel⟩

theorem ok__law_shown {f fd} (F : Fun G.b.K "_law_shown" "_law_shown" st__law_shown f fd) (T : Txt G mg)
    (C__law_same : DL.Cal P w G.b.K mg base CX0 4 "_law_same" ["actual", "due"] (spOf G (f__law_same 4) 2))
    (C_Split_marks : DL.CalM P w G.b.K mg base CX0 1 (G.b.cl 33) "marks" ["self"] (spOf G f_Split_marks 1)) :
    FnOk P w G.b.K mg base CX0 5 f fd ["splits", "rows"] (spOf G f__law_shown 2) :=
  ok_of (b := b__law_shown) (N := ["splits", "rows", "k"]) F sc__law_shown fun cdv A outer s H E hr => ⟨_, (pss_cons (ps_for PassesOwn.never rfl (pi_range1 (by rfl) T.b_range (pa_cons (pe_callB (call_lenB G.b.K rfl) (by rfl) T.b_len PySem.boot_len (pa_cons (pv 1) pa_nil)) pa_nil)) (pg_name (i := 2) sc__law_shown.nd rfl (by first | exact Or.inl rfl | exact Or.inr rfl)) (pss_cons (ps_if (PW.pt (pw_or (pt_not (pt_val (pe_callB (DL.call_isiK' G.b.K rfl) (by rfl) T.b_isinstance (by decide +kernel) (pa_cons (pe_ix (DL.ix_seqK G.b.K rfl) (pv 0) (pv 2) (fun _ _ => rfl)) (pa_cons (pe_glob (v := .ref (G.b.cl 33)) rfl T.g_Split rfl) pa_nil))))) (pw_or1 (pt_not (pt_val (DL.pe_cal C__law_same hr (by first | decide | exact Nat.le_refl _ | omega) L2.pass0 (pa_cons (DL.pe_calM0 C_Split_marks hr (by first | decide | exact Nat.le_refl _ | omega) L2.pass0 (pe_ix (DL.ix_seqK G.b.K rfl) (pv 0) (pv 2) (fun _ _ => rfl))) (pa_cons (pe_ix (DL.ix_seqK G.b.K rfl) (pv 1) (pv 2) (fun _ _ => rfl)) pa_nil)))))))) (pss_one (ps_ret pe_bl)) pss_nil) (pss_one (ps_if (pt_not (pt_val (DL.pe_cal C__law_same hr (by first | decide | exact Nat.le_refl _ | omega) L2.pass0 (pa_cons (DL.pe_fldK G.b.K rfl (pe_ix (DL.ix_seqK G.b.K rfl) (pv 0) (pv 2) (fun _ _ => rfl)) rfl) (pa_cons (pe_callB (call_lenB G.b.K rfl) (by rfl) T.b_len PySem.boot_len (pa_cons (pe_ix (DL.ix_seqK G.b.K rfl) (pv 1) (pv 2) (fun _ _ => rfl)) pa_nil)) pa_nil))))) (pss_one (ps_ret pe_bl)) pss_nil)))) (pss_one (ps_ret pe_bl))), (ss_seq (ss_for (si_r1 (san_cons (se_cb g_len (san_cons (se_var (i := 1)) san_nil).1) san_nil).1) (sg_name (i := 2)) (ss_seq (ss_if (st_or (st_not (st_B (se_cb (g_isi T.kit) (san_cons (se_op g_ix (se_var (i := 0)) (se_var (i := 2))) (san_cons (se_cls (C := 33)) san_nil)).1))) (st_not (st_B (se_call0 (san_cons (se_meth0 (C := 33) (se_op g_ix (se_var (i := 0)) (se_var (i := 2))) san_nil T.n_marks) (san_cons (se_op g_ix (se_var (i := 1)) (se_var (i := 2))) san_nil)))))) (ss_ret se_bl) ss_nop) (ss_if (st_not (st_B (se_call0 (san_cons (se_fld T.flds T.n_size (se_op g_ix (se_var (i := 0)) (se_var (i := 2)))) (san_cons (se_cb g_len (san_cons (se_op g_ix (se_var (i := 1)) (se_var (i := 2))) san_nil).1) san_nil))))) (ss_ret se_bl) ss_nop))) (ss_ret se_bl))⟩

end
end K


namespace K
open PySem L2 PySem.Spec PyProof.Rows ML

section
variable {P : Program} {w : World} {G : Ct} {mg : Str → Option Value} {base : Heap}
abbrev st_law : Stmt := top 29
theorem sc_law : FnScope ["script", "bag", "many", "one", "two", "three", "left", "right", "third", "wrong", "odd", "low", "meet", "join", "rows", "splits", "k", "told", "split", "row", "chained", "due", "same"] ["script"] (defScope st_law) := ⟨rfl, rfl, rfl, by decide +kernel, rfl, by decide +kernel, by decide +kernel⟩

theorem ok_law {f fd} (F : Fun G.b.K "law" "law" st_law f fd) (T : Txt G mg)
    (C_Split : DL.CalC P w G.b.K mg base (L2.CX P w) 4 "Split" (G.b.cl 33) ["self", "marks"] (spOf G f_Split___init__ 2))
    (C_Split_finer : DL.CalM P w G.b.K mg base (L2.CX P w) 5 (G.b.cl 33) "finer" ["self", "other"] (spOf G f_Split_finer 2))
    (C_Split___eq__ : CalE P w G.b.K mg base 1 (G.b.cl 33) (spOf G f_Split___eq__ 2))
    (C_Split___and__ : DL.CalB P w G.b.K mg base (L2.CX P w) 6 (G.b.cl 33) .BitAnd (spOf G f_Split___and__ 2))
    (C_Split___or__ : DL.CalB P w G.b.K mg base (L2.CX P w) 6 (G.b.cl 33) .BitOr (spOf G f_Split___or__ 2))
    (C__law_start : DL.Cal P w G.b.K mg base CX0 1 "_law_start" ["script"] (spOf G f__law_start 1))
    (C__law_take : DL.Cal P w G.b.K mg base CX0 1 "_law_take" ["bag", "many"] (spOf G f__law_take 2))
    (C__law_same : DL.Cal P w G.b.K mg base CX0 4 "_law_same" ["actual", "due"] (spOf G (f__law_same 4) 2))
    (C__law_low : DL.Cal P w G.b.K mg base CX0 1 "_law_low" ["marks"] (spOf G f__law_low 1))
    (C__law_meet : DL.Cal P w G.b.K mg base CX0 1 "_law_meet" ["one", "two"] (spOf G f__law_meet 2))
    (C__law_join : DL.Cal P w G.b.K mg base CX0 1 "_law_join" ["one", "two"] (spOf G f__law_join 2))
    (C__law_marks : DL.Cal P w G.b.K mg base CX0 2 "_law_marks" ["bag", "many"] (spOf G f__law_marks 2))
    (C__law_third : DL.Cal P w G.b.K mg base CX0 3 "_law_third" ["bag", "one", "two"] (spOf G f__law_third 3))
    (C__law_finer : DL.Cal P w G.b.K mg base CX0 1 "_law_finer" ["one", "two"] (spOf G f__law_finer 2))
    (C__law_refused : DL.Cal P w G.b.K mg base CX0 9 "_law_refused" ["left", "odd", "many", "wrong"] (spOf G f__law_refused 4))
    (C__law_shown : DL.Cal P w G.b.K mg base CX0 5 "_law_shown" ["splits", "rows"] (spOf G f__law_shown 2)) :
    FnOk P w G.b.K mg base CX0 10 f fd ["script"] (spOf G f_law 1) :=
  ok_of (b := b_law) (N := ["script", "bag", "many", "one", "two", "three", "left", "right", "third", "wrong", "odd", "low", "meet", "join", "rows", "splits", "k", "told", "split", "row", "chained", "due", "same"]) F sc_law fun cdv A outer s H E hr => ⟨_, (pss_cons (ps_set (i := 1) sc_law.nd rfl (by first | exact Or.inl rfl | exact Or.inr rfl) (DL.pe_cal C__law_start hr (by first | decide | exact Nat.le_refl _ | omega) L2.pass0 (pa_cons (pv 0) pa_nil))) (pss_cons (ps_set (i := 2) sc_law.nd rfl (by first | exact Or.inl rfl | exact Or.inr rfl) (pe_op (op_addB G.b.K rfl) pe_int (DL.pe_cal C__law_take hr (by first | decide | exact Nat.le_refl _ | omega) L2.pass0 (pa_cons (pv 1) (pa_cons pe_int pa_nil))))) (pss_cons (ps_if (pt_cmpR (op_eqDK G.b.K rfl hr.units) (DL.pe_cal C__law_take hr (by first | decide | exact Nat.le_refl _ | omega) L2.pass0 (pa_cons (pv 1) (pa_cons pe_int pa_nil))) pe_int (nomark _)) (pss_one (ps_set (i := 2) sc_law.nd rfl (by first | exact Or.inl rfl | exact Or.inr rfl) pe_int)) pss_nil) (pss_cons (ps_set (i := 3) sc_law.nd rfl (by first | exact Or.inl rfl | exact Or.inr rfl) (DL.pe_cal C__law_marks hr (by first | decide | exact Nat.le_refl _ | omega) L2.pass0 (pa_cons (pv 1) (pa_cons (pv 2) pa_nil)))) (pss_cons (ps_set (i := 4) sc_law.nd rfl (by first | exact Or.inl rfl | exact Or.inr rfl) (DL.pe_cal C__law_marks hr (by first | decide | exact Nat.le_refl _ | omega) L2.pass0 (pa_cons (pv 1) (pa_cons (pv 2) pa_nil)))) (pss_cons (ps_set (i := 5) sc_law.nd rfl (by first | exact Or.inl rfl | exact Or.inr rfl) (DL.pe_cal C__law_third hr (by first | decide | exact Nat.le_refl _ | omega) L2.pass0 (pa_cons (pv 1) (pa_cons (pv 3) (pa_cons (pv 4) pa_nil))))) (pss_cons (ps_set (i := 6) sc_law.nd rfl (by first | exact Or.inl rfl | exact Or.inr rfl) (DL.pe_calC C_Split hr (by first | decide | exact Nat.le_refl _ | omega) L2.passL (pa_cons (pe_callTy (call_listB G.b.K rfl) (by rfl) T.b_list (by decide +kernel) (pa_cons (pv 3) pa_nil)) pa_nil))) (pss_cons (ps_set (i := 7) sc_law.nd rfl (by first | exact Or.inl rfl | exact Or.inr rfl) (DL.pe_calC C_Split hr (by first | decide | exact Nat.le_refl _ | omega) L2.passL (pa_cons (pe_callTy (call_listB G.b.K rfl) (by rfl) T.b_list (by decide +kernel) (pa_cons (pv 4) pa_nil)) pa_nil))) (pss_cons (ps_set (i := 8) sc_law.nd rfl (by first | exact Or.inl rfl | exact Or.inr rfl) (DL.pe_calC C_Split hr (by first | decide | exact Nat.le_refl _ | omega) L2.passL (pa_cons (pe_callTy (call_listB G.b.K rfl) (by rfl) T.b_list (by decide +kernel) (pa_cons (pv 5) pa_nil)) pa_nil))) (pss_cons (ps_set (i := 9) sc_law.nd rfl (by first | exact Or.inl rfl | exact Or.inr rfl) (pe_op (op_addB G.b.K rfl) pe_int (pe_op op_mod (pe_op (op_addB G.b.K rfl) (pv 2) (DL.pe_cal C__law_take hr (by first | decide | exact Nat.le_refl _ | omega) L2.pass0 (pa_cons (pv 1) (pa_cons pe_int pa_nil)))) pe_int))) (pss_cons (ps_set (i := 10) sc_law.nd rfl (by first | exact Or.inl rfl | exact Or.inr rfl) (DL.pe_calC C_Split hr (by first | decide | exact Nat.le_refl _ | omega) L2.passL (pa_cons (DL.pe_cal C__law_marks hr (by first | decide | exact Nat.le_refl _ | omega) L2.pass0 (pa_cons (pv 1) (pa_cons (pv 9) pa_nil))) pa_nil))) (pss_cons (ps_set (i := 11) sc_law.nd rfl (by first | exact Or.inl rfl | exact Or.inr rfl) (pe_lst (pa_cons (DL.pe_cal C__law_low hr (by first | decide | exact Nat.le_refl _ | omega) L2.pass0 (pa_cons (pv 3) pa_nil)) (pa_cons (DL.pe_cal C__law_low hr (by first | decide | exact Nat.le_refl _ | omega) L2.pass0 (pa_cons (pv 4) pa_nil)) (pa_cons (DL.pe_cal C__law_low hr (by first | decide | exact Nat.le_refl _ | omega) L2.pass0 (pa_cons (pv 5) pa_nil)) pa_nil))))) (pss_cons (ps_set (i := 12) sc_law.nd rfl (by first | exact Or.inl rfl | exact Or.inr rfl) (DL.pe_cal C__law_meet hr (by first | decide | exact Nat.le_refl _ | omega) L2.pass0 (pa_cons (pv 3) (pa_cons (pv 4) pa_nil)))) (pss_cons (ps_set (i := 13) sc_law.nd rfl (by first | exact Or.inl rfl | exact Or.inr rfl) (DL.pe_cal C__law_join hr (by first | decide | exact Nat.le_refl _ | omega) L2.pass0 (pa_cons (pv 3) (pa_cons (pv 4) pa_nil)))) (pss_cons (ps_set (i := 14) sc_law.nd rfl (by first | exact Or.inl rfl | exact Or.inr rfl) (pe_op (op_addB G.b.K rfl) (pv 11) (pe_lst (pa_cons (pv 12) (pa_cons (pv 13) (pa_cons (pe_op op_mulB (pe_lst (pa_cons pe_int pa_nil)) (pv 2)) (pa_cons (pe_listRg rfl (by rfl) T.b_list (prg_1 (by rfl) T.b_range (pv 2))) (pa_cons (pv 12) (pa_cons (pv 13) pa_nil))))))))) (pss_cons (ps_set (i := 15) sc_law.nd rfl (by first | exact Or.inl rfl | exact Or.inr rfl) (pe_lst (pa_cons (pv 6) (pa_cons (pv 7) (pa_cons (pv 8) (pa_cons (pe_op (op_binCK G.b.K rfl C_Split___and__ L2.passL hr (by first | decide | exact Nat.le_refl _ | omega)) (pv 6) (pv 7)) (pa_cons (pe_op (op_binCK G.b.K rfl C_Split___or__ L2.passL hr (by first | decide | exact Nat.le_refl _ | omega)) (pv 6) (pv 7)) (pa_cons (DL.pe_calC C_Split hr (by first | decide | exact Nat.le_refl _ | omega) L2.passL (pa_cons (pe_op op_mulB (pe_lst (pa_cons pe_int pa_nil)) (pv 2)) pa_nil)) (pa_cons (DL.pe_calC C_Split hr (by first | decide | exact Nat.le_refl _ | omega) L2.passL (pa_cons (pe_listRg rfl (by rfl) T.b_list (prg_1 (by rfl) T.b_range (pv 2))) pa_nil)) pa_nil))))))))) (pss_cons (ps_set (i := 15) sc_law.nd rfl (by first | exact Or.inl rfl | exact Or.inr rfl) (pe_op (op_addB G.b.K rfl) (pv 15) (pe_lst (pa_cons (pe_op (op_binCK G.b.K rfl C_Split___and__ L2.passL hr (by first | decide | exact Nat.le_refl _ | omega)) (pv 7) (pv 6)) (pa_cons (pe_op (op_binCK G.b.K rfl C_Split___or__ L2.passL hr (by first | decide | exact Nat.le_refl _ | omega)) (pv 7) (pv 6)) pa_nil))))) (pss_cons (ps_if (pt_not (pt_val (DL.pe_cal C__law_shown hr (by first | decide | exact Nat.le_refl _ | omega) L2.pass0 (pa_cons (pv 15) (pa_cons (pv 14) pa_nil))))) (pss_one (ps_ret pe_bl)) pss_nil) (pss_cons (ps_for PassesOwn.never rfl (pi_range1 (by rfl) T.b_range (pa_cons pe_int pa_nil)) (pg_name (i := 16) sc_law.nd rfl (by first | exact Or.inl rfl | exact Or.inr rfl)) (pss_cons (ps_setLc (i := 17) (own := [("split", 18)]) rfl sc_law.nd rfl rfl (sw_true rfl rfl rfl (by decide +kernel)) (pi_seq G.b.K rfl (pv 15)) (blkOk_by (by first | decide +kernel | kernel_rfl)) (fun _ _ _ _ _ => (pg_name (i := 18) sc_law.nd rfl (by first | exact Or.inl rfl | exact Or.inr rfl))) (fun _ _ _ _ _ => pts_nil) (fun _ _ _ _ _ => (DL.pe_calM C_Split_finer hr (by first | decide | exact Nat.le_refl _ | omega) L2.passL (pe_ix (DL.ix_seqK G.b.K rfl) (pv 15) (pv 16) (fun _ _ => rfl)) (pa_cons (pv 18) pa_nil)))) (pss_one (ps_if (pt_not (pt_val (DL.pe_cal C__law_same hr (by first | decide | exact Nat.le_refl _ | omega) L2.pass0 (pa_cons (pv 17) (pa_cons (pe_lc (own := [("row", 19)]) rfl sc_law.nd (pi_seq G.b.K rfl (pv 14)) (blkOk_by (by first | decide +kernel | kernel_rfl)) (fun _ _ _ _ _ => (pg_name (i := 19) sc_law.nd rfl (by first | exact Or.inl rfl | exact Or.inr rfl))) (fun _ _ _ _ _ => pts_nil) (fun _ _ _ _ _ => (DL.pe_cal C__law_finer hr (by first | decide | exact Nat.le_refl _ | omega) L2.pass0 (pa_cons (pe_ix (DL.ix_seqK G.b.K rfl) (pv 14) (pv 16) (fun _ _ => rfl)) (pa_cons (pv 19) pa_nil))))) pa_nil))))) (pss_one (ps_ret pe_bl)) pss_nil)))) (pss_cons (ps_set (i := 20) sc_law.nd rfl (by first | exact Or.inl rfl | exact Or.inr rfl) (pe_lst (pa_cons (pe_op (op_binCK G.b.K rfl C_Split___or__ L2.passL hr (by first | decide | exact Nat.le_refl _ | omega)) (pe_op (op_binCK G.b.K rfl C_Split___and__ L2.passL hr (by first | decide | exact Nat.le_refl _ | omega)) (pv 6) (pv 7)) (pv 8)) (pa_cons (pe_op (op_binCK G.b.K rfl C_Split___and__ L2.passL hr (by first | decide | exact Nat.le_refl _ | omega)) (pe_op (op_binCK G.b.K rfl C_Split___or__ L2.passL hr (by first | decide | exact Nat.le_refl _ | omega)) (pv 6) (pv 7)) (pv 8)) (pa_cons (pe_op (op_binCK G.b.K rfl C_Split___and__ L2.passL hr (by first | decide | exact Nat.le_refl _ | omega)) (pv 8) (pe_op (op_binCK G.b.K rfl C_Split___and__ L2.passL hr (by first | decide | exact Nat.le_refl _ | omega)) (pv 6) (pv 7))) (pa_cons (pe_op (op_binCK G.b.K rfl C_Split___or__ L2.passL hr (by first | decide | exact Nat.le_refl _ | omega)) (pv 8) (pe_op (op_binCK G.b.K rfl C_Split___or__ L2.passL hr (by first | decide | exact Nat.le_refl _ | omega)) (pv 7) (pv 6))) pa_nil)))))) (pss_cons (ps_set (i := 20) sc_law.nd rfl (by first | exact Or.inl rfl | exact Or.inr rfl) (pe_op (op_addB G.b.K rfl) (pv 20) (pe_lst (pa_cons (pe_op (op_binCK G.b.K rfl C_Split___and__ L2.passL hr (by first | decide | exact Nat.le_refl _ | omega)) (pv 6) (pv 6)) (pa_cons (pe_op (op_binCK G.b.K rfl C_Split___or__ L2.passL hr (by first | decide | exact Nat.le_refl _ | omega)) (pv 7) (pv 7)) pa_nil))))) (pss_cons (ps_set (i := 21) sc_law.nd rfl (by first | exact Or.inl rfl | exact Or.inr rfl) (pe_lst (pa_cons (DL.pe_cal C__law_join hr (by first | decide | exact Nat.le_refl _ | omega) L2.pass0 (pa_cons (pv 12) (pa_cons (pe_ix (DL.ix_seqK G.b.K rfl) (pv 11) pe_int (fun _ _ => rfl)) pa_nil))) (pa_cons (DL.pe_cal C__law_meet hr (by first | decide | exact Nat.le_refl _ | omega) L2.pass0 (pa_cons (pv 13) (pa_cons (pe_ix (DL.ix_seqK G.b.K rfl) (pv 11) pe_int (fun _ _ => rfl)) pa_nil))) (pa_cons (DL.pe_cal C__law_meet hr (by first | decide | exact Nat.le_refl _ | omega) L2.pass0 (pa_cons (pe_ix (DL.ix_seqK G.b.K rfl) (pv 11) pe_int (fun _ _ => rfl)) (pa_cons (pv 12) pa_nil))) (pa_cons (DL.pe_cal C__law_join hr (by first | decide | exact Nat.le_refl _ | omega) L2.pass0 (pa_cons (pe_ix (DL.ix_seqK G.b.K rfl) (pv 11) pe_int (fun _ _ => rfl)) (pa_cons (pv 13) pa_nil))) pa_nil)))))) (pss_cons (ps_if (pt_not (pt_val (DL.pe_cal C__law_shown hr (by first | decide | exact Nat.le_refl _ | omega) L2.pass0 (pa_cons (pv 20) (pa_cons (pe_op (op_addB G.b.K rfl) (pv 21) (pe_lst (pa_cons (pe_ix (DL.ix_seqK G.b.K rfl) (pv 11) pe_int (fun _ _ => rfl)) (pa_cons (pe_ix (DL.ix_seqK G.b.K rfl) (pv 11) pe_int (fun _ _ => rfl)) pa_nil)))) pa_nil))))) (pss_one (ps_ret pe_bl)) pss_nil) (pss_cons (ps_set (i := 22) sc_law.nd rfl (by first | exact Or.inl rfl | exact Or.inr rfl) (pe_lst (pa_cons (pe_cmpR (op_eqC G.b.K rfl C_Split___eq__ hr (by first | decide | exact Nat.le_refl _ | omega)) (pe_ix (DL.ix_seqK G.b.K rfl) (pv 15) pe_int (fun _ _ => rfl)) (pe_ix (DL.ix_seqK G.b.K rfl) (pv 15) pe_int (fun _ _ => rfl)) (nomark _)) (pa_cons (pe_cmpR (op_eqC G.b.K rfl C_Split___eq__ hr (by first | decide | exact Nat.le_refl _ | omega)) (pe_ix (DL.ix_seqK G.b.K rfl) (pv 15) pe_int (fun _ _ => rfl)) (pe_ix (DL.ix_seqK G.b.K rfl) (pv 15) pe_int (fun _ _ => rfl)) (nomark _)) (pa_cons (pe_cmpR (op_eqC G.b.K rfl C_Split___eq__ hr (by first | decide | exact Nat.le_refl _ | omega)) (pe_ix (DL.ix_seqK G.b.K rfl) (pv 15) pe_int (fun _ _ => rfl)) (pe_ix (DL.ix_seqK G.b.K rfl) (pv 15) pe_int (fun _ _ => rfl)) (nomark _)) pa_nil))))) (pss_cons (ps_if (pt_not (pt_val (DL.pe_cal C__law_same hr (by first | decide | exact Nat.le_refl _ | omega) L2.pass0 (pa_cons (pv 22) (pa_cons (pe_lst (pa_cons pe_bl (pa_cons pe_bl (pa_cons (pe_cmpR (op_eqDK G.b.K rfl hr.units) (pv 12) (pv 13) (nomark _)) pa_nil)))) pa_nil))))) (pss_one (ps_ret pe_bl)) pss_nil) (pss_one (ps_ret (pe_and (DL.pe_cal C__law_refused hr (by first | decide | exact Nat.le_refl _ | omega) L2.pass0 (pa_cons (pv 6) (pa_cons (pv 10) (pa_cons (pv 2) (pa_cons (pv 9) pa_nil))))) (pe_one (DL.pe_cal C__law_shown hr (by first | decide | exact Nat.le_refl _ | omega) L2.pass0 (pa_cons (pv 15) (pa_cons (pv 14) pa_nil)))))))))))))))))))))))))))))))), (ss_seq (ss_asg (se_call0 (san_cons (se_var (i := 0)) san_nil))) (ss_seq (ss_asg (se_op g_add se_int (se_call0 (san_cons (se_var (i := 1)) (san_cons se_int san_nil))))) (ss_seq (ss_if (st_test (se_op g_eqD (se_call0 (san_cons (se_var (i := 1)) (san_cons se_int san_nil))) se_int)) (ss_asg se_int) ss_nop) (ss_seq (ss_asg (se_call0 (san_cons (se_var (i := 1)) (san_cons (se_var (i := 2)) san_nil)))) (ss_seq (ss_asg (se_call0 (san_cons (se_var (i := 1)) (san_cons (se_var (i := 2)) san_nil)))) (ss_seq (ss_asg (se_call0 (san_cons (se_var (i := 1)) (san_cons (se_var (i := 3)) (san_cons (se_var (i := 4)) san_nil))))) (ss_seq (ss_asg (se_make0 (C := 33) (san_cons (se_cb g_list (san_cons (se_var (i := 3)) san_nil).1) san_nil))) (ss_seq (ss_asg (se_make0 (C := 33) (san_cons (se_cb g_list (san_cons (se_var (i := 4)) san_nil).1) san_nil))) (ss_seq (ss_asg (se_make0 (C := 33) (san_cons (se_cb g_list (san_cons (se_var (i := 5)) san_nil).1) san_nil))) (ss_seq (ss_asg (se_op g_add se_int (se_op g_mod (se_op g_add (se_var (i := 2)) (se_call0 (san_cons (se_var (i := 1)) (san_cons se_int san_nil)))) se_int))) (ss_seq (ss_asg (se_make0 (C := 33) (san_cons (se_call0 (san_cons (se_var (i := 1)) (san_cons (se_var (i := 9)) san_nil))) san_nil))) (ss_seq (ss_asg (se_lst (san_cons (se_call0 (san_cons (se_var (i := 3)) san_nil)) (san_cons (se_call0 (san_cons (se_var (i := 4)) san_nil)) (san_cons (se_call0 (san_cons (se_var (i := 5)) san_nil)) san_nil))).1)) (ss_seq (ss_asg (se_call0 (san_cons (se_var (i := 3)) (san_cons (se_var (i := 4)) san_nil)))) (ss_seq (ss_asg (se_call0 (san_cons (se_var (i := 3)) (san_cons (se_var (i := 4)) san_nil)))) (ss_seq (ss_asg (se_op g_add (se_var (i := 11)) (se_lst (san_cons (se_var (i := 12)) (san_cons (se_var (i := 13)) (san_cons (se_op g_mul (se_lst (san_cons se_int san_nil).1) (se_var (i := 2))) (san_cons (se_listR1 (se_var (i := 2))) (san_cons (se_var (i := 12)) (san_cons (se_var (i := 13)) san_nil)))))).1))) (ss_seq (ss_asg (se_lst (san_cons (se_var (i := 6)) (san_cons (se_var (i := 7)) (san_cons (se_var (i := 8)) (san_cons (se_opR (g_obin0 T.ins_Split) (se_var (i := 6)) (se_var (i := 7))) (san_cons (se_opR (g_obin0 T.ins_Split) (se_var (i := 6)) (se_var (i := 7))) (san_cons (se_make0 (C := 33) (san_cons (se_op g_mul (se_lst (san_cons se_int san_nil).1) (se_var (i := 2))) san_nil)) (san_cons (se_make0 (C := 33) (san_cons (se_listR1 (se_var (i := 2))) san_nil)) san_nil))))))).1)) (ss_seq (ss_asg (se_op g_add (se_var (i := 15)) (se_lst (san_cons (se_opR (g_obin0 T.ins_Split) (se_var (i := 7)) (se_var (i := 6))) (san_cons (se_opR (g_obin0 T.ins_Split) (se_var (i := 7)) (se_var (i := 6))) san_nil)).1))) (ss_seq (ss_if (st_not (st_B (se_call0 (san_cons (se_var (i := 15)) (san_cons (se_var (i := 14)) san_nil))))) (ss_ret se_bl) ss_nop) (ss_seq (ss_for (si_r1 (san_cons se_int san_nil).1) (sg_name (i := 16)) (ss_seq (ss_asg (se_lc (vs := [18]) (si_seq (se_var (i := 15))) (sg_name (i := 18)) (own_name (by simp)) st_yes (se_meth0 (C := 33) (se_op g_ix (se_var (i := 15)) (se_var (i := 16))) (san_cons (se_var (i := 18)) san_nil) T.n_finer))) (ss_if (st_not (st_B (se_call0 (san_cons (se_var (i := 17)) (san_cons (se_lc (vs := [19]) (si_seq (se_var (i := 14))) (sg_name (i := 19)) (own_name (by simp)) st_yes (se_call0 (san_cons (se_op g_ix (se_var (i := 14)) (se_var (i := 16))) (san_cons (se_var (i := 19)) san_nil)))) san_nil))))) (ss_ret se_bl) ss_nop))) (ss_seq (ss_asg (se_lst (san_cons (se_opR (g_obin0 T.ins_Split) (se_opR (g_obin0 T.ins_Split) (se_var (i := 6)) (se_var (i := 7))) (se_var (i := 8))) (san_cons (se_opR (g_obin0 T.ins_Split) (se_opR (g_obin0 T.ins_Split) (se_var (i := 6)) (se_var (i := 7))) (se_var (i := 8))) (san_cons (se_opR (g_obin0 T.ins_Split) (se_var (i := 8)) (se_opR (g_obin0 T.ins_Split) (se_var (i := 6)) (se_var (i := 7)))) (san_cons (se_opR (g_obin0 T.ins_Split) (se_var (i := 8)) (se_opR (g_obin0 T.ins_Split) (se_var (i := 7)) (se_var (i := 6)))) san_nil)))).1)) (ss_seq (ss_asg (se_op g_add (se_var (i := 20)) (se_lst (san_cons (se_opR (g_obin0 T.ins_Split) (se_var (i := 6)) (se_var (i := 6))) (san_cons (se_opR (g_obin0 T.ins_Split) (se_var (i := 7)) (se_var (i := 7))) san_nil)).1))) (ss_seq (ss_asg (se_lst (san_cons (se_call0 (san_cons (se_var (i := 12)) (san_cons (se_op g_ix (se_var (i := 11)) se_int) san_nil))) (san_cons (se_call0 (san_cons (se_var (i := 13)) (san_cons (se_op g_ix (se_var (i := 11)) se_int) san_nil))) (san_cons (se_call0 (san_cons (se_op g_ix (se_var (i := 11)) se_int) (san_cons (se_var (i := 12)) san_nil))) (san_cons (se_call0 (san_cons (se_op g_ix (se_var (i := 11)) se_int) (san_cons (se_var (i := 13)) san_nil))) san_nil)))).1)) (ss_seq (ss_if (st_not (st_B (se_call0 (san_cons (se_var (i := 20)) (san_cons (se_op g_add (se_var (i := 21)) (se_lst (san_cons (se_op g_ix (se_var (i := 11)) se_int) (san_cons (se_op g_ix (se_var (i := 11)) se_int) san_nil)).1)) san_nil))))) (ss_ret se_bl) ss_nop) (ss_seq (ss_asg (se_lst (san_cons (se_opR (g_oeq T.nf_Split) (se_op g_ix (se_var (i := 15)) se_int) (se_op g_ix (se_var (i := 15)) se_int)) (san_cons (se_opR (g_oeq T.nf_Split) (se_op g_ix (se_var (i := 15)) se_int) (se_op g_ix (se_var (i := 15)) se_int)) (san_cons (se_opR (g_oeq T.nf_Split) (se_op g_ix (se_var (i := 15)) se_int) (se_op g_ix (se_var (i := 15)) se_int)) san_nil))).1)) (ss_seq (ss_if (st_not (st_B (se_call0 (san_cons (se_var (i := 22)) (san_cons (se_lst (san_cons se_bl (san_cons se_bl (san_cons (se_op g_eqD (se_var (i := 12)) (se_var (i := 13))) san_nil))).1) san_nil))))) (ss_ret se_bl) ss_nop) (ss_ret (se_andV (se_call0 (san_cons (se_var (i := 6)) (san_cons (se_var (i := 10)) (san_cons (se_var (i := 2)) (san_cons (se_var (i := 9)) san_nil))))) (se_call0 (san_cons (se_var (i := 15)) (san_cons (se_var (i := 14)) san_nil))))))))))))))))))))))))))))))⟩

end
end K


namespace K
open PySem L2 PySem.Spec PyProof.Rows ML DL
section
variable {P : Program} {w : World} {K : PySem.W.Frag} {mg : Str → Option Value} {base : Heap}
abbrev st_BadSize___init__ : Stmt := inClass (top 3) 0
theorem xcal_BadSize {C fI cc cda : Addr} {fd : FuncData} (T : XInit P K mg C fI cc cda "BadSize.__init__" (defArgs st_BadSize___init__) (defBody st_BadSize___init__) (defScope st_BadSize___init__) fd) (hx : mg "BadSize" = some (.ref C)) (hf0 : PySem.W.findIn K (.ref C) "size" = some none) : XCal P w K mg base "BadSize" C ["size"] := by
  refine ⟨fI, fd, hx, T.oex, T.iC, T.tI, ?_, ?_⟩
  · obtain ⟨oc, od, kV, doc, pm, ct, an, osl, _, rfl⟩ := T.fn
    exact .all fun us hl => match us, hl with | [_, _], _ => rfl
  · refine xi1 (f := "size") T (NdefX.nscope_by (by decide +kernel)) rfl rfl rfl hf0 (by decide) (by decide) (fun A' outer s H E => pe_joined (.cons pe_str (.cons (pe_fmt (pv 1)) (.cons pe_str .nil)))) fun σ H v1 hv1 ha1 Q k => js_ok (fun t ht => ?_) (by decide) fun out => k out
    simp only [List.mem_cons, List.not_mem_nil, or_false] at ht
    rcases ht with rfl | rfl | rfl
    · exact gs_c (by decide)
    · exact gs_fmt hv1 ha1
    · exact gs_c (by decide)
abbrev st_UnknownCase___init__ : Stmt := inClass (top 4) 0
theorem xcal_UnknownCase {C fI cc cda : Addr} {fd : FuncData} (T : XInit P K mg C fI cc cda "UnknownCase.__init__" (defArgs st_UnknownCase___init__) (defBody st_UnknownCase___init__) (defScope st_UnknownCase___init__) fd) (hx : mg "UnknownCase" = some (.ref C)) (hf0 : PySem.W.findIn K (.ref C) "case" = some none) : XCal P w K mg base "UnknownCase" C ["case"] := by
  refine ⟨fI, fd, hx, T.oex, T.iC, T.tI, ?_, ?_⟩
  · obtain ⟨oc, od, kV, doc, pm, ct, an, osl, _, rfl⟩ := T.fn
    exact .all fun us hl => match us, hl with | [_, _], _ => rfl
  · refine xi1 (f := "case") T (NdefX.nscope_by (by decide +kernel)) rfl rfl rfl hf0 (by decide) (by decide) (fun A' outer s H E => pe_joined (.cons pe_str (.cons (pe_fmt (pv 1)) .nil))) fun σ H v1 hv1 ha1 Q k => js_ok (fun t ht => ?_) (by decide) fun out => k out
    simp only [List.mem_cons, List.not_mem_nil, or_false] at ht
    rcases ht with rfl | rfl
    · exact gs_c (by decide)
    · exact gs_fmt hv1 ha1
abbrev st_SizeMismatch___init__ : Stmt := inClass (top 5) 0
theorem xcal_SizeMismatch {C fI cc cda : Addr} {fd : FuncData} (T : XInit P K mg C fI cc cda "SizeMismatch.__init__" (defArgs st_SizeMismatch___init__) (defBody st_SizeMismatch___init__) (defScope st_SizeMismatch___init__) fd) (hx : mg "SizeMismatch" = some (.ref C)) (hf0 : PySem.W.findIn K (.ref C) "first" = some none) (hf1 : PySem.W.findIn K (.ref C) "second" = some none) : XCal P w K mg base "SizeMismatch" C ["first", "second"] := by
  refine ⟨fI, fd, hx, T.oex, T.iC, T.tI, ?_, ?_⟩
  · obtain ⟨oc, od, kV, doc, pm, ct, an, osl, _, rfl⟩ := T.fn
    exact .all fun us hl => match us, hl with | [_, _, _], _ => rfl
  · refine xi2 (f := "first") (f2 := "second") T (NdefX.nscope_by (by decide +kernel)) rfl rfl rfl hf0 hf1 (by decide) (by decide) (by decide) (by decide) (fun A' outer s H E => pe_joined (.cons pe_str (.cons (pe_fmt (pv 1)) (.cons pe_str (.cons (pe_fmt (pv 2)) (.cons pe_str .nil)))))) fun σ H v1 v2 hv1 hv2 ha1 ha2 Q k => js_ok (fun t ht => ?_) (by decide) fun out => k out
    simp only [List.mem_cons, List.not_mem_nil, or_false] at ht
    rcases ht with rfl | rfl | rfl | rfl | rfl
    · exact gs_c (by decide)
    · exact gs_fmt hv1 ha1
    · exact gs_c (by decide)
    · exact gs_fmt hv2 ha2
    · exact gs_c (by decide)
end
end K


namespace K
open PySem L2 PySem.Spec PyProof.Rows ML DL
abbrev GG (K : PySem.W.Frag) (cThinwallError cBadSize cUnknownCase cSizeMismatch cSplit : Addr) (Tl : List (Addr × Str)) : Ct := ⟨⟨K, fun n => match n with | 0 => cThinwallError | 1 => cBadSize | 2 => cUnknownCase | 3 => cSizeMismatch | 33 => cSplit | _ => cThinwallError, nmOf NAMES, nm_inj⟩, TabMap Tl, 0, 0, 0⟩
theorem all_mk (SPEC : ∀ l : List Int, f_law [.fr (.rol (l.map .int))] [] = some (.ret (.fr (.bl true)) [])) {l : PySem.W.OpenLaw} {w : World} {K : PySem.W.Frag} {h : Heap} {mg : Str → Option Value} {fa : Addr} (X : K.In h) (G0 : h.Ns mainGlobals mg) (hfa : mg "law" = some (.ref fa))
    {cThinwallError cBadSize cUnknownCase cSizeMismatch cSplit f1 f2 f3 f4 f5 f6 f7 f8 f9 f10 f11 f12 f13 f14 f15 f16 f17 f18 f19 f20 f21 cR22 pR22 f22 f23 f24 f25 f26 nnBadSize fiBadSize ccBadSize caBadSize nnUnknownCase fiUnknownCase ccUnknownCase caUnknownCase nnSizeMismatch fiSizeMismatch ccSizeMismatch caSizeMismatch : Addr} {od1 an1 od2 an2 od3 an3 od4 an4 od5 an5 od6 an6 od7 an7 od8 an8 od9 an9 od10 an10 od11 an11 od12 an12 od13 an13 od14 an14 od15 an15 od16 an16 od17 an17 od18 an18 od19 an19 od20 an20 od21 an21 od22 an22 od23 an23 od24 an24 od25 an25 od26 an26 ddBadSize odBadSize anBadSize cldBadSize cddBadSize ddUnknownCase odUnknownCase anUnknownCase cldUnknownCase cddUnknownCase ddSizeMismatch odSizeMismatch anSizeMismatch cldSizeMismatch cddSizeMismatch dR22 : Option Addr} {sl1 sl2 sl3 sl4 sl5 sl6 sl7 sl8 sl9 sl10 sl11 sl12 sl13 sl14 sl15 sl16 sl17 sl18 sl19 sl20 sl21 sl22 sl23 sl24 sl25 sl26 slBadSize csBadSize ccsBadSize slUnknownCase csUnknownCase ccsUnknownCase slSizeMismatch csSizeMismatch ccsSizeMismatch sR22 : Array (Option Value)} {oc1 kV1 dc1 pm1 ct1 cd1 oc2 kV2 dc2 pm2 ct2 cd2 oc3 kV3 dc3 pm3 ct3 cd3 oc4 kV4 dc4 pm4 ct4 cd4 oc5 kV5 dc5 pm5 ct5 cd5 oc6 kV6 dc6 pm6 ct6 cd6 oc7 kV7 dc7 pm7 ct7 cd7 oc8 kV8 dc8 pm8 ct8 cd8 oc9 kV9 dc9 pm9 ct9 cd9 oc10 kV10 dc10 pm10 ct10 cd10 oc11 kV11 dc11 pm11 ct11 cd11 oc12 kV12 dc12 pm12 ct12 cd12 oc13 kV13 dc13 pm13 ct13 cd13 oc14 kV14 dc14 pm14 ct14 cd14 oc15 kV15 dc15 pm15 ct15 cd15 oc16 kV16 dc16 pm16 ct16 cd16 oc17 kV17 dc17 pm17 ct17 cd17 oc18 kV18 dc18 pm18 ct18 cd18 oc19 kV19 dc19 pm19 ct19 cd19 oc20 kV20 dc20 pm20 ct20 cd20 oc21 kV21 dc21 pm21 ct21 cd21 oc22 kV22 dc22 pm22 ct22 oc23 kV23 dc23 pm23 ct23 cd23 oc24 kV24 dc24 pm24 ct24 cd24 oc25 kV25 dc25 pm25 ct25 cd25 oc26 kV26 dc26 pm26 ct26 cd26 ocBadSize kVBadSize dcBadSize pmBadSize ctBadSize cellBadSize cclBadSize ocUnknownCase kVUnknownCase dcUnknownCase pmUnknownCase ctUnknownCase cellUnknownCase cclUnknownCase ocSizeMismatch kVSizeMismatch dcSizeMismatch pmSizeMismatch ctSizeMismatch cellSizeMismatch cclSizeMismatch eR22 : Value} {tkSplitMOST tfBadSize tfUnknownCase tfSizeMismatch : Tok}
    {nmBadSize qnBadSize flBadSize nmUnknownCase qnUnknownCase flUnknownCase nmSizeMismatch qnSizeMismatch flSizeMismatch : Str} {snBadSize : List Str} {bsBadSize : List Value} {sbBadSize : List Value} {vsBadSize : Array Value} {snUnknownCase : List Str} {bsUnknownCase : List Value} {sbUnknownCase : List Value} {vsUnknownCase : Array Value} {snSizeMismatch : List Str} {bsSizeMismatch : List Value} {sbSizeMismatch : List Value} {vsSizeMismatch : Array Value} {vR22 : Array Value} {abBadSize abUnknownCase abSizeMismatch : Bool} {clBadSize clUnknownCase clSizeMismatch : Option Bool} {m0BadSize m1BadSize m2BadSize m3BadSize m5BadSize m0UnknownCase m1UnknownCase m2UnknownCase m3UnknownCase m5UnknownCase m0SizeMismatch m1SizeMismatch m2SizeMismatch m3SizeMismatch m5SizeMismatch : Option Value}
    (gThinwallError : PySem.W.nsIn K mainGlobals "ThinwallError" = some (some (.ref cThinwallError)))
    (gBadSize : PySem.W.nsIn K mainGlobals "BadSize" = some (some (.ref cBadSize)))
    (gUnknownCase : PySem.W.nsIn K mainGlobals "UnknownCase" = some (some (.ref cUnknownCase)))
    (gSizeMismatch : PySem.W.nsIn K mainGlobals "SizeMismatch" = some (some (.ref cSizeMismatch)))
    (gSplit : PySem.W.nsIn K mainGlobals "Split" = some (some (.ref cSplit)))
    (a1 : PySem.W.nsIn K mainGlobals "least_marks" = some (some (.ref f1)))
    (l1 : K.lookup f1 = some ⟨oc1, od1, .func (PySem.W.fnOf "least_marks" "least_marks" (defArgs st_least_marks) (defBody st_least_marks) (defScope st_least_marks) .none kV1 dc1 pm1 an1 cd1 ct1), sl1⟩)
    (cq1 : PySem.W.codeIn K cd1 "least_marks" = true)
    (k1 : PySem.W.keepIn K (.ref f1) = true)
    (a2 : PySem.W.nsIn K mainGlobals "check_size" = some (some (.ref f2)))
    (l2 : K.lookup f2 = some ⟨oc2, od2, .func (PySem.W.fnOf "check_size" "check_size" (defArgs st_check_size) (defBody st_check_size) (defScope st_check_size) .none kV2 dc2 pm2 an2 cd2 ct2), sl2⟩)
    (cq2 : PySem.W.codeIn K cd2 "check_size" = true)
    (k2 : PySem.W.keepIn K (.ref f2) = true)
    (a3 : PySem.W.findIn K (.ref cSplit) "__init__" = some (some (.ref f3)))
    (i3 : PySem.W.isFn K (.ref f3) = true)
    (l3 : K.lookup f3 = some ⟨oc3, od3, .func (PySem.W.fnOf "__init__" "Split.__init__" (defArgs st_Split___init__) (defBody st_Split___init__) (defScope st_Split___init__) .none kV3 dc3 pm3 an3 cd3 ct3), sl3⟩)
    (cq3 : PySem.W.codeIn K cd3 "Split.__init__" = true)
    (k3 : PySem.W.keepIn K (.ref f3) = true)
    (a4 : PySem.W.nsIn K mainGlobals "check_sizes" = some (some (.ref f4)))
    (l4 : K.lookup f4 = some ⟨oc4, od4, .func (PySem.W.fnOf "check_sizes" "check_sizes" (defArgs st_check_sizes) (defBody st_check_sizes) (defScope st_check_sizes) .none kV4 dc4 pm4 an4 cd4 ct4), sl4⟩)
    (cq4 : PySem.W.codeIn K cd4 "check_sizes" = true)
    (k4 : PySem.W.keepIn K (.ref f4) = true)
    (a5 : PySem.W.nsIn K mainGlobals "check_within" = some (some (.ref f5)))
    (l5 : K.lookup f5 = some ⟨oc5, od5, .func (PySem.W.fnOf "check_within" "check_within" (defArgs st_check_within) (defBody st_check_within) (defScope st_check_within) .none kV5 dc5 pm5 an5 cd5 ct5), sl5⟩)
    (cq5 : PySem.W.codeIn K cd5 "check_within" = true)
    (k5 : PySem.W.keepIn K (.ref f5) = true)
    (a6 : PySem.W.findIn K (.ref cSplit) "together" = some (some (.ref f6)))
    (i6 : PySem.W.isFn K (.ref f6) = true)
    (l6 : K.lookup f6 = some ⟨oc6, od6, .func (PySem.W.fnOf "together" "Split.together" (defArgs st_Split_together) (defBody st_Split_together) (defScope st_Split_together) .none kV6 dc6 pm6 an6 cd6 ct6), sl6⟩)
    (cq6 : PySem.W.codeIn K cd6 "Split.together" = true)
    (k6 : PySem.W.keepIn K (.ref f6) = true)
    (a7 : PySem.W.findIn K (.ref cSplit) "finer" = some (some (.ref f7)))
    (i7 : PySem.W.isFn K (.ref f7) = true)
    (l7 : K.lookup f7 = some ⟨oc7, od7, .func (PySem.W.fnOf "finer" "Split.finer" (defArgs st_Split_finer) (defBody st_Split_finer) (defScope st_Split_finer) .none kV7 dc7 pm7 an7 cd7 ct7), sl7⟩)
    (cq7 : PySem.W.codeIn K cd7 "Split.finer" = true)
    (k7 : PySem.W.keepIn K (.ref f7) = true)
    (a8 : PySem.W.findIn K (.ref cSplit) "__eq__" = some (some (.ref f8)))
    (i8 : PySem.W.isFn K (.ref f8) = true)
    (l8 : K.lookup f8 = some ⟨oc8, od8, .func (PySem.W.fnOf "__eq__" "Split.__eq__" (defArgs st_Split___eq__) (defBody st_Split___eq__) (defScope st_Split___eq__) .none kV8 dc8 pm8 an8 cd8 ct8), sl8⟩)
    (cq8 : PySem.W.codeIn K cd8 "Split.__eq__" = true)
    (k8 : PySem.W.keepIn K (.ref f8) = true)
    (a9 : PySem.W.nsIn K mainGlobals "together_marks" = some (some (.ref f9)))
    (l9 : K.lookup f9 = some ⟨oc9, od9, .func (PySem.W.fnOf "together_marks" "together_marks" (defArgs st_together_marks) (defBody st_together_marks) (defScope st_together_marks) .none kV9 dc9 pm9 an9 cd9 ct9), sl9⟩)
    (cq9 : PySem.W.codeIn K cd9 "together_marks" = true)
    (k9 : PySem.W.keepIn K (.ref f9) = true)
    (a10 : PySem.W.findIn K (.ref cSplit) "__and__" = some (some (.ref f10)))
    (i10 : PySem.W.isFn K (.ref f10) = true)
    (l10 : K.lookup f10 = some ⟨oc10, od10, .func (PySem.W.fnOf "__and__" "Split.__and__" (defArgs st_Split___and__) (defBody st_Split___and__) (defScope st_Split___and__) .none kV10 dc10 pm10 an10 cd10 ct10), sl10⟩)
    (cq10 : PySem.W.codeIn K cd10 "Split.__and__" = true)
    (k10 : PySem.W.keepIn K (.ref f10) = true)
    (a11 : PySem.W.nsIn K mainGlobals "joined_marks" = some (some (.ref f11)))
    (l11 : K.lookup f11 = some ⟨oc11, od11, .func (PySem.W.fnOf "joined_marks" "joined_marks" (defArgs st_joined_marks) (defBody st_joined_marks) (defScope st_joined_marks) .none kV11 dc11 pm11 an11 cd11 ct11), sl11⟩)
    (cq11 : PySem.W.codeIn K cd11 "joined_marks" = true)
    (k11 : PySem.W.keepIn K (.ref f11) = true)
    (a12 : PySem.W.findIn K (.ref cSplit) "__or__" = some (some (.ref f12)))
    (i12 : PySem.W.isFn K (.ref f12) = true)
    (l12 : K.lookup f12 = some ⟨oc12, od12, .func (PySem.W.fnOf "__or__" "Split.__or__" (defArgs st_Split___or__) (defBody st_Split___or__) (defScope st_Split___or__) .none kV12 dc12 pm12 an12 cd12 ct12), sl12⟩)
    (cq12 : PySem.W.codeIn K cd12 "Split.__or__" = true)
    (k12 : PySem.W.keepIn K (.ref f12) = true)
    (a13 : PySem.W.nsIn K mainGlobals "_law_start" = some (some (.ref f13)))
    (l13 : K.lookup f13 = some ⟨oc13, od13, .func (PySem.W.fnOf "_law_start" "_law_start" (defArgs st__law_start) (defBody st__law_start) (defScope st__law_start) .none kV13 dc13 pm13 an13 cd13 ct13), sl13⟩)
    (cq13 : PySem.W.codeIn K cd13 "_law_start" = true)
    (k13 : PySem.W.keepIn K (.ref f13) = true)
    (a14 : PySem.W.nsIn K mainGlobals "_law_take" = some (some (.ref f14)))
    (l14 : K.lookup f14 = some ⟨oc14, od14, .func (PySem.W.fnOf "_law_take" "_law_take" (defArgs st__law_take) (defBody st__law_take) (defScope st__law_take) .none kV14 dc14 pm14 an14 cd14 ct14), sl14⟩)
    (cq14 : PySem.W.codeIn K cd14 "_law_take" = true)
    (k14 : PySem.W.keepIn K (.ref f14) = true)
    (a15 : PySem.W.nsIn K mainGlobals "_law_same" = some (some (.ref f15)))
    (l15 : K.lookup f15 = some ⟨oc15, od15, .func (PySem.W.fnOf "_law_same" "_law_same" (defArgs st__law_same) (defBody st__law_same) (defScope st__law_same) .none kV15 dc15 pm15 an15 cd15 ct15), sl15⟩)
    (cq15 : PySem.W.codeIn K cd15 "_law_same" = true)
    (k15 : PySem.W.keepIn K (.ref f15) = true)
    (a16 : PySem.W.nsIn K mainGlobals "_law_low" = some (some (.ref f16)))
    (l16 : K.lookup f16 = some ⟨oc16, od16, .func (PySem.W.fnOf "_law_low" "_law_low" (defArgs st__law_low) (defBody st__law_low) (defScope st__law_low) .none kV16 dc16 pm16 an16 cd16 ct16), sl16⟩)
    (cq16 : PySem.W.codeIn K cd16 "_law_low" = true)
    (k16 : PySem.W.keepIn K (.ref f16) = true)
    (a17 : PySem.W.nsIn K mainGlobals "_law_meet" = some (some (.ref f17)))
    (l17 : K.lookup f17 = some ⟨oc17, od17, .func (PySem.W.fnOf "_law_meet" "_law_meet" (defArgs st__law_meet) (defBody st__law_meet) (defScope st__law_meet) .none kV17 dc17 pm17 an17 cd17 ct17), sl17⟩)
    (cq17 : PySem.W.codeIn K cd17 "_law_meet" = true)
    (k17 : PySem.W.keepIn K (.ref f17) = true)
    (a18 : PySem.W.nsIn K mainGlobals "_law_join" = some (some (.ref f18)))
    (l18 : K.lookup f18 = some ⟨oc18, od18, .func (PySem.W.fnOf "_law_join" "_law_join" (defArgs st__law_join) (defBody st__law_join) (defScope st__law_join) .none kV18 dc18 pm18 an18 cd18 ct18), sl18⟩)
    (cq18 : PySem.W.codeIn K cd18 "_law_join" = true)
    (k18 : PySem.W.keepIn K (.ref f18) = true)
    (a19 : PySem.W.nsIn K mainGlobals "_law_marks" = some (some (.ref f19)))
    (l19 : K.lookup f19 = some ⟨oc19, od19, .func (PySem.W.fnOf "_law_marks" "_law_marks" (defArgs st__law_marks) (defBody st__law_marks) (defScope st__law_marks) .none kV19 dc19 pm19 an19 cd19 ct19), sl19⟩)
    (cq19 : PySem.W.codeIn K cd19 "_law_marks" = true)
    (k19 : PySem.W.keepIn K (.ref f19) = true)
    (a20 : PySem.W.nsIn K mainGlobals "_law_third" = some (some (.ref f20)))
    (l20 : K.lookup f20 = some ⟨oc20, od20, .func (PySem.W.fnOf "_law_third" "_law_third" (defArgs st__law_third) (defBody st__law_third) (defScope st__law_third) .none kV20 dc20 pm20 an20 cd20 ct20), sl20⟩)
    (cq20 : PySem.W.codeIn K cd20 "_law_third" = true)
    (k20 : PySem.W.keepIn K (.ref f20) = true)
    (a21 : PySem.W.nsIn K mainGlobals "_law_finer" = some (some (.ref f21)))
    (l21 : K.lookup f21 = some ⟨oc21, od21, .func (PySem.W.fnOf "_law_finer" "_law_finer" (defArgs st__law_finer) (defBody st__law_finer) (defScope st__law_finer) .none kV21 dc21 pm21 an21 cd21 ct21), sl21⟩)
    (cq21 : PySem.W.codeIn K cd21 "_law_finer" = true)
    (k21 : PySem.W.keepIn K (.ref f21) = true)
    (a22 : PySem.W.nsIn K mainGlobals "_law_refused" = some (some (.ref f22)))
    (l22 : K.lookup f22 = some ⟨oc22, od22, .func (PySem.W.fnOf "_law_refused" "_law_refused" (defArgs st__law_refused) (defBody st__law_refused) (defScope st__law_refused) .none kV22 dc22 pm22 an22 (.ref cR22) ct22), sl22⟩)
    (cq22 : PySem.W.codeIn K (.ref cR22) "_law_refused" = true)
    (k22 : PySem.W.keepIn K (.ref f22) = true)
    (a23 : PySem.W.findIn K (.ref cSplit) "marks" = some (some (.ref f23)))
    (i23 : PySem.W.isFn K (.ref f23) = true)
    (l23 : K.lookup f23 = some ⟨oc23, od23, .func (PySem.W.fnOf "marks" "Split.marks" (defArgs st_Split_marks) (defBody st_Split_marks) (defScope st_Split_marks) .none kV23 dc23 pm23 an23 cd23 ct23), sl23⟩)
    (cq23 : PySem.W.codeIn K cd23 "Split.marks" = true)
    (k23 : PySem.W.keepIn K (.ref f23) = true)
    (a24 : PySem.W.nsIn K mainGlobals "_law_shown" = some (some (.ref f24)))
    (l24 : K.lookup f24 = some ⟨oc24, od24, .func (PySem.W.fnOf "_law_shown" "_law_shown" (defArgs st__law_shown) (defBody st__law_shown) (defScope st__law_shown) .none kV24 dc24 pm24 an24 cd24 ct24), sl24⟩)
    (cq24 : PySem.W.codeIn K cd24 "_law_shown" = true)
    (k24 : PySem.W.keepIn K (.ref f24) = true)
    (a25 : PySem.W.nsIn K mainGlobals "law" = some (some (.ref f25)))
    (l25 : K.lookup f25 = some ⟨oc25, od25, .func (PySem.W.fnOf "law" "law" (defArgs st_law) (defBody st_law) (defScope st_law) .none kV25 dc25 pm25 an25 cd25 ct25), sl25⟩)
    (cq25 : PySem.W.codeIn K cd25 "law" = true)
    (k25 : PySem.W.keepIn K (.ref f25) = true)
    (a26 : PySem.W.nsIn K mainGlobals "_law_told" = some (some (.ref f26)))
    (l26 : K.lookup f26 = some ⟨oc26, od26, .func (PySem.W.fnOf "_law_told" "_law_told" (defArgs st__law_told) (defBody st__law_told) (defScope st__law_told) .none kV26 dc26 pm26 an26 cd26 ct26), sl26⟩)
    (cq26 : PySem.W.codeIn K cd26 "_law_told" = true)
    (k26 : PySem.W.keepIn K (.ref f26) = true)
    (b_ValueError : PySem.W.nsIn K mainGlobals "ValueError" = some none)
    (b_all : PySem.W.nsIn K mainGlobals "all" = some none)
    (b_bool : PySem.W.nsIn K mainGlobals "bool" = some none)
    (b_enumerate : PySem.W.nsIn K mainGlobals "enumerate" = some none)
    (b_int : PySem.W.nsIn K mainGlobals "int" = some none)
    (b_isinstance : PySem.W.nsIn K mainGlobals "isinstance" = some none)
    (b_len : PySem.W.nsIn K mainGlobals "len" = some none)
    (b_list : PySem.W.nsIn K mainGlobals "list" = some none)
    (b_min : PySem.W.nsIn K mainGlobals "min" = some none)
    (b_range : PySem.W.nsIn K mainGlobals "range" = some none)
    (b_str : PySem.W.nsIn K mainGlobals "str" = some none)
    (b_tuple : PySem.W.nsIn K mainGlobals "tuple" = some none)
    (b_zip : PySem.W.nsIn K mainGlobals "zip" = some none)
    (b_super : PySem.W.nsIn K mainGlobals "super" = some none)
    (pgSplit : PySem.W.plainGet K cSplit Str.empty = true)
    (hdSplit : PySem.W.hasDictIn K cSplit = true)
    (poSplit : PySem.W.plainOver K cSplit = true)
    (saSplit : PySem.W.findIn K (.ref cSplit) "__setattr__" = some (some (.builtin "object.__setattr__")))
    (mkSplit : PySem.W.makesIn K cSplit = true)
    (kcSplit : PySem.W.keepIn K (.ref cSplit) = true)
    (claSplit : PySem.W.findIn K (.ref cSplit) "__class__" = some (some (.builtin "object.__class__")))
    (clmSplit : PySem.W.mroIn K cSplit (.type "object") = some true)
    (naSplit_size : PySem.W.findIn K (.ref cSplit) "size" = some none)
    (naSplit__marks : PySem.W.findIn K (.ref cSplit) "_marks" = some none)
    (eqnSplit : PySem.W.findIn K (.ref cSplit) "__ne__" = some (some (.builtin "object.__ne__")))
    (sfSplit : PySem.W.selfFirst K cSplit = true)
    (cln : PySem.W.specialIn K (.builtin "object.__class__") "__get__" = some (some (.builtin "getset_descriptor.__get__")))
    (clt : PySem.W.takesIn K (.builtin "object.__class__") = some true)
    (rdSplit : PySem.W.readsIn K cSplit (.type "type") = true)
    (mgaSplit : PySem.W.specialIn K (.ref cSplit) "__getattribute__" = some (some (.builtin "type.__getattribute__")))
    (conSplitMOST : PySem.W.findCls K (.ref cSplit) (.type "type") "MOST" = some (.val (.int 12 tkSplitMOST)))
    (y0_1 : PySem.W.kitOne K (.type "NoneType") (.type "bool") = some false)
    (y1_1 : PySem.W.kitOne K (.type "bool") (.type "bool") = some true)
    (y2_1 : PySem.W.kitOne K (.type "int") (.type "bool") = some false)
    (y3_1 : PySem.W.kitOne K (.type "str") (.type "bool") = some false)
    (y4_1 : PySem.W.kitOne K (.type "list") (.type "bool") = some false)
    (y5_1 : PySem.W.kitOne K (.type "tuple") (.type "bool") = some false)
    (y133_1 : PySem.W.kitOne K (.ref cSplit) (.type "bool") = some false)
    (y0_2 : PySem.W.kitOne K (.type "NoneType") (.type "int") = some false)
    (y1_2 : PySem.W.kitOne K (.type "bool") (.type "int") = some true)
    (y2_2 : PySem.W.kitOne K (.type "int") (.type "int") = some true)
    (y3_2 : PySem.W.kitOne K (.type "str") (.type "int") = some false)
    (y4_2 : PySem.W.kitOne K (.type "list") (.type "int") = some false)
    (y5_2 : PySem.W.kitOne K (.type "tuple") (.type "int") = some false)
    (y133_2 : PySem.W.kitOne K (.ref cSplit) (.type "int") = some false)
    (y0_3 : PySem.W.kitOne K (.type "NoneType") (.type "str") = some false)
    (y1_3 : PySem.W.kitOne K (.type "bool") (.type "str") = some false)
    (y2_3 : PySem.W.kitOne K (.type "int") (.type "str") = some false)
    (y3_3 : PySem.W.kitOne K (.type "str") (.type "str") = some true)
    (y4_3 : PySem.W.kitOne K (.type "list") (.type "str") = some false)
    (y5_3 : PySem.W.kitOne K (.type "tuple") (.type "str") = some false)
    (y133_3 : PySem.W.kitOne K (.ref cSplit) (.type "str") = some false)
    (y0_4 : PySem.W.kitOne K (.type "NoneType") (.type "list") = some false)
    (y1_4 : PySem.W.kitOne K (.type "bool") (.type "list") = some false)
    (y2_4 : PySem.W.kitOne K (.type "int") (.type "list") = some false)
    (y3_4 : PySem.W.kitOne K (.type "str") (.type "list") = some false)
    (y4_4 : PySem.W.kitOne K (.type "list") (.type "list") = some true)
    (y5_4 : PySem.W.kitOne K (.type "tuple") (.type "list") = some false)
    (y133_4 : PySem.W.kitOne K (.ref cSplit) (.type "list") = some false)
    (y0_5 : PySem.W.kitOne K (.type "NoneType") (.type "tuple") = some false)
    (y1_5 : PySem.W.kitOne K (.type "bool") (.type "tuple") = some false)
    (y2_5 : PySem.W.kitOne K (.type "int") (.type "tuple") = some false)
    (y3_5 : PySem.W.kitOne K (.type "str") (.type "tuple") = some false)
    (y4_5 : PySem.W.kitOne K (.type "list") (.type "tuple") = some false)
    (y5_5 : PySem.W.kitOne K (.type "tuple") (.type "tuple") = some true)
    (y133_5 : PySem.W.kitOne K (.ref cSplit) (.type "tuple") = some false)
    (y0_133 : PySem.W.kitOne K (.type "NoneType") (.ref cSplit) = some false)
    (y1_133 : PySem.W.kitOne K (.type "bool") (.ref cSplit) = some false)
    (y2_133 : PySem.W.kitOne K (.type "int") (.ref cSplit) = some false)
    (y3_133 : PySem.W.kitOne K (.type "str") (.ref cSplit) = some false)
    (y4_133 : PySem.W.kitOne K (.type "list") (.ref cSplit) = some false)
    (y5_133 : PySem.W.kitOne K (.type "tuple") (.ref cSplit) = some false)
    (y133_133 : PySem.W.kitOne K (.ref cSplit) (.ref cSplit) = some true)
    (yx103_8 : PySem.W.kitOne K (.ref cSizeMismatch) (.type "ValueError") = some true)
    (yx103_100 : PySem.W.kitOne K (.ref cSizeMismatch) (.ref cThinwallError) = some true)
    (yx103_101 : PySem.W.kitOne K (.ref cSizeMismatch) (.ref cBadSize) = some false)
    (e101_103 : PySem.W.exmOne K (.ref cBadSize) (.ref cSizeMismatch) = some false)
    (e101_100 : PySem.W.exmOne K (.ref cBadSize) (.ref cThinwallError) = some true)
    (e102_103 : PySem.W.exmOne K (.ref cUnknownCase) (.ref cSizeMismatch) = some false)
    (e102_100 : PySem.W.exmOne K (.ref cUnknownCase) (.ref cThinwallError) = some true)
    (e103_103 : PySem.W.exmOne K (.ref cSizeMismatch) (.ref cSizeMismatch) = some true)
    (e103_100 : PySem.W.exmOne K (.ref cSizeMismatch) (.ref cThinwallError) = some true)
    (nSplit_0 : PySem.W.notFirst K cSplit (.type "NoneType") = true)
    (nSplit_1 : PySem.W.notFirst K cSplit (.type "bool") = true)
    (nSplit_2 : PySem.W.notFirst K cSplit (.type "int") = true)
    (nSplit_3 : PySem.W.notFirst K cSplit (.type "str") = true)
    (nSplit_4 : PySem.W.notFirst K cSplit (.type "list") = true)
    (nSplit_5 : PySem.W.notFirst K cSplit (.type "tuple") = true)
    (nSplit_133 : PySem.W.notFirst K cSplit (.ref cSplit) = true)
    (xBadSize : K.lookup cBadSize = some (excClassObj nmBadSize qnBadSize cBadSize nnBadSize bsBadSize [.ref cThinwallError, .type "ValueError", .type "Exception", .type "BaseException", .type "object"] true snBadSize sbBadSize abBadSize clBadSize ddBadSize m0BadSize m1BadSize m2BadSize m3BadSize m5BadSize "ValueError.__new__"))
    (saBadSize : PySem.W.findIn K (.ref cBadSize) "__setattr__" = some (some (.builtin "object.__setattr__")))
    (gaBadSize : PySem.W.findIn K (.ref cBadSize) "__getattribute__" = some (some (.builtin "BaseException.__getattribute__")))
    (ggBadSize : PySem.W.findIn K (.ref cBadSize) "__getattr__" = some none)
    (nfBadSize_size : PySem.W.findIn K (.ref cBadSize) "size" = some none)
    (inBadSize : PySem.W.findIn K (.ref cBadSize) "__init__" = some (some (.ref fiBadSize)))
    (tiBadSize : PySem.W.typeIn K (.ref fiBadSize) = some (.type "function"))
    (exBadSize : PySem.W.subIn K (.ref cBadSize) (.type "BaseException") = some true)
    (veBadSize : PySem.W.subIn K (.ref cBadSize) (.type "ValueError") = some true)
    (tyBadSize : PySem.W.typeIn K (.ref cBadSize) = some (.type "type"))
    (keBadSize : PySem.W.keepIn K (.ref cBadSize) = true)
    (hdBadSize : PySem.W.hasDictIn K cBadSize = true)
    (isBadSize : (PySem.W.clsIn K cBadSize).isSome = true)
    (suBadSize : PySem.W.mroIn K cBadSize (.ref cBadSize) = some true)
    (moBadSize : PySem.W.mroIn K cBadSize (.type "object") = some true)
    (acBadSize : PySem.W.findIn K (.ref cBadSize) "__class__" = some (some (.builtin "object.__class__")))
    (siBadSize : PySem.W.ks_superIn K cBadSize cBadSize "__init__" = some (some (.builtin "ValueError.__init__")))
    (lfBadSize : K.lookup fiBadSize = some ⟨ocBadSize, odBadSize, .func (PySem.W.ksFn "__init__" "BadSize.__init__" (defArgs st_BadSize___init__) (defBody st_BadSize___init__) (defScope st_BadSize___init__) .none kVBadSize dcBadSize pmBadSize anBadSize (.ref caBadSize) ctBadSize ccBadSize), slBadSize⟩)
    (cdBadSize : PySem.W.codeIn K (.ref caBadSize) "BadSize.__init__" = true)
    (ceBadSize : K.lookup ccBadSize = some ⟨cellBadSize, cldBadSize, .cell (some (.ref cBadSize)), csBadSize⟩)
    (coBadSize : K.lookup caBadSize = some ⟨cclBadSize, cddBadSize, .fields vsBadSize, ccsBadSize⟩)
    (cfBadSize : vsBadSize[2]? = some (.str flBadSize tfBadSize))
    (cgBadSize : ((l.prog.main.file : Str) == flBadSize) = true)
    (xUnknownCase : K.lookup cUnknownCase = some (excClassObj nmUnknownCase qnUnknownCase cUnknownCase nnUnknownCase bsUnknownCase [.ref cThinwallError, .type "ValueError", .type "Exception", .type "BaseException", .type "object"] true snUnknownCase sbUnknownCase abUnknownCase clUnknownCase ddUnknownCase m0UnknownCase m1UnknownCase m2UnknownCase m3UnknownCase m5UnknownCase "ValueError.__new__"))
    (saUnknownCase : PySem.W.findIn K (.ref cUnknownCase) "__setattr__" = some (some (.builtin "object.__setattr__")))
    (gaUnknownCase : PySem.W.findIn K (.ref cUnknownCase) "__getattribute__" = some (some (.builtin "BaseException.__getattribute__")))
    (ggUnknownCase : PySem.W.findIn K (.ref cUnknownCase) "__getattr__" = some none)
    (nfUnknownCase_case : PySem.W.findIn K (.ref cUnknownCase) "case" = some none)
    (inUnknownCase : PySem.W.findIn K (.ref cUnknownCase) "__init__" = some (some (.ref fiUnknownCase)))
    (tiUnknownCase : PySem.W.typeIn K (.ref fiUnknownCase) = some (.type "function"))
    (exUnknownCase : PySem.W.subIn K (.ref cUnknownCase) (.type "BaseException") = some true)
    (veUnknownCase : PySem.W.subIn K (.ref cUnknownCase) (.type "ValueError") = some true)
    (tyUnknownCase : PySem.W.typeIn K (.ref cUnknownCase) = some (.type "type"))
    (keUnknownCase : PySem.W.keepIn K (.ref cUnknownCase) = true)
    (hdUnknownCase : PySem.W.hasDictIn K cUnknownCase = true)
    (isUnknownCase : (PySem.W.clsIn K cUnknownCase).isSome = true)
    (suUnknownCase : PySem.W.mroIn K cUnknownCase (.ref cUnknownCase) = some true)
    (moUnknownCase : PySem.W.mroIn K cUnknownCase (.type "object") = some true)
    (acUnknownCase : PySem.W.findIn K (.ref cUnknownCase) "__class__" = some (some (.builtin "object.__class__")))
    (siUnknownCase : PySem.W.ks_superIn K cUnknownCase cUnknownCase "__init__" = some (some (.builtin "ValueError.__init__")))
    (lfUnknownCase : K.lookup fiUnknownCase = some ⟨ocUnknownCase, odUnknownCase, .func (PySem.W.ksFn "__init__" "UnknownCase.__init__" (defArgs st_UnknownCase___init__) (defBody st_UnknownCase___init__) (defScope st_UnknownCase___init__) .none kVUnknownCase dcUnknownCase pmUnknownCase anUnknownCase (.ref caUnknownCase) ctUnknownCase ccUnknownCase), slUnknownCase⟩)
    (cdUnknownCase : PySem.W.codeIn K (.ref caUnknownCase) "UnknownCase.__init__" = true)
    (ceUnknownCase : K.lookup ccUnknownCase = some ⟨cellUnknownCase, cldUnknownCase, .cell (some (.ref cUnknownCase)), csUnknownCase⟩)
    (coUnknownCase : K.lookup caUnknownCase = some ⟨cclUnknownCase, cddUnknownCase, .fields vsUnknownCase, ccsUnknownCase⟩)
    (cfUnknownCase : vsUnknownCase[2]? = some (.str flUnknownCase tfUnknownCase))
    (cgUnknownCase : ((l.prog.main.file : Str) == flUnknownCase) = true)
    (xSizeMismatch : K.lookup cSizeMismatch = some (excClassObj nmSizeMismatch qnSizeMismatch cSizeMismatch nnSizeMismatch bsSizeMismatch [.ref cThinwallError, .type "ValueError", .type "Exception", .type "BaseException", .type "object"] true snSizeMismatch sbSizeMismatch abSizeMismatch clSizeMismatch ddSizeMismatch m0SizeMismatch m1SizeMismatch m2SizeMismatch m3SizeMismatch m5SizeMismatch "ValueError.__new__"))
    (saSizeMismatch : PySem.W.findIn K (.ref cSizeMismatch) "__setattr__" = some (some (.builtin "object.__setattr__")))
    (gaSizeMismatch : PySem.W.findIn K (.ref cSizeMismatch) "__getattribute__" = some (some (.builtin "BaseException.__getattribute__")))
    (ggSizeMismatch : PySem.W.findIn K (.ref cSizeMismatch) "__getattr__" = some none)
    (nfSizeMismatch_first : PySem.W.findIn K (.ref cSizeMismatch) "first" = some none)
    (nfSizeMismatch_second : PySem.W.findIn K (.ref cSizeMismatch) "second" = some none)
    (inSizeMismatch : PySem.W.findIn K (.ref cSizeMismatch) "__init__" = some (some (.ref fiSizeMismatch)))
    (tiSizeMismatch : PySem.W.typeIn K (.ref fiSizeMismatch) = some (.type "function"))
    (exSizeMismatch : PySem.W.subIn K (.ref cSizeMismatch) (.type "BaseException") = some true)
    (veSizeMismatch : PySem.W.subIn K (.ref cSizeMismatch) (.type "ValueError") = some true)
    (tySizeMismatch : PySem.W.typeIn K (.ref cSizeMismatch) = some (.type "type"))
    (keSizeMismatch : PySem.W.keepIn K (.ref cSizeMismatch) = true)
    (hdSizeMismatch : PySem.W.hasDictIn K cSizeMismatch = true)
    (isSizeMismatch : (PySem.W.clsIn K cSizeMismatch).isSome = true)
    (suSizeMismatch : PySem.W.mroIn K cSizeMismatch (.ref cSizeMismatch) = some true)
    (moSizeMismatch : PySem.W.mroIn K cSizeMismatch (.type "object") = some true)
    (acSizeMismatch : PySem.W.findIn K (.ref cSizeMismatch) "__class__" = some (some (.builtin "object.__class__")))
    (siSizeMismatch : PySem.W.ks_superIn K cSizeMismatch cSizeMismatch "__init__" = some (some (.builtin "ValueError.__init__")))
    (lfSizeMismatch : K.lookup fiSizeMismatch = some ⟨ocSizeMismatch, odSizeMismatch, .func (PySem.W.ksFn "__init__" "SizeMismatch.__init__" (defArgs st_SizeMismatch___init__) (defBody st_SizeMismatch___init__) (defScope st_SizeMismatch___init__) .none kVSizeMismatch dcSizeMismatch pmSizeMismatch anSizeMismatch (.ref caSizeMismatch) ctSizeMismatch ccSizeMismatch), slSizeMismatch⟩)
    (cdSizeMismatch : PySem.W.codeIn K (.ref caSizeMismatch) "SizeMismatch.__init__" = true)
    (ceSizeMismatch : K.lookup ccSizeMismatch = some ⟨cellSizeMismatch, cldSizeMismatch, .cell (some (.ref cSizeMismatch)), csSizeMismatch⟩)
    (coSizeMismatch : K.lookup caSizeMismatch = some ⟨cclSizeMismatch, cddSizeMismatch, .fields vsSizeMismatch, ccsSizeMismatch⟩)
    (cfSizeMismatch : vsSizeMismatch[2]? = some (.str flSizeMismatch tfSizeMismatch))
    (cgSizeMismatch : ((l.prog.main.file : Str) == flSizeMismatch) = true)
    (tp : PySem.W.nsIn K PySem.cStatics "thirdparty.any" = some none)
    (ht : (l.prog.main.scope.names.lookup ("super" : Str)).isSome = false)
    (tb22 : K.lookup cR22 = some ⟨eR22, dR22, .fields vR22, sR22⟩)
    (tp222 : vR22[11]? = some (.ref pR22))
    (ch22 : PySem.W.codeHdIn K cR22 pR22 = true)
    (np22 : K.lookup pR22 = none)
    (hT22 : h.get? pR22 = some { cls := .none, data := .fields #[] }) : LamX.LawAtS l w K CX0 10 63 "script" mg fa h := by
  have e := hfa.symm.trans (PySem.W.mg_of X G0 a25)
  cases e
  have TT : Txt (GG K cThinwallError cBadSize cUnknownCase cSizeMismatch cSplit [(pR22, (("_law_refused" : Str) ++ (".<locals>." : Str) ++ ("<lambda>" : Str)))]) mg := by
    exact
    { b_ValueError := PySem.W.mg_none_of X G0 b_ValueError,
      b_all := PySem.W.mg_none_of X G0 b_all,
      b_bool := PySem.W.mg_none_of X G0 b_bool,
      b_enumerate := PySem.W.mg_none_of X G0 b_enumerate,
      b_int := PySem.W.mg_none_of X G0 b_int,
      b_isinstance := PySem.W.mg_none_of X G0 b_isinstance,
      b_len := PySem.W.mg_none_of X G0 b_len,
      b_list := PySem.W.mg_none_of X G0 b_list,
      b_min := PySem.W.mg_none_of X G0 b_min,
      b_range := PySem.W.mg_none_of X G0 b_range,
      b_str := PySem.W.mg_none_of X G0 b_str,
      b_tuple := PySem.W.mg_none_of X G0 b_tuple,
      b_zip := PySem.W.mg_none_of X G0 b_zip,
      g_ThinwallError := PySem.W.mg_of X G0 gThinwallError,
      g_BadSize := PySem.W.mg_of X G0 gBadSize,
      g_UnknownCase := PySem.W.mg_of X G0 gUnknownCase,
      g_SizeMismatch := PySem.W.mg_of X G0 gSizeMismatch,
      g_Split := PySem.W.mg_of X G0 gSplit,
      n_size := rfl,
      n_case := rfl,
      n_first := rfl,
      n_second := rfl,
      n_marks := rfl,
      n_together := rfl,
      n_finer := rfl,
      n__marks := rfl,
      flds := (fldOk_cons ⟨pgSplit, hdSplit, poSplit, saSplit⟩ naSplit_size (fldOk_cons ⟨pgSplit, hdSplit, poSplit, saSplit⟩ naSplit__marks fldOk_nil)),
      kit := (kitOk_cons y0_1 (fun z => absurd z (by decide)) (kitOk_cons y1_1 (fun z => absurd z (by decide)) (kitOk_cons y2_1 (fun z => absurd z (by decide)) (kitOk_cons y3_1 (fun z => absurd z (by decide)) (kitOk_cons y4_1 (fun z => absurd z (by decide)) (kitOk_cons y5_1 (fun z => absurd z (by decide)) (kitOk_cons y133_1 (fun _ => ⟨⟨pgSplit, hdSplit, poSplit, saSplit⟩, claSplit, cln, clt, clmSplit⟩) (kitOk_cons y0_2 (fun z => absurd z (by decide)) (kitOk_cons y1_2 (fun z => absurd z (by decide)) (kitOk_cons y2_2 (fun z => absurd z (by decide)) (kitOk_cons y3_2 (fun z => absurd z (by decide)) (kitOk_cons y4_2 (fun z => absurd z (by decide)) (kitOk_cons y5_2 (fun z => absurd z (by decide)) (kitOk_cons y133_2 (fun _ => ⟨⟨pgSplit, hdSplit, poSplit, saSplit⟩, claSplit, cln, clt, clmSplit⟩) (kitOk_cons y0_3 (fun z => absurd z (by decide)) (kitOk_cons y1_3 (fun z => absurd z (by decide)) (kitOk_cons y2_3 (fun z => absurd z (by decide)) (kitOk_cons y3_3 (fun z => absurd z (by decide)) (kitOk_cons y4_3 (fun z => absurd z (by decide)) (kitOk_cons y5_3 (fun z => absurd z (by decide)) (kitOk_cons y133_3 (fun _ => ⟨⟨pgSplit, hdSplit, poSplit, saSplit⟩, claSplit, cln, clt, clmSplit⟩) (kitOk_cons y0_4 (fun z => absurd z (by decide)) (kitOk_cons y1_4 (fun z => absurd z (by decide)) (kitOk_cons y2_4 (fun z => absurd z (by decide)) (kitOk_cons y3_4 (fun z => absurd z (by decide)) (kitOk_cons y4_4 (fun z => absurd z (by decide)) (kitOk_cons y5_4 (fun z => absurd z (by decide)) (kitOk_cons y133_4 (fun _ => ⟨⟨pgSplit, hdSplit, poSplit, saSplit⟩, claSplit, cln, clt, clmSplit⟩) (kitOk_cons y0_5 (fun z => absurd z (by decide)) (kitOk_cons y1_5 (fun z => absurd z (by decide)) (kitOk_cons y2_5 (fun z => absurd z (by decide)) (kitOk_cons y3_5 (fun z => absurd z (by decide)) (kitOk_cons y4_5 (fun z => absurd z (by decide)) (kitOk_cons y5_5 (fun z => absurd z (by decide)) (kitOk_cons y133_5 (fun _ => ⟨⟨pgSplit, hdSplit, poSplit, saSplit⟩, claSplit, cln, clt, clmSplit⟩) (kitOk_cons y0_133 (fun z => absurd z (by decide)) (kitOk_cons y1_133 (fun z => absurd z (by decide)) (kitOk_cons y2_133 (fun z => absurd z (by decide)) (kitOk_cons y3_133 (fun z => absurd z (by decide)) (kitOk_cons y4_133 (fun z => absurd z (by decide)) (kitOk_cons y5_133 (fun z => absurd z (by decide)) (kitOk_cons y133_133 (fun _ => ⟨⟨pgSplit, hdSplit, poSplit, saSplit⟩, claSplit, cln, clt, clmSplit⟩) kitOk_nil)))))))))))))))))))))))))))))))))))))))))),
      kitx := (kitX_cons yx103_8 (kitX_cons yx103_100 (kitX_cons yx103_101 kitX_nil))),
      exm := (exmOk_cons e101_103 (exmOk_cons e101_100 (exmOk_cons e102_103 (exmOk_cons e102_100 (exmOk_cons e103_103 (exmOk_cons e103_100 exmOk_nil)))))),
      con_Split_MOST := ⟨.type "type", .int 12, _, ⟨rdSplit, mgaSplit⟩, ⟨conSplitMOST, ⟨_, rfl⟩⟩, fun W => is_int.mpr rfl⟩,
      ins_Split := ⟨⟨pgSplit, hdSplit, poSplit, saSplit⟩, claSplit, cln, clt, clmSplit⟩,
      nf_Split := (nfOk_cons nSplit_0 (fun z => absurd z (by decide)) (nfOk_cons nSplit_1 (fun z => absurd z (by decide)) (nfOk_cons nSplit_2 (fun z => absurd z (by decide)) (nfOk_cons nSplit_3 (fun z => absurd z (by decide)) (nfOk_cons nSplit_4 (fun z => absurd z (by decide)) (nfOk_cons nSplit_5 (fun z => absurd z (by decide)) (nfOk_cons nSplit_133 (fun _ => ⟨⟨pgSplit, hdSplit, poSplit, saSplit⟩, claSplit, cln, clt, clmSplit⟩) nfOk_nil))))))),
      xis_SizeMismatch := ⟨isSizeMismatch, gaSizeMismatch, ggSizeMismatch, exSizeMismatch, acSizeMismatch, cln, clt, moSizeMismatch⟩,
      xf_SizeMismatch := ⟨gaSizeMismatch, ggSizeMismatch, exSizeMismatch, hdSizeMismatch⟩,
      nof_SizeMismatch_first := nfSizeMismatch_first,
      nof_SizeMismatch_second := nfSizeMismatch_second }
  have F1 := fun_mk (st := st_least_marks) l1 cq1 k1
  have B1 := F1.binds (ps := ["marks"]) fun _ _ _ _ _ _ us hl => match us, hl with | [_], _ => rfl
  have F2 := fun_mk (st := st_check_size) l2 cq2 k2
  have B2 := F2.binds (ps := ["size"]) fun _ _ _ _ _ _ us hl => match us, hl with | [_], _ => rfl
  have F3 := fun_mk (st := st_Split___init__) l3 cq3 k3
  have B3 := F3.binds (ps := ["self", "marks"]) fun _ _ _ _ _ _ us hl => match us, hl with | [_, _], _ => rfl
  have F4 := fun_mk (st := st_check_sizes) l4 cq4 k4
  have B4 := F4.binds (ps := ["one", "other"]) fun _ _ _ _ _ _ us hl => match us, hl with | [_, _], _ => rfl
  have F5 := fun_mk (st := st_check_within) l5 cq5 k5
  have B5 := F5.binds (ps := ["size", "case"]) fun _ _ _ _ _ _ us hl => match us, hl with | [_, _], _ => rfl
  have F6 := fun_mk (st := st_Split_together) l6 cq6 k6
  have B6 := F6.binds (ps := ["self", "first", "second"]) fun _ _ _ _ _ _ us hl => match us, hl with | [_, _, _], _ => rfl
  have F7 := fun_mk (st := st_Split_finer) l7 cq7 k7
  have B7 := F7.binds (ps := ["self", "other"]) fun _ _ _ _ _ _ us hl => match us, hl with | [_, _], _ => rfl
  have F8 := fun_mk (st := st_Split___eq__) l8 cq8 k8
  have B8 := F8.binds (ps := ["self", "other"]) fun _ _ _ _ _ _ us hl => match us, hl with | [_, _], _ => rfl
  have F9 := fun_mk (st := st_together_marks) l9 cq9 k9
  have B9 := F9.binds (ps := ["first", "second"]) fun _ _ _ _ _ _ us hl => match us, hl with | [_, _], _ => rfl
  have F10 := fun_mk (st := st_Split___and__) l10 cq10 k10
  have B10 := F10.binds (ps := ["self", "other"]) fun _ _ _ _ _ _ us hl => match us, hl with | [_, _], _ => rfl
  have F11 := fun_mk (st := st_joined_marks) l11 cq11 k11
  have B11 := F11.binds (ps := ["first", "second"]) fun _ _ _ _ _ _ us hl => match us, hl with | [_, _], _ => rfl
  have F12 := fun_mk (st := st_Split___or__) l12 cq12 k12
  have B12 := F12.binds (ps := ["self", "other"]) fun _ _ _ _ _ _ us hl => match us, hl with | [_, _], _ => rfl
  have F13 := fun_mk (st := st__law_start) l13 cq13 k13
  have B13 := F13.binds (ps := ["script"]) fun _ _ _ _ _ _ us hl => match us, hl with | [_], _ => rfl
  have F14 := fun_mk (st := st__law_take) l14 cq14 k14
  have B14 := F14.binds (ps := ["bag", "many"]) fun _ _ _ _ _ _ us hl => match us, hl with | [_, _], _ => rfl
  have F15 := fun_mk (st := st__law_same) l15 cq15 k15
  have B15 := F15.binds (ps := ["actual", "due"]) fun _ _ _ _ _ _ us hl => match us, hl with | [_, _], _ => rfl
  have F16 := fun_mk (st := st__law_low) l16 cq16 k16
  have B16 := F16.binds (ps := ["marks"]) fun _ _ _ _ _ _ us hl => match us, hl with | [_], _ => rfl
  have F17 := fun_mk (st := st__law_meet) l17 cq17 k17
  have B17 := F17.binds (ps := ["one", "two"]) fun _ _ _ _ _ _ us hl => match us, hl with | [_, _], _ => rfl
  have F18 := fun_mk (st := st__law_join) l18 cq18 k18
  have B18 := F18.binds (ps := ["one", "two"]) fun _ _ _ _ _ _ us hl => match us, hl with | [_, _], _ => rfl
  have F19 := fun_mk (st := st__law_marks) l19 cq19 k19
  have B19 := F19.binds (ps := ["bag", "many"]) fun _ _ _ _ _ _ us hl => match us, hl with | [_, _], _ => rfl
  have F20 := fun_mk (st := st__law_third) l20 cq20 k20
  have B20 := F20.binds (ps := ["bag", "one", "two"]) fun _ _ _ _ _ _ us hl => match us, hl with | [_, _, _], _ => rfl
  have F21 := fun_mk (st := st__law_finer) l21 cq21 k21
  have B21 := F21.binds (ps := ["one", "two"]) fun _ _ _ _ _ _ us hl => match us, hl with | [_, _], _ => rfl
  have F22 := fun_mk (st := st__law_refused) l22 cq22 k22
  have B22 := F22.binds (ps := ["left", "odd", "many", "wrong"]) fun _ _ _ _ _ _ us hl => match us, hl with | [_, _, _, _], _ => rfl
  have F23 := fun_mk (st := st_Split_marks) l23 cq23 k23
  have B23 := F23.binds (ps := ["self"]) fun _ _ _ _ _ _ us hl => match us, hl with | [_], _ => rfl
  have F24 := fun_mk (st := st__law_shown) l24 cq24 k24
  have B24 := F24.binds (ps := ["splits", "rows"]) fun _ _ _ _ _ _ us hl => match us, hl with | [_, _], _ => rfl
  have F25 := fun_mk (st := st_law) l25 cq25 k25
  have B25 := F25.binds (ps := ["script"]) fun _ _ _ _ _ _ us hl => match us, hl with | [_], _ => rfl
  have F26 := fun_mk (st := st__law_told) l26 cq26 k26
  have B26 := F26.binds (ps := ["action"]) fun _ _ _ _ _ _ us hl => match us, hl with | [_], _ => rfl
  refine ⟨PySem.W.fnOf "law" "law" (defArgs st_law) (defBody st_law) (defScope st_law) .none kV25 dc25 pm25 an25 cd25 ct25, [(cR22, pR22)], spOf (GG K cThinwallError cBadSize cUnknownCase cSizeMismatch cSplit [(pR22, (("_law_refused" : Str) ++ (".<locals>." : Str) ++ ("<lambda>" : Str)))]) f_law 1, fun p hp => ?_, fun p hp => ?_, fun p hp => ?_, fun s u => .of_eq rfl, fun H a ns _ _ ht hS => law_starts SPEC hS fun p hp => ?_, fun base Xb Gb TBs => ?_⟩
  · simp only [List.mem_cons, List.not_mem_nil, or_false] at hp
    rcases hp with rfl
    · exact hT22
  · simp only [List.mem_cons, List.not_mem_nil, or_false] at hp
    rcases hp with rfl
    · exact np22
  · simp only [List.mem_cons, List.not_mem_nil, or_false] at hp
    rcases hp with rfl
    · exact PySem.W.codeHd_of_K X ch22
  · simp only [List.mem_cons, List.not_mem_nil, or_false] at hp
    rcases hp with rfl
    · exact ht (cR22, pR22) (by simp)
  have XIBadSize : XInit l.prog K mg cBadSize fiBadSize ccBadSize caBadSize "BadSize.__init__" (defArgs st_BadSize___init__) (defBody st_BadSize___init__) (defScope st_BadSize___init__) _ :=
    { oex := ⟨⟨_, _, _, _, _, _, _, _, _, _, _, _, _, _, _, xBadSize, by rfl⟩, saBadSize, exBadSize, tyBadSize, keBadSize⟩, iC := inBadSize, tI := tiBadSize, code := ⟨_, _, _, _, _, _, coBadSize, cfBadSize, cgBadSize⟩, cell := ⟨_, _, _, ceBadSize⟩, sub := suBadSize, nsup := PySem.W.mg_none_of X G0 b_super, tp := tp, sin := siBadSize, sVE := veBadSize, fn := ⟨_, _, _, _, _, _, _, _, lfBadSize, rfl⟩, cd := cdBadSize, htop := ht }
  have X_BadSize : XCal l.prog w K mg base "BadSize" cBadSize ["size"] := xcal_BadSize XIBadSize (PySem.W.mg_of X G0 gBadSize) nfBadSize_size
  have XIUnknownCase : XInit l.prog K mg cUnknownCase fiUnknownCase ccUnknownCase caUnknownCase "UnknownCase.__init__" (defArgs st_UnknownCase___init__) (defBody st_UnknownCase___init__) (defScope st_UnknownCase___init__) _ :=
    { oex := ⟨⟨_, _, _, _, _, _, _, _, _, _, _, _, _, _, _, xUnknownCase, by rfl⟩, saUnknownCase, exUnknownCase, tyUnknownCase, keUnknownCase⟩, iC := inUnknownCase, tI := tiUnknownCase, code := ⟨_, _, _, _, _, _, coUnknownCase, cfUnknownCase, cgUnknownCase⟩, cell := ⟨_, _, _, ceUnknownCase⟩, sub := suUnknownCase, nsup := PySem.W.mg_none_of X G0 b_super, tp := tp, sin := siUnknownCase, sVE := veUnknownCase, fn := ⟨_, _, _, _, _, _, _, _, lfUnknownCase, rfl⟩, cd := cdUnknownCase, htop := ht }
  have X_UnknownCase : XCal l.prog w K mg base "UnknownCase" cUnknownCase ["case"] := xcal_UnknownCase XIUnknownCase (PySem.W.mg_of X G0 gUnknownCase) nfUnknownCase_case
  have XISizeMismatch : XInit l.prog K mg cSizeMismatch fiSizeMismatch ccSizeMismatch caSizeMismatch "SizeMismatch.__init__" (defArgs st_SizeMismatch___init__) (defBody st_SizeMismatch___init__) (defScope st_SizeMismatch___init__) _ :=
    { oex := ⟨⟨_, _, _, _, _, _, _, _, _, _, _, _, _, _, _, xSizeMismatch, by rfl⟩, saSizeMismatch, exSizeMismatch, tySizeMismatch, keSizeMismatch⟩, iC := inSizeMismatch, tI := tiSizeMismatch, code := ⟨_, _, _, _, _, _, coSizeMismatch, cfSizeMismatch, cgSizeMismatch⟩, cell := ⟨_, _, _, ceSizeMismatch⟩, sub := suSizeMismatch, nsup := PySem.W.mg_none_of X G0 b_super, tp := tp, sin := siSizeMismatch, sVE := veSizeMismatch, fn := ⟨_, _, _, _, _, _, _, _, lfSizeMismatch, rfl⟩, cd := cdSizeMismatch, htop := ht }
  have X_SizeMismatch : XCal l.prog w K mg base "SizeMismatch" cSizeMismatch ["first", "second"] := xcal_SizeMismatch XISizeMismatch (PySem.W.mg_of X G0 gSizeMismatch) nfSizeMismatch_first nfSizeMismatch_second
  have C__law_told : TellC l.prog w K mg base (GG K cThinwallError cBadSize cUnknownCase cSizeMismatch cSplit [(pR22, (("_law_refused" : Str) ++ (".<locals>." : Str) ++ ("<lambda>" : Str)))]) tell__law_told := ⟨_, st__law_told, ["action", "e", "kinds"], _, _, _, _, _, _, _, _, _, PySem.W.mg_of X G0 a26, k26, l26, cq26, B26, sc__law_told, rfl, .inl rfl, fun X0 q0 _ _ hK hM _ => told_k (G := (GG K cThinwallError cBadSize cUnknownCase cSizeMismatch cSplit [(pR22, (("_law_refused" : Str) ++ (".<locals>." : Str) ++ ("<lambda>" : Str)))])) TT hK hM⟩
  have C_least_marks : DL.Cal l.prog w K mg base CX0 1 "least_marks" ["marks"] (spOf (GG K cThinwallError cBadSize cUnknownCase cSizeMismatch cSplit [(pR22, (("_law_refused" : Str) ++ (".<locals>." : Str) ++ ("<lambda>" : Str)))]) f_least_marks 1) := ⟨_, _, PySem.W.mg_of X G0 a1, k1, B1, ok_least_marks (G := (GG K cThinwallError cBadSize cUnknownCase cSizeMismatch cSplit [(pR22, (("_law_refused" : Str) ++ (".<locals>." : Str) ++ ("<lambda>" : Str)))])) F1 TT ⟩
  have C_check_size : DL.Cal l.prog w K mg base (L2.CX l.prog w) 3 "check_size" ["size"] (spOf (GG K cThinwallError cBadSize cUnknownCase cSizeMismatch cSplit [(pR22, (("_law_refused" : Str) ++ (".<locals>." : Str) ++ ("<lambda>" : Str)))]) f_check_size 1) := ⟨_, _, PySem.W.mg_of X G0 a2, k2, B2, ok_check_size (G := (GG K cThinwallError cBadSize cUnknownCase cSizeMismatch cSplit [(pR22, (("_law_refused" : Str) ++ (".<locals>." : Str) ++ ("<lambda>" : Str)))])) F2 TT (X_BadSize := X_BadSize)⟩
  have C_Split : DL.CalC l.prog w K mg base (L2.CX l.prog w) 4 "Split" ((GG K cThinwallError cBadSize cUnknownCase cSizeMismatch cSplit [(pR22, (("_law_refused" : Str) ++ (".<locals>." : Str) ++ ("<lambda>" : Str)))]).b.cl 33) ["self", "marks"] (spOf (GG K cThinwallError cBadSize cUnknownCase cSizeMismatch cSplit [(pR22, (("_law_refused" : Str) ++ (".<locals>." : Str) ++ ("<lambda>" : Str)))]) f_Split___init__ 2) := ⟨_, _, PySem.W.mg_of X G0 gSplit, ⟨mkSplit, a3, i3, kcSplit⟩, B3, ok_Split___init__ (G := (GG K cThinwallError cBadSize cUnknownCase cSizeMismatch cSplit [(pR22, (("_law_refused" : Str) ++ (".<locals>." : Str) ++ ("<lambda>" : Str)))])) F3 TT (C_least_marks := C_least_marks) (C_check_size := C_check_size)⟩
  have C_check_sizes : DL.Cal l.prog w K mg base (L2.CX l.prog w) 3 "check_sizes" ["one", "other"] (spOf (GG K cThinwallError cBadSize cUnknownCase cSizeMismatch cSplit [(pR22, (("_law_refused" : Str) ++ (".<locals>." : Str) ++ ("<lambda>" : Str)))]) f_check_sizes 2) := ⟨_, _, PySem.W.mg_of X G0 a4, k4, B4, ok_check_sizes (G := (GG K cThinwallError cBadSize cUnknownCase cSizeMismatch cSplit [(pR22, (("_law_refused" : Str) ++ (".<locals>." : Str) ++ ("<lambda>" : Str)))])) F4 TT (X_SizeMismatch := X_SizeMismatch)⟩
  have C_check_within : DL.Cal l.prog w K mg base (L2.CX l.prog w) 3 "check_within" ["size", "case"] (spOf (GG K cThinwallError cBadSize cUnknownCase cSizeMismatch cSplit [(pR22, (("_law_refused" : Str) ++ (".<locals>." : Str) ++ ("<lambda>" : Str)))]) f_check_within 2) := ⟨_, _, PySem.W.mg_of X G0 a5, k5, B5, ok_check_within (G := (GG K cThinwallError cBadSize cUnknownCase cSizeMismatch cSplit [(pR22, (("_law_refused" : Str) ++ (".<locals>." : Str) ++ ("<lambda>" : Str)))])) F5 TT (X_UnknownCase := X_UnknownCase)⟩
  have C_Split_together : DL.CalM l.prog w K mg base (L2.CX l.prog w) 4 ((GG K cThinwallError cBadSize cUnknownCase cSizeMismatch cSplit [(pR22, (("_law_refused" : Str) ++ (".<locals>." : Str) ++ ("<lambda>" : Str)))]).b.cl 33) "together" ["self", "first", "second"] (spOf (GG K cThinwallError cBadSize cUnknownCase cSizeMismatch cSplit [(pR22, (("_law_refused" : Str) ++ (".<locals>." : Str) ++ ("<lambda>" : Str)))]) f_Split_together 3) := ⟨_, _, ⟨pgSplit, hdSplit, poSplit, saSplit⟩, ⟨a6, i6, k6⟩, B6, ok_Split_together (G := (GG K cThinwallError cBadSize cUnknownCase cSizeMismatch cSplit [(pR22, (("_law_refused" : Str) ++ (".<locals>." : Str) ++ ("<lambda>" : Str)))])) F6 TT (C_check_within := C_check_within)⟩
  have C_Split_finer : DL.CalM l.prog w K mg base (L2.CX l.prog w) 5 ((GG K cThinwallError cBadSize cUnknownCase cSizeMismatch cSplit [(pR22, (("_law_refused" : Str) ++ (".<locals>." : Str) ++ ("<lambda>" : Str)))]).b.cl 33) "finer" ["self", "other"] (spOf (GG K cThinwallError cBadSize cUnknownCase cSizeMismatch cSplit [(pR22, (("_law_refused" : Str) ++ (".<locals>." : Str) ++ ("<lambda>" : Str)))]) f_Split_finer 2) := ⟨_, _, ⟨pgSplit, hdSplit, poSplit, saSplit⟩, ⟨a7, i7, k7⟩, B7, ok_Split_finer (G := (GG K cThinwallError cBadSize cUnknownCase cSizeMismatch cSplit [(pR22, (("_law_refused" : Str) ++ (".<locals>." : Str) ++ ("<lambda>" : Str)))])) F7 TT (C_check_sizes := C_check_sizes) (C_Split_together := C_Split_together)⟩
  have C_Split___eq__ : CalE l.prog w K mg base 1 ((GG K cThinwallError cBadSize cUnknownCase cSizeMismatch cSplit [(pR22, (("_law_refused" : Str) ++ (".<locals>." : Str) ++ ("<lambda>" : Str)))]).b.cl 33) (spOf (GG K cThinwallError cBadSize cUnknownCase cSizeMismatch cSplit [(pR22, (("_law_refused" : Str) ++ (".<locals>." : Str) ++ ("<lambda>" : Str)))]) f_Split___eq__ 2) := ⟨_, _, ⟨a8, eqnSplit, i8, clmSplit⟩, B8, ok_Split___eq__ (G := (GG K cThinwallError cBadSize cUnknownCase cSizeMismatch cSplit [(pR22, (("_law_refused" : Str) ++ (".<locals>." : Str) ++ ("<lambda>" : Str)))])) F8 TT ⟩
  have C_together_marks : DL.Cal l.prog w K mg base CX0 2 "together_marks" ["first", "second"] (spOf (GG K cThinwallError cBadSize cUnknownCase cSizeMismatch cSplit [(pR22, (("_law_refused" : Str) ++ (".<locals>." : Str) ++ ("<lambda>" : Str)))]) f_together_marks 2) := ⟨_, _, PySem.W.mg_of X G0 a9, k9, B9, ok_together_marks (G := (GG K cThinwallError cBadSize cUnknownCase cSizeMismatch cSplit [(pR22, (("_law_refused" : Str) ++ (".<locals>." : Str) ++ ("<lambda>" : Str)))])) F9 TT (C_least_marks := C_least_marks)⟩
  have C_Split___and__ : DL.CalB l.prog w K mg base (L2.CX l.prog w) 6 ((GG K cThinwallError cBadSize cUnknownCase cSizeMismatch cSplit [(pR22, (("_law_refused" : Str) ++ (".<locals>." : Str) ++ ("<lambda>" : Str)))]).b.cl 33) .BitAnd (spOf (GG K cThinwallError cBadSize cUnknownCase cSizeMismatch cSplit [(pR22, (("_law_refused" : Str) ++ (".<locals>." : Str) ++ ("<lambda>" : Str)))]) f_Split___and__ 2) := ⟨_, _, ⟨sfSplit, a10, i10⟩, B10, ok_Split___and__ (G := (GG K cThinwallError cBadSize cUnknownCase cSizeMismatch cSplit [(pR22, (("_law_refused" : Str) ++ (".<locals>." : Str) ++ ("<lambda>" : Str)))])) F10 TT (C_Split := C_Split) (C_check_sizes := C_check_sizes) (C_together_marks := C_together_marks)⟩
  have C_joined_marks : DL.Cal l.prog w K mg base CX0 1 "joined_marks" ["first", "second"] (spOf (GG K cThinwallError cBadSize cUnknownCase cSizeMismatch cSplit [(pR22, (("_law_refused" : Str) ++ (".<locals>." : Str) ++ ("<lambda>" : Str)))]) f_joined_marks 2) := ⟨_, _, PySem.W.mg_of X G0 a11, k11, B11, ok_joined_marks (G := (GG K cThinwallError cBadSize cUnknownCase cSizeMismatch cSplit [(pR22, (("_law_refused" : Str) ++ (".<locals>." : Str) ++ ("<lambda>" : Str)))])) F11 TT ⟩
  have C_Split___or__ : DL.CalB l.prog w K mg base (L2.CX l.prog w) 6 ((GG K cThinwallError cBadSize cUnknownCase cSizeMismatch cSplit [(pR22, (("_law_refused" : Str) ++ (".<locals>." : Str) ++ ("<lambda>" : Str)))]).b.cl 33) .BitOr (spOf (GG K cThinwallError cBadSize cUnknownCase cSizeMismatch cSplit [(pR22, (("_law_refused" : Str) ++ (".<locals>." : Str) ++ ("<lambda>" : Str)))]) f_Split___or__ 2) := ⟨_, _, ⟨sfSplit, a12, i12⟩, B12, ok_Split___or__ (G := (GG K cThinwallError cBadSize cUnknownCase cSizeMismatch cSplit [(pR22, (("_law_refused" : Str) ++ (".<locals>." : Str) ++ ("<lambda>" : Str)))])) F12 TT (C_Split := C_Split) (C_check_sizes := C_check_sizes) (C_joined_marks := C_joined_marks)⟩
  have C__law_start : DL.Cal l.prog w K mg base CX0 1 "_law_start" ["script"] (spOf (GG K cThinwallError cBadSize cUnknownCase cSizeMismatch cSplit [(pR22, (("_law_refused" : Str) ++ (".<locals>." : Str) ++ ("<lambda>" : Str)))]) f__law_start 1) := ⟨_, _, PySem.W.mg_of X G0 a13, k13, B13, ok__law_start (G := (GG K cThinwallError cBadSize cUnknownCase cSizeMismatch cSplit [(pR22, (("_law_refused" : Str) ++ (".<locals>." : Str) ++ ("<lambda>" : Str)))])) F13 TT ⟩
  have C__law_take : DL.Cal l.prog w K mg base CX0 1 "_law_take" ["bag", "many"] (spOf (GG K cThinwallError cBadSize cUnknownCase cSizeMismatch cSplit [(pR22, (("_law_refused" : Str) ++ (".<locals>." : Str) ++ ("<lambda>" : Str)))]) f__law_take 2) := ⟨_, _, PySem.W.mg_of X G0 a14, k14, B14, ok__law_take (G := (GG K cThinwallError cBadSize cUnknownCase cSizeMismatch cSplit [(pR22, (("_law_refused" : Str) ++ (".<locals>." : Str) ++ ("<lambda>" : Str)))])) F14 TT ⟩
  have S15_0 : Cal l.prog w K mg base CX0 0 "_law_same" ["actual", "due"] (spOf (GG K cThinwallError cBadSize cUnknownCase cSizeMismatch cSplit [(pR22, (("_law_refused" : Str) ++ (".<locals>." : Str) ++ ("<lambda>" : Str)))]) (f__law_same 0) 2) := ⟨_, _, PySem.W.mg_of X G0 a15, k15, B15, fn_void void_none⟩
  have S15_1 : Cal l.prog w K mg base CX0 1 "_law_same" ["actual", "due"] (spOf (GG K cThinwallError cBadSize cUnknownCase cSizeMismatch cSplit [(pR22, (("_law_refused" : Str) ++ (".<locals>." : Str) ++ ("<lambda>" : Str)))]) (f__law_same 1) 2) := ⟨_, _, PySem.W.mg_of X G0 a15, k15, B15, ok__law_same (G := (GG K cThinwallError cBadSize cUnknownCase cSizeMismatch cSplit [(pR22, (("_law_refused" : Str) ++ (".<locals>." : Str) ++ ("<lambda>" : Str)))])) 0 F15 TT S15_0 ⟩
  have S15_2 : Cal l.prog w K mg base CX0 2 "_law_same" ["actual", "due"] (spOf (GG K cThinwallError cBadSize cUnknownCase cSizeMismatch cSplit [(pR22, (("_law_refused" : Str) ++ (".<locals>." : Str) ++ ("<lambda>" : Str)))]) (f__law_same 2) 2) := ⟨_, _, PySem.W.mg_of X G0 a15, k15, B15, ok__law_same (G := (GG K cThinwallError cBadSize cUnknownCase cSizeMismatch cSplit [(pR22, (("_law_refused" : Str) ++ (".<locals>." : Str) ++ ("<lambda>" : Str)))])) 1 F15 TT S15_1 ⟩
  have S15_3 : Cal l.prog w K mg base CX0 3 "_law_same" ["actual", "due"] (spOf (GG K cThinwallError cBadSize cUnknownCase cSizeMismatch cSplit [(pR22, (("_law_refused" : Str) ++ (".<locals>." : Str) ++ ("<lambda>" : Str)))]) (f__law_same 3) 2) := ⟨_, _, PySem.W.mg_of X G0 a15, k15, B15, ok__law_same (G := (GG K cThinwallError cBadSize cUnknownCase cSizeMismatch cSplit [(pR22, (("_law_refused" : Str) ++ (".<locals>." : Str) ++ ("<lambda>" : Str)))])) 2 F15 TT S15_2 ⟩
  have S15_4 : Cal l.prog w K mg base CX0 4 "_law_same" ["actual", "due"] (spOf (GG K cThinwallError cBadSize cUnknownCase cSizeMismatch cSplit [(pR22, (("_law_refused" : Str) ++ (".<locals>." : Str) ++ ("<lambda>" : Str)))]) (f__law_same 4) 2) := ⟨_, _, PySem.W.mg_of X G0 a15, k15, B15, ok__law_same (G := (GG K cThinwallError cBadSize cUnknownCase cSizeMismatch cSplit [(pR22, (("_law_refused" : Str) ++ (".<locals>." : Str) ++ ("<lambda>" : Str)))])) 3 F15 TT S15_3 ⟩
  have C__law_same := S15_4
  have C__law_low : DL.Cal l.prog w K mg base CX0 1 "_law_low" ["marks"] (spOf (GG K cThinwallError cBadSize cUnknownCase cSizeMismatch cSplit [(pR22, (("_law_refused" : Str) ++ (".<locals>." : Str) ++ ("<lambda>" : Str)))]) f__law_low 1) := ⟨_, _, PySem.W.mg_of X G0 a16, k16, B16, ok__law_low (G := (GG K cThinwallError cBadSize cUnknownCase cSizeMismatch cSplit [(pR22, (("_law_refused" : Str) ++ (".<locals>." : Str) ++ ("<lambda>" : Str)))])) F16 TT ⟩
  have C__law_meet : DL.Cal l.prog w K mg base CX0 1 "_law_meet" ["one", "two"] (spOf (GG K cThinwallError cBadSize cUnknownCase cSizeMismatch cSplit [(pR22, (("_law_refused" : Str) ++ (".<locals>." : Str) ++ ("<lambda>" : Str)))]) f__law_meet 2) := ⟨_, _, PySem.W.mg_of X G0 a17, k17, B17, ok__law_meet (G := (GG K cThinwallError cBadSize cUnknownCase cSizeMismatch cSplit [(pR22, (("_law_refused" : Str) ++ (".<locals>." : Str) ++ ("<lambda>" : Str)))])) F17 TT ⟩
  have C__law_join : DL.Cal l.prog w K mg base CX0 1 "_law_join" ["one", "two"] (spOf (GG K cThinwallError cBadSize cUnknownCase cSizeMismatch cSplit [(pR22, (("_law_refused" : Str) ++ (".<locals>." : Str) ++ ("<lambda>" : Str)))]) f__law_join 2) := ⟨_, _, PySem.W.mg_of X G0 a18, k18, B18, ok__law_join (G := (GG K cThinwallError cBadSize cUnknownCase cSizeMismatch cSplit [(pR22, (("_law_refused" : Str) ++ (".<locals>." : Str) ++ ("<lambda>" : Str)))])) F18 TT ⟩
  have C__law_marks : DL.Cal l.prog w K mg base CX0 2 "_law_marks" ["bag", "many"] (spOf (GG K cThinwallError cBadSize cUnknownCase cSizeMismatch cSplit [(pR22, (("_law_refused" : Str) ++ (".<locals>." : Str) ++ ("<lambda>" : Str)))]) f__law_marks 2) := ⟨_, _, PySem.W.mg_of X G0 a19, k19, B19, ok__law_marks (G := (GG K cThinwallError cBadSize cUnknownCase cSizeMismatch cSplit [(pR22, (("_law_refused" : Str) ++ (".<locals>." : Str) ++ ("<lambda>" : Str)))])) F19 TT (C__law_take := C__law_take)⟩
  have C__law_third : DL.Cal l.prog w K mg base CX0 3 "_law_third" ["bag", "one", "two"] (spOf (GG K cThinwallError cBadSize cUnknownCase cSizeMismatch cSplit [(pR22, (("_law_refused" : Str) ++ (".<locals>." : Str) ++ ("<lambda>" : Str)))]) f__law_third 3) := ⟨_, _, PySem.W.mg_of X G0 a20, k20, B20, ok__law_third (G := (GG K cThinwallError cBadSize cUnknownCase cSizeMismatch cSplit [(pR22, (("_law_refused" : Str) ++ (".<locals>." : Str) ++ ("<lambda>" : Str)))])) F20 TT (C__law_take := C__law_take) (C__law_meet := C__law_meet) (C__law_join := C__law_join) (C__law_marks := C__law_marks)⟩
  have C__law_finer : DL.Cal l.prog w K mg base CX0 1 "_law_finer" ["one", "two"] (spOf (GG K cThinwallError cBadSize cUnknownCase cSizeMismatch cSplit [(pR22, (("_law_refused" : Str) ++ (".<locals>." : Str) ++ ("<lambda>" : Str)))]) f__law_finer 2) := ⟨_, _, PySem.W.mg_of X G0 a21, k21, B21, ok__law_finer (G := (GG K cThinwallError cBadSize cUnknownCase cSizeMismatch cSplit [(pR22, (("_law_refused" : Str) ++ (".<locals>." : Str) ++ ("<lambda>" : Str)))])) F21 TT ⟩
  have C__law_refused : DL.Cal l.prog w K mg base CX0 9 "_law_refused" ["left", "odd", "many", "wrong"] (spOf (GG K cThinwallError cBadSize cUnknownCase cSizeMismatch cSplit [(pR22, (("_law_refused" : Str) ++ (".<locals>." : Str) ++ ("<lambda>" : Str)))]) f__law_refused 4) := ⟨_, _, PySem.W.mg_of X G0 a22, k22, B22, ok__law_refused (G := (GG K cThinwallError cBadSize cUnknownCase cSizeMismatch cSplit [(pR22, (("_law_refused" : Str) ++ (".<locals>." : Str) ++ ("<lambda>" : Str)))])) (Tl := [(pR22, (("_law_refused" : Str) ++ (".<locals>." : Str) ++ ("<lambda>" : Str)))]) ⟨_, _, _, _, _, _, _, _, rfl, l22, cq22⟩ TT (TBs (cR22, pR22) (by simp)) (by simp) (fun p hp h => by simp only [List.mem_cons, List.not_mem_nil, or_false] at hp; rcases hp with rfl <;> first | rfl | exact absurd h (by first | assumption | exact Ne.symm (by assumption))) rfl (C_Split_finer := C_Split_finer) (C_Split___and__ := C_Split___and__) (C_Split___or__ := C_Split___or__) (C__law_same := C__law_same) (C__law_told := C__law_told)⟩
  have C_Split_marks : DL.CalM l.prog w K mg base CX0 1 ((GG K cThinwallError cBadSize cUnknownCase cSizeMismatch cSplit [(pR22, (("_law_refused" : Str) ++ (".<locals>." : Str) ++ ("<lambda>" : Str)))]).b.cl 33) "marks" ["self"] (spOf (GG K cThinwallError cBadSize cUnknownCase cSizeMismatch cSplit [(pR22, (("_law_refused" : Str) ++ (".<locals>." : Str) ++ ("<lambda>" : Str)))]) f_Split_marks 1) := ⟨_, _, ⟨pgSplit, hdSplit, poSplit, saSplit⟩, ⟨a23, i23, k23⟩, B23, ok_Split_marks (G := (GG K cThinwallError cBadSize cUnknownCase cSizeMismatch cSplit [(pR22, (("_law_refused" : Str) ++ (".<locals>." : Str) ++ ("<lambda>" : Str)))])) F23 TT ⟩
  have C__law_shown : DL.Cal l.prog w K mg base CX0 5 "_law_shown" ["splits", "rows"] (spOf (GG K cThinwallError cBadSize cUnknownCase cSizeMismatch cSplit [(pR22, (("_law_refused" : Str) ++ (".<locals>." : Str) ++ ("<lambda>" : Str)))]) f__law_shown 2) := ⟨_, _, PySem.W.mg_of X G0 a24, k24, B24, ok__law_shown (G := (GG K cThinwallError cBadSize cUnknownCase cSizeMismatch cSplit [(pR22, (("_law_refused" : Str) ++ (".<locals>." : Str) ++ ("<lambda>" : Str)))])) F24 TT (C__law_same := C__law_same) (C_Split_marks := C_Split_marks)⟩
  exact ok_law (G := (GG K cThinwallError cBadSize cUnknownCase cSizeMismatch cSplit [(pR22, (("_law_refused" : Str) ++ (".<locals>." : Str) ++ ("<lambda>" : Str)))])) F25 TT (C_Split := C_Split) (C_Split_finer := C_Split_finer) (C_Split___eq__ := C_Split___eq__) (C_Split___and__ := C_Split___and__) (C_Split___or__ := C_Split___or__) (C__law_start := C__law_start) (C__law_take := C__law_take) (C__law_same := C__law_same) (C__law_low := C__law_low) (C__law_meet := C__law_meet) (C__law_join := C__law_join) (C__law_marks := C__law_marks) (C__law_third := C__law_third) (C__law_finer := C__law_finer) (C__law_refused := C__law_refused) (C__law_shown := C__law_shown)
end K


namespace K
open PySem ML
/-! ### the draws -/
theorem lg1 : Nat.log2 4099 < 9000 := by decide +kernel
theorem lg2 : Nat.log2 127 < 9000 := by decide +kernel

theorem start_ok (l : List Int) : ∃ b, f__law_start [.fr (.rol (l.map .int))] [] = some (.ret (.rf 0) (bagH b)) := by
  have cut : ∀ hp : List O, gSl true hp (.fr (.rol (l.map .int))) none (some 63) = some (.fr (.lst ((cutD l none (some 63)).map .int)), hp) := fun hp => by
    unfold gSl
    simp only [vseq_rol]
    have : cutD ((l.map D.int).map PV.fr) none (some 63) = ((cutD l none (some 63)).map D.int).map .fr := by
      unfold cutD
      simp only [List.length_map, List.map_take, List.map_drop]
    rw [this, mkL_map]
    rfl
  have hlen : (cutD l none (some 63)).length ≤ 63 := by
    unfold cutD
    rw [List.length_take]
    simp only [HT.sIx]
    have : min ((63 : Int)).toNat l.length ≤ 63 := Nat.min_le_left _ _
    simp only [show ¬ ((63 : Int) < 0) by decide, if_false]
    omega
  generalize cutD l none (some 63) = c at cut hlen
  let F : Int → Int := fun x => if 0 ≤ x then x else -1 - x
  have loop : ∀ (m : List Int) (s : Int) (p : Option PV) (o0 o1 : Option PV), ∃ s' q, loopI (fun _ => true) (xgName 2) (zAsg 3 (xOp gMod (xCB gInt (xCons (xOp (gAdd true) (xOp (gAdd true) (xOp (gMul true) (xVar 3) (xC (.int 48271))) (xOp gMod (xVar 2) (xC (.int 1000003)))) (xC (.int 11))) xNil)) (xC (.int 2147483647)))) ((m.map D.int).map PV.fr) [o0, o1, p, some (.fr (.int s))] [] = some (.next [o0, o1, q, some (.fr (.int s'))] []) := by
    intro m
    induction m with
    | nil => intro s p o0 o1; exact ⟨s, p, loopI_nil rfl⟩
    | cons x m ih =>
      intro s p o0 o1
      obtain ⟨s', q, e⟩ := ih ((s * 48271 + x % 1000003 + 11) % 2147483647) (some (.fr (.int x))) o0 o1
      refine ⟨s', q, ?_⟩
      rw [List.map_cons, List.map_cons, loopI_next rfl (en1 := [o0, o1, some (.fr (.int x)), some (.fr (.int s))]) rfl _, e]
      simp [zAsg, zDrop, zRet, zIf, zNop, zSet, xs_ok, xb_ok, xVar, xC, xCons, xNil, xOp, xUn, xCB, xBM, lf_some', nox_ok, xTest, xNot, xAnd, xOr, xIf, xAndV, gI, gSub, gMod, gFdv, gPow, cPow, gLt, gLe, gGt, gGe, gAdd, gMul, gInt, xgName, cMul]
  obtain ⟨s', q, el⟩ := loop (c.map F) 120240 none (some (.fr (.rol (l.map .int)))) (some (.fr (LI (c.map F))))
  refine ⟨((c.map F).filter (fun x => decide (10 ^ 18 ≤ x)), s', 0), fn_of_w ?_⟩
  unfold b__law_start
  refine w_step (en1 := [some (.fr (.rol (l.map .int))), some (.fr (LI (c.map F))), none, none]) (hp1 := []) ?_ ?_
  · unfold zAsg
    rw [xLc_all (γ := Int) (fun i => .fr (.int i)) (fun i => .int (F i)) c (ck := fun _ => true) (by simp [xiSeq, xSl, zAsg, zDrop, zRet, zIf, zNop, zSet, xs_ok, xb_ok, xVar, xC, xCons, xNil, xOp, xUn, xCB, xBM, lf_some', nox_ok, xTest, xNot, xAnd, xOr, xIf, xAndV, gI, gSub, gMod, gFdv, gPow, cPow, gLt, gLe, gGt, gGe, gAdd, gMul, gInt, xgName, xoNo, xoAt, cut, vseq, itemsD, ckP]) rfl (by omega) fun i hi => ?_]
    · simp [zAsg, zDrop, zRet, zIf, zNop, zSet, xs_ok, xb_ok, xVar, xC, xCons, xNil, xOp, xUn, xCB, xBM, lf_some', nox_ok, xTest, xNot, xAnd, xOr, xIf, xAndV, gI, gSub, gMod, gFdv, gPow, cPow, gLt, gLe, gGt, gGe, gAdd, gMul, gInt, xgName]
    · refine ⟨_, rfl, ?_⟩
      by_cases h : 0 ≤ i <;> simp [zAsg, zDrop, zRet, zIf, zNop, zSet, xs_ok, xb_ok, xVar, xC, xCons, xNil, xOp, xUn, xCB, xBM, lf_some', nox_ok, xTest, xNot, xAnd, xOr, xIf, xAndV, gI, gSub, gMod, gFdv, gPow, cPow, gLt, gLe, gGt, gGe, gAdd, gMul, gInt, xgName, wipeE, h, F, xUn, gNeg]
  refine w_step (en1 := [some (.fr (.rol (l.map .int))), some (.fr (LI (c.map F))), none, some (.fr (.int 120240))]) (hp1 := []) rfl ?_
  refine w_step (en1 := [some (.fr (.rol (l.map .int))), some (.fr (LI (c.map F))), q, some (.fr (.int s'))]) (hp1 := []) ?_ ?_
  · unfold zFor
    simp only [xiSeq, xVar, List.getElem?_cons_zero, List.getElem?_cons_succ, xb_ok, vseq_lst, xs_ok, ckP]
    exact el
  refine w_of (x := .ret (.rf 1) [.lst (((c.map F).filter (fun x => decide (10 ^ 18 ≤ x))).map .int), .mix [.rf 0, .fr (.int s'), .fr (.int 0)]]) ?_ ?_
  · unfold zRet xLst
    simp only [xCons]
    rw [xLc_filterO (γ := Int) (fun i => .fr (.int i)) (fun i => decide (10 ^ 18 ≤ i)) (fun i => .int i) (c.map F) (ck := fun _ => true) (by simp [xiSeq, zAsg, zDrop, zRet, zIf, zNop, zSet, xs_ok, xb_ok, xVar, xC, xCons, xNil, xOp, xUn, xCB, xBM, lf_some', nox_ok, xTest, xNot, xAnd, xOr, xIf, xAndV, gI, gSub, gMod, gFdv, gPow, cPow, gLt, gLe, gGt, gGe, gAdd, gMul, gInt, xgName, vseq, itemsD, ckP]) rfl (by rw [List.length_map]; omega) fun i hi => ?_]
    · simp [zAsg, zDrop, zRet, zIf, zNop, zSet, xs_ok, xb_ok, xVar, xC, xCons, xNil, xOp, xUn, xCB, xBM, lf_some', nox_ok, xTest, xNot, xAnd, xOr, xIf, xAndV, gI, gSub, gMod, gFdv, gPow, cPow, gLt, gLe, gGt, gGe, gAdd, gMul, gInt, xgName, mkL, unfr, ML.fresh, sz]
    · exact ⟨_, rfl, by simp [zAsg, zDrop, zRet, zIf, zNop, zSet, xs_ok, xb_ok, xVar, xC, xCons, xNil, xOp, xUn, xCB, xBM, lf_some', nox_ok, xTest, xNot, xAnd, xOr, xIf, xAndV, gI, gSub, gMod, gFdv, gPow, cPow, gLt, gLe, gGt, gGe, gAdd, gMul, gInt, xgName, wipeE], fun _ => by simp [zAsg, zDrop, zRet, zIf, zNop, zSet, xs_ok, xb_ok, xVar, xC, xCons, xNil, xOp, xUn, xCB, xBM, lf_some', nox_ok, xTest, xNot, xAnd, xOr, xIf, xAndV, gI, gSub, gMod, gFdv, gPow, cPow, gLt, gLe, gGt, gGe, gAdd, gMul, gInt, xgName, wipeE]⟩
  · simp [fnOut, outR, gc, gcK, renP, subH, bagH, refAt, refO, refP, renO, renPs, List.idxOf, List.findIdx, List.findIdx.go]

theorem take_ok (b : Bag) (m : Int) (h0 : 0 < m) (h1 : m.natAbs.log2 < 9000) : ∃ d b', f__law_take [.rf 0, .fr (.int m)] (bagH b) = some (.ret (.fr (.int d)) (bagH b')) ∧ 0 ≤ d ∧ d < m := by
  obtain ⟨cells, s, c⟩ := b
  cases cells with
  | nil =>
    refine ⟨((s * 48271 + (c + 1) * 69621 + 7) % 2147483647 * 16807 + (s * 48271 + (c + 1) * 69621 + 7) % 2147483647 / 4099 + (c + 1) * 40692) % 2147483629 / 127 % m, ([], (s * 48271 + (c + 1) * 69621 + 7) % 2147483647, c + 1), fn_of_w ?_, Int.emod_nonneg _ (by omega), Int.emod_lt_of_pos _ h0⟩
    unfold b__law_take bagH
    refine w_step (en1 := [some (.rf 0), some (.fr (.int m)), some (.rf 1), none, none]) (hp1 := bagH ([], s, c)) (by simp [zAsg, zDrop, zRet, zIf, zNop, zSet, xs_ok, xb_ok, xVar, xC, xCons, xNil, xOp, xUn, xCB, xBM, lf_some', nox_ok, xTest, xNot, xAnd, xOr, xIf, xAndV, gI, gSub, gMod, gFdv, gPow, cPow, gLt, gLe, gGt, gGe, gAdd, gMul, gInt, xgName, bagH, gIx, vseq, L2.atI, L2.ixN]) ?_
    refine w_step (en1 := [some (.rf 0), some (.fr (.int m)), some (.rf 1), none, none]) (hp1 := bagH ([], s, c)) (by simp [zAsg, zDrop, zRet, zIf, zNop, zSet, xs_ok, xb_ok, xVar, xC, xCons, xNil, xOp, xUn, xCB, xBM, lf_some', nox_ok, xTest, xNot, xAnd, xOr, xIf, xAndV, gI, gSub, gMod, gFdv, gPow, cPow, gLt, gLe, gGt, gGe, gAdd, gMul, gInt, xgName, bagH, gEqD, pvD, toD, okD, okL, eqPy, toPy, toPyL, PyData.eqv, PyData.eqvAll, xLst, ML.fresh, mkL, unfr, sz]) ?_
    refine w_step (en1 := [some (.rf 0), some (.fr (.int m)), some (.rf 1), none, none]) (hp1 := bagH ([], s, c + 1)) (by simp [zAsg, zDrop, zRet, zIf, zNop, zSet, xs_ok, xb_ok, xVar, xC, xCons, xNil, xOp, xUn, xCB, xBM, lf_some', nox_ok, xTest, xNot, xAnd, xOr, xIf, xAndV, gI, gSub, gMod, gFdv, gPow, cPow, gLt, gLe, gGt, gGe, gAdd, gMul, gInt, xgName, bagH, gIx, vseq, L2.atI, L2.ixN, ownL, mkL, unfr]) ?_
    refine w_step (en1 := [some (.rf 0), some (.fr (.int m)), some (.rf 1), none, none]) (hp1 := bagH ([], (s * 48271 + (c + 1) * 69621 + 7) % 2147483647, c + 1)) (by simp [zAsg, zDrop, zRet, zIf, zNop, zSet, xs_ok, xb_ok, xVar, xC, xCons, xNil, xOp, xUn, xCB, xBM, lf_some', nox_ok, xTest, xNot, xAnd, xOr, xIf, xAndV, gI, gSub, gMod, gFdv, gPow, cPow, gLt, gLe, gGt, gGe, gAdd, gMul, gInt, xgName, bagH, gIx, vseq, L2.atI, L2.ixN, ownL, mkL, unfr, cMul]) ?_
    refine w_step (hp1 := bagH ([], (s * 48271 + (c + 1) * 69621 + 7) % 2147483647, c + 1)) (by simp [zAsg, zDrop, zRet, zIf, zNop, zSet, xs_ok, xb_ok, xVar, xC, xCons, xNil, xOp, xUn, xCB, xBM, lf_some', nox_ok, xTest, xNot, xAnd, xOr, xIf, xAndV, gI, gSub, gMod, gFdv, gPow, cPow, gLt, gLe, gGt, gGe, gAdd, gMul, gInt, xgName, bagH, gIx, vseq, L2.atI, L2.ixN, cMul, lg1]; rfl) ?_
    refine w_of (by simp [zAsg, zDrop, zRet, zIf, zNop, zSet, xs_ok, xb_ok, xVar, xC, xCons, xNil, xOp, xUn, xCB, xBM, lf_some', nox_ok, xTest, xNot, xAnd, xOr, xIf, xAndV, gI, gSub, gMod, gFdv, gPow, cPow, gLt, gLe, gGt, gGe, gAdd, gMul, gInt, xgName, h0, lg2]; rfl) ?_
    exact outR_bag _ _ []
  | cons x r =>
    refine ⟨x % m, (if x / m = 0 then r else x / m :: r, s, c), fn_of_w ?_, Int.emod_nonneg _ (by omega), Int.emod_lt_of_pos _ h0⟩
    unfold b__law_take bagH
    refine w_step (en1 := [some (.rf 0), some (.fr (.int m)), some (.rf 1), none, none]) (hp1 := bagH (x :: r, s, c)) (by simp [zAsg, zDrop, zRet, zIf, zNop, zSet, xs_ok, xb_ok, xVar, xC, xCons, xNil, xOp, xUn, xCB, xBM, lf_some', nox_ok, xTest, xNot, xAnd, xOr, xIf, xAndV, gI, gSub, gMod, gFdv, gPow, cPow, gLt, gLe, gGt, gGe, gAdd, gMul, gInt, xgName, bagH, gIx, vseq, L2.atI, L2.ixN]) ?_
    have z := outR_bag (.int (x % m)) (if x / m = 0 then r else x / m :: r, s, c) []
    rw [List.append_nil] at z
    refine w_stop (p := .fr (.int (x % m))) (hp1 := bagH (if x / m = 0 then r else x / m :: r, s, c)) (eq_of_w ?_) z
    clear z
    unfold zIf
    have e0 : okL 59 (r.map .int) = true := okL_ints _ r
    simp only [xTest, xOp, xVar, List.getElem?_cons_zero, List.getElem?_cons_succ, xb_ok]
    have e1 : (xLst true xNil) [some (.rf 0), some (.fr (.int m)), some (.rf 1), none, none] (bagH (x :: r, s, c)) = some (.ok (.fr (.lst [])) (bagH (x :: r, s, c))) := rfl
    have e2 : gEqD true (bagH (x :: r, s, c)) (.rf 1) (.fr (.lst [])) = some (.fr (.bl true), bagH (x :: r, s, c)) := by
      simp [gEqD, bagH, pvD, toD, okD, okL, e0, eqPy, toPy, toPyL, PyData.eqv, PyData.eqvAll]
    rw [e1, xb_ok, e2, lf_some', xb_ok, xs_ok, if_pos rfl]
    refine w_step (en1 := [some (.rf 0), some (.fr (.int m)), some (.rf 1), some (.fr (.int (x % m))), none]) (hp1 := bagH (x :: r, s, c)) (by simp [zAsg, zDrop, zRet, zIf, zNop, zSet, xs_ok, xb_ok, xVar, xC, xCons, xNil, xOp, xUn, xCB, xBM, lf_some', nox_ok, xTest, xNot, xAnd, xOr, xIf, xAndV, gI, gSub, gMod, gFdv, gPow, cPow, gLt, gLe, gGt, gGe, gAdd, gMul, gInt, xgName, bagH, gIx, vseq, L2.atI, L2.ixN, h0]) ?_
    refine w_step (en1 := [some (.rf 0), some (.fr (.int m)), some (.rf 1), some (.fr (.int (x % m))), none]) (hp1 := bagH (x / m :: r, s, c)) (by simp [zAsg, zDrop, zRet, zIf, zNop, zSet, xs_ok, xb_ok, xVar, xC, xCons, xNil, xOp, xUn, xCB, xBM, lf_some', nox_ok, xTest, xNot, xAnd, xOr, xIf, xAndV, gI, gSub, gMod, gFdv, gPow, cPow, gLt, gLe, gGt, gGe, gAdd, gMul, gInt, xgName, bagH, gIx, vseq, L2.atI, L2.ixN, h0, h1, ownL]; rw [show (PV.fr (D.int (x / m)) :: r.map (PV.fr ∘ D.int)) = ((x / m :: r).map D.int).map PV.fr by simp, mkL_map]; rfl) ?_
    by_cases hz : x / m = 0
    · refine w_step (en1 := [some (.rf 0), some (.fr (.int m)), some (.rf 1), some (.fr (.int (x % m))), none]) (hp1 := bagH (r, s, c)) (by simp [zAsg, zDrop, zRet, zIf, zNop, zSet, xs_ok, xb_ok, xVar, xC, xCons, xNil, xOp, xUn, xCB, xBM, lf_some', nox_ok, xTest, xNot, xAnd, xOr, xIf, xAndV, gI, gSub, gMod, gFdv, gPow, cPow, gLt, gLe, gGt, gGe, gAdd, gMul, gInt, xgName, bagH, gIx, vseq, L2.atI, L2.ixN, hz, gEqD, pvD, okD_int, eqPy_int, isL, gPopAt, ownL, smI]; rw [show (r.map (PV.fr ∘ D.int)) = (r.map D.int).map PV.fr by simp, mkL_map]) ?_
      rw [if_pos hz]
      exact w_of (by simp [zAsg, zDrop, zRet, zIf, zNop, zSet, xs_ok, xb_ok, xVar, xC, xCons, xNil, xOp, xUn, xCB, xBM, lf_some', nox_ok, xTest, xNot, xAnd, xOr, xIf, xAndV, gI, gSub, gMod, gFdv, gPow, cPow, gLt, gLe, gGt, gGe, gAdd, gMul, gInt, xgName]) rfl
    · refine w_step (en1 := [some (.rf 0), some (.fr (.int m)), some (.rf 1), some (.fr (.int (x % m))), none]) (hp1 := bagH (x / m :: r, s, c)) (by simp [zAsg, zDrop, zRet, zIf, zNop, zSet, xs_ok, xb_ok, xVar, xC, xCons, xNil, xOp, xUn, xCB, xBM, lf_some', nox_ok, xTest, xNot, xAnd, xOr, xIf, xAndV, gI, gSub, gMod, gFdv, gPow, cPow, gLt, gLe, gGt, gGe, gAdd, gMul, gInt, xgName, bagH, gIx, vseq, L2.atI, L2.ixN, hz, gEqD, pvD, okD_int, eqPy_int]) ?_
      rw [if_neg hz]
      exact w_of (by simp [zAsg, zDrop, zRet, zIf, zNop, zSet, xs_ok, xb_ok, xVar, xC, xCons, xNil, xOp, xUn, xCB, xBM, lf_some', nox_ok, xTest, xNot, xAnd, xOr, xIf, xAndV, gI, gSub, gMod, gFdv, gPow, cPow, gLt, gLe, gGt, gGe, gAdd, gMul, gInt, xgName]) rfl
theorem takeC (b : Bag) (m : Int) (h0 : 0 < m) (h1 : m.natAbs.log2 < 9000) : ∃ d b', (∀ t, callF f__law_take [.rf 0, .fr (.int m)] (bagH b ++ t) = some (.ok (.fr (.int d)) (bagH b' ++ t))) ∧ callF f__law_take [.rf 0, .fr (.int m)] (bagH b) = some (.ok (.fr (.int d)) (bagH b')) ∧ 0 ≤ d ∧ d < m := by
  obtain ⟨d, b', e, h2, h3⟩ := take_ok b m h0 h1
  exact ⟨d, b', fun t => call_bag (ds := [.int m]) e, call_bag' (ds := [.int m]) e, h2, h3⟩
end K


namespace K
open PySem ML
theorem lg_small {m : Int} (h : m.natAbs ≤ 1000000) : m.natAbs.log2 < 9000 := by
  by_cases h0 : m.natAbs = 0
  · rw [h0]; decide
  · have : m.natAbs.log2 < 20 := (Nat.log2_lt h0).mpr (Nat.lt_of_le_of_lt h (by decide))
    omega
theorem ints_of : ∀ {ds : List D}, (∀ d ∈ ds, ∃ z, d = .int z) → ∃ l : List Int, ds = l.map .int ∧ l.length = ds.length
  | [], _ => ⟨[], rfl, rfl⟩
  | d :: ds, h => by
    obtain ⟨z, rfl⟩ := h d List.mem_cons_self
    obtain ⟨l, e, hl⟩ := ints_of fun d' hd => h d' (List.mem_cons_of_mem _ hd)
    exact ⟨z :: l, by rw [e, List.map_cons], by simp [hl]⟩
theorem smI_small {n : Nat} (h : n ≤ 1000) : smI (n : Int) = true := by
  unfold smI
  rw [Bool.and_eq_true, decide_eq_true_eq, decide_eq_true_eq]
  omega
theorem rangeP_map (n : Nat) : rangeP 0 n = (List.range n).map fun i => PV.fr (.int (i : Nat)) := by
  unfold rangeP
  simp
theorem marks_ok (b : Bag) (n : Nat) (h0 : 0 < n) (h : n ≤ 1000) : ∃ l b', f__law_marks [.rf 0, .fr (.int n)] (bagH b) = some (.ret (.fr (LI l)) (bagH b')) ∧ l.length = n := by
  obtain ⟨d, b1, -, e1, h1, h2⟩ := takeC b n (by omega) (lg_small (by omega))
  obtain ⟨ds, b2, e2, h3, h4⟩ := xLc_fold (xi := xiR1 (xCons (xVar 1) xNil)) (g := xgName 3) (x := xCall0 f__law_take (xCons (xVar 0) (xCons (xVar 2) xNil))) (vs := [3]) (en := [some (.rf 0), some (.fr (.int n)), some (.fr (.int (1 + d))), none]) (fun i : Nat => .fr (.int i)) bagH (fun _ _ d _ => ∃ z, d = .int z) (List.range n) b1 (ck := fun _ => true)
    (by simp only [xiR1, xCons, xVar, List.getElem?_cons_zero, List.getElem?_cons_succ, xb_ok, xNil, smI_small h, if_true, Int.toNat_natCast, rangeP_map]) (fun _ => rfl) (by rw [List.length_range]; omega) fun i hi s => by
      obtain ⟨d', s', -, e', _, _⟩ := takeC s (1 + d) (by omega) (lg_small (by omega))
      exact ⟨_, .int d', s', rfl, by simp [zAsg, zDrop, zRet, zIf, zNop, zSet, xs_ok, xb_ok, xVar, xC, xCons, xNil, xOp, xUn, xCB, xBM, lf_some', nox_ok, xTest, xNot, xAnd, xOr, xIf, xAndV, gI, gSub, gMod, gFdv, gPow, cPow, gLt, gLe, gGt, gGe, gAdd, gMul, gInt, xgName, wipeE, xCall0, e'], d', rfl⟩
  obtain ⟨l, rfl, hl⟩ := ints_of fun d hd => (let ⟨_, _, _, z⟩ := h4 d hd; z)
  refine ⟨l, b2, fn_of_w ?_, by rw [hl, h3, List.length_range]⟩
  unfold b__law_marks
  refine w_step (en1 := [some (.rf 0), some (.fr (.int n)), some (.fr (.int (1 + d))), none]) (hp1 := bagH b1) (by simp [zAsg, zDrop, zRet, zIf, zNop, zSet, xs_ok, xb_ok, xVar, xC, xCons, xNil, xOp, xUn, xCB, xBM, lf_some', nox_ok, xTest, xNot, xAnd, xOr, xIf, xAndV, gI, gSub, gMod, gFdv, gPow, cPow, gLt, gLe, gGt, gGe, gAdd, gMul, gInt, xgName, xCall0, e1]) ?_
  refine w_of (x := .ret (.fr (LI l)) (bagH b2)) (by unfold zRet; rw [e2]; rfl) ?_
  have := outR_bag (LI l) b2 []
  rwa [List.append_nil] at this
theorem marksC (b : Bag) (n : Nat) (h0 : 0 < n) (h : n ≤ 1000) : ∃ l b', (∀ t, callF f__law_marks [.rf 0, .fr (.int n)] (bagH b ++ t) = some (.ok (.fr (LI l)) (bagH b' ++ t))) ∧ callF f__law_marks [.rf 0, .fr (.int n)] (bagH b) = some (.ok (.fr (LI l)) (bagH b')) ∧ l.length = n := by
  obtain ⟨d, b', e, h2⟩ := marks_ok b n h0 h
  exact ⟨d, b', fun t => call_bag (ds := [.int n]) e, call_bag' (ds := [.int n]) e, h2⟩
/-! ### the least marks -/
/-- the first place -/
def ix {α : Type} [DecidableEq α] (l : List α) (x : α) : Nat := l.findIdx fun y => decide (y = x)
theorem ix_cons_eq {α : Type} [DecidableEq α] (l : List α) (x : α) : ix (x :: l) x = 0 := by unfold ix; rw [List.findIdx_cons]; simp
theorem ix_cons_ne {α : Type} [DecidableEq α] {y : α} (l : List α) {x : α} (h : y ≠ x) : ix (y :: l) x = ix l x + 1 := by unfold ix; rw [List.findIdx_cons]; simp [h]
def low {α : Type} [DecidableEq α] (l : List α) : List Int := l.map fun x => ((ix l x : Nat) : Int)
theorem low_len {α : Type} [DecidableEq α] (l : List α) : (low l).length = l.length := by unfold low; simp
theorem idxV_ints (x : Int) : ∀ l : List Int, x ∈ l → idxV (.int x) (l.map L2.V.int) = some (ix l x)
  | [], h => by cases h
  | y :: l, h => by
    rw [List.map_cons]
    unfold idxV
    by_cases e : y = x
    · subst e
      simp [L2.eqV, ix_cons_eq]
    · rw [idxV_ints x l ((List.mem_cons.mp h).resolve_left fun z => e z.symm)]
      simp [L2.eqV, e, ix_cons_ne l e]
abbrev TI (l : List Int) : D := .tup (l.map .int)
def pr2 (p : Int × Int) : D := .tup [.int p.1, .int p.2]
theorem eqPy_pr (p q : Int × Int) : eqPy (pr2 p) (pr2 q) = decide (p = q) := by
  have := eqPy_tup [p.1, p.2] [q.1, q.2]
  unfold pr2
  rw [show D.tup [.int p.1, .int p.2] = .tup ([p.1, p.2].map .int) by rfl, show D.tup [.int q.1, .int q.2] = .tup ([q.1, q.2].map .int) by rfl, this]
  obtain ⟨a, b⟩ := p
  obtain ⟨c, d⟩ := q
  simp
theorem idxD_pr (x : Int × Int) : ∀ l : List (Int × Int), x ∈ l → idxD (pr2 x) (l.map pr2) = some (ix l x)
  | [], h => by cases h
  | y :: l, h => by
    rw [List.map_cons]
    unfold idxD
    rw [eqPy_pr]
    by_cases e : y = x
    · subst e
      simp [ix_cons_eq]
    · rw [idxD_pr x l ((List.mem_cons.mp h).resolve_left fun z => e z.symm)]
      simp [e, ix_cons_ne l e]
theorem law_low_ok (l : List Int) (hl : l.length ≤ 1000) : f__law_low [.fr (LI l)] [] = some (.ret (.fr (LI (low l))) []) := by
  refine fn_of_w ?_
  unfold b__law_low
  refine w_of (x := .ret (.fr (LI (low l))) []) ?_ (outR0 _ [])
  unfold zRet
  rw [xLc_all (γ := Int) (fun i => .fr (.int i)) (fun x => .int (ix l x : Nat)) l (ck := fun _ => true) (by simp [xiSeq, zAsg, zDrop, zRet, zIf, zNop, zSet, xs_ok, xb_ok, xVar, xC, xCons, xNil, xOp, xUn, xCB, xBM, lf_some', nox_ok, xTest, xNot, xAnd, xOr, xIf, xAndV, gI, gSub, gMod, gFdv, gPow, cPow, gLt, gLe, gGt, gGe, gAdd, gMul, gInt, xgName, vseq_lst, ckP]) rfl (by omega) fun i hi => ⟨_, rfl, ?_⟩]
  · rw [xs_ok]; unfold low LI; simp
  · simp only [xBM, xVar, wipeE, List.getElem?_cons_zero, List.getElem?_cons_succ, xb_ok, List.length_cons, List.length_nil, List.map_cons, List.map_nil, List.replicate, List.cons_append, List.nil_append, List.set_cons_succ, List.set_cons_zero]
    simp only [isL, vseq_lst, if_true, xCons, xNil, xVar, List.getElem?_cons_zero, List.getElem?_cons_succ, xb_ok, gIndexA, gIndex, flP, flD, flPs_ints, idxV_ints i l hi, alt, lf_some']
theorem okD_pr (n : Nat) (p : Int × Int) : okD (n + 1) (pr2 p) = true := okD_TI n [p.1, p.2]
theorem okL_prs (n : Nat) : ∀ l : List (Int × Int), okL (n + 1) (l.map pr2) = true
  | [] => by unfold okL; rfl
  | x :: l => by rw [List.map_cons]; unfold okL; rw [okL_prs n l, okD_pr]; rfl
theorem flPs_prs : ∀ l : List (Int × Int), l ≠ [] → flPs ((l.map pr2).map PV.fr) = none
  | [], h => absurd rfl h
  | x :: l, _ => rfl
theorem law_meet_ok (a b : List Int) (ha : a.length ≤ 1000) (hab : b.length = a.length) : f__law_meet [.fr (LI a), .fr (LI b)] [] = some (.ret (.fr (LI (low (a.zip b)))) []) := by
  refine fn_of_w ?_
  have hz : (a.zip b).length = a.length := by rw [List.length_zip]; omega
  have hmap : (List.range a.length).map (fun i => pr2 (a.getD i 0, b.getD i 0)) = (a.zip b).map pr2 := by
    apply List.ext_getElem
    · simp [hz]
    · intro i h1 h2
      have h3 : i < a.length := by simpa using h1
      simp [List.getElem?_eq_getElem h3, List.getElem?_eq_getElem (show i < b.length by omega)]
  unfold b__law_meet
  refine w_step (en1 := [some (.fr (LI a)), some (.fr (LI b)), some (.fr (.lst ((a.zip b).map pr2))), none, none]) (hp1 := []) ?_ ?_
  · unfold zAsg
    rw [xLc_all (γ := Nat) (fun i => .fr (.int (i : Nat))) (fun i => pr2 (a.getD i 0, b.getD i 0)) (List.range a.length) (ck := fun _ => true) (by simp [xiR1, zAsg, zDrop, zRet, zIf, zNop, zSet, xs_ok, xb_ok, xVar, xC, xCons, xNil, xOp, xUn, xCB, xBM, lf_some', nox_ok, xTest, xNot, xAnd, xOr, xIf, xAndV, gI, gSub, gMod, gFdv, gPow, cPow, gLt, gLe, gGt, gGe, gAdd, gMul, gInt, xgName, gLen, vseq_lst, smI_small ha, rangeP_map]) rfl (by rw [List.length_range]; omega) fun i hi => ⟨_, rfl, ?_⟩]
    · rw [hmap]; rfl
    · have hi' : i < a.length := List.mem_range.mp hi
      have e1 := gIx_lst [] (a.map .int) i (.int (a.getD i 0)) (by rw [List.getElem?_map, List.getElem?_eq_getElem hi']; simp [List.getElem?_eq_getElem hi'])
      have e2 := gIx_lst [] (b.map .int) i (.int (b.getD i 0)) (by rw [List.getElem?_map, List.getElem?_eq_getElem (show i < b.length by omega)]; simp [List.getElem?_eq_getElem (show i < b.length by omega)])
      simp [xTup, zAsg, zDrop, zRet, zIf, zNop, zSet, xs_ok, xb_ok, xVar, xC, xCons, xNil, xOp, xUn, xCB, xBM, lf_some', nox_ok, xTest, xNot, xAnd, xOr, xIf, xAndV, gI, gSub, gMod, gFdv, gPow, cPow, gLt, gLe, gGt, gGe, gAdd, gMul, gInt, xgName, wipeE, e1, e2, sz, mkT, unfr_cons, unfr_nil, pr2]
  · refine w_of (x := .ret (.fr (LI (low (a.zip b)))) []) ?_ (outR0 _ [])
    unfold zRet
    rw [xLc_all (γ := Int × Int) (fun i => .fr (pr2 i)) (fun x => .int (ix (a.zip b) x : Nat)) (a.zip b) (ck := fun _ => true) (by simp [xiSeq, zAsg, zDrop, zRet, zIf, zNop, zSet, xs_ok, xb_ok, xVar, xC, xCons, xNil, xOp, xUn, xCB, xBM, lf_some', nox_ok, xTest, xNot, xAnd, xOr, xIf, xAndV, gI, gSub, gMod, gFdv, gPow, cPow, gLt, gLe, gGt, gGe, gAdd, gMul, gInt, xgName, vseq_lst, ckP]) rfl (by omega) fun i hi => ⟨_, rfl, ?_⟩]
    · rw [xs_ok]; unfold low LI; simp
    · have e0 : flP (.fr (pr2 i)) = none := rfl
      have e1 : okD 60 (.lst ((a.zip b).map pr2)) = true := by unfold okD; exact okL_prs 58 _
      have e2 : gIndexA [] (.fr (.lst ((a.zip b).map pr2))) [.fr (pr2 i)] = some (.fr (.int (ix (a.zip b) i : Nat)), []) := by
        unfold gIndexA
        rw [show gIndex [] (.fr (.lst ((a.zip b).map pr2))) [.fr (pr2 i)] = none by unfold gIndex; simp only [e0]]
        simp only [alt, gIndexD, pvD, e1, okD_pr, Bool.and_self, if_true, idxD_pr i _ hi]
      simp only [xBM, xVar, wipeE, List.getElem?_cons_zero, List.getElem?_cons_succ, xb_ok, List.set_cons_succ, List.set_cons_zero]
      simp only [isL, vseq_lst, if_true, xCons, xNil, xVar, List.getElem?_cons_zero, List.getElem?_cons_succ, xb_ok, e2, lf_some']
end K


namespace K
open PySem ML
section
variable {κ : Type} [DecidableEq κ]
theorem atK_put_same (k : κ) (d : D) : ∀ kvs : List (κ × D), atK (putD kvs k d) k = some d
  | [] => by simp [putD, atK]
  | y :: r => by
    unfold putD
    by_cases h : y.1 = k
    · rw [if_pos h]; simp [atK, h]
    · rw [if_neg h]; unfold atK; rw [if_neg h]; exact atK_put_same k d r
theorem atK_put_ne {k j : κ} (d : D) (hj : j ≠ k) : ∀ kvs : List (κ × D), atK (putD kvs k d) j = atK kvs j
  | [] => by simp [putD, atK, Ne.symm hj]
  | y :: r => by
    unfold putD
    by_cases h : y.1 = k
    · rw [if_pos h]; unfold atK; simp only [h, if_neg (Ne.symm hj)]
    · rw [if_neg h]; unfold atK; rw [atK_put_ne d hj r]
theorem put_new {k : κ} {d : D} : ∀ {kvs : List (κ × D)}, atK kvs k = none → putD kvs k d = kvs ++ [(k, d)] ∧ k ∉ kvs.map (·.1)
  | [], _ => ⟨rfl, by simp⟩
  | y :: r, h => by
    unfold atK at h
    split at h
    · cases h
    · rename_i hy
      obtain ⟨h1, h2⟩ := put_new (d := d) h
      unfold putD
      rw [if_neg hy, h1]
      refine ⟨rfl, ?_⟩
      rw [List.map_cons, List.mem_cons, not_or]
      exact ⟨fun z => hy z.symm, h2⟩
end
theorem ix_mem {α : Type} [DecidableEq α] {x : α} : ∀ {pre t : List α}, x ∈ pre → ix (pre ++ t) x = ix pre x
  | [], _, h => by cases h
  | y :: pre, t, h => by
    rw [List.cons_append]
    by_cases e : y = x
    · subst e; rw [ix_cons_eq, ix_cons_eq]
    · rw [ix_cons_ne _ e, ix_cons_ne _ e, ix_mem ((List.mem_cons.mp h).resolve_left fun z => e z.symm)]
theorem ix_new {α : Type} [DecidableEq α] {x : α} : ∀ {pre t : List α}, x ∉ pre → ix (pre ++ x :: t) x = pre.length
  | [], _, _ => ix_cons_eq _ _
  | y :: pre, t, h => by
    rw [List.cons_append, List.length_cons]
    have e : y ≠ x := fun z => h (by rw [z]; exact List.mem_cons_self)
    rw [ix_cons_ne _ e, ix_new fun z => h (List.mem_cons_of_mem _ z)]
abbrev lmB : XS := (zSeq (zIf (xTest (xDIn true (xVar 4) (xVar 1))) (zDPut (xVar 1) (xVar 4) (xVar 3)) zNop)
    (zDrop (xBM gAppend (xVar 2) (xCons (xDGet (xVar 1) (xVar 4)) xNil))))
section
variable {γ κ : Type} [DecidableEq γ] [DecidableEq κ]
theorem lm_loop (e : γ → D) (kk : γ → κ) (mkO : List (κ × D) → O) (hk : ∀ x y, kk x = kk y → x = y)
    (hAt : ∀ kvs fs x, dAt [mkO kvs, .lst fs] (.rf 0) (.fr (e x)) = some (atK kvs (kk x)))
    (hPut : ∀ kvs fs x d, (kvs.map (·.1)).Nodup → kvs.length + 1 ≤ 100000 → dPut [mkO kvs, .lst fs] (.rf 0) (.fr (e x)) (.fr d) = some [mkO (putD kvs (kk x) d), .lst fs]) (m : Option PV) :
    ∀ (rest pre : List γ) (kvs : List (κ × D)) (fs : List D) (p q : Option PV), fs.length = pre.length → (∀ x, atK kvs (kk x) = if x ∈ pre then some (.int (ix pre x : Nat)) else none) → (kvs.map (·.1)).Nodup → kvs.length ≤ pre.length → pre.length + rest.length ≤ 1000 →
    ∃ en kvs', loopI (fun _ => true) (xgTup 2 (xgCons (xgName 3) (xgCons (xgName 4) xgNil))) lmB (enumP pre.length (rest.map e)) [m, some (.rf 0), some (.rf 1), p, q] [mkO kvs, .lst fs] = some (.next en [mkO kvs', .lst (fs ++ rest.map fun x => .int (ix (pre ++ rest) x : Nat))]) ∧ en.getD 2 none = some (.rf 1)
  | [], pre, kvs, fs, p, q, _, _, _, _, _ => ⟨_, kvs, by rw [List.map_nil, List.map_nil, List.append_nil]; exact loopI_nil rfl, rfl⟩
  | x :: rest, pre, kvs, fs, p, q, h5, h1, h2, h3, h4 => by
    rw [List.length_cons] at h4
    have hx0 := h1 x
    let v : Nat := ix (pre ++ x :: rest) x
    obtain ⟨kvs1, hb, k1, k2, k3⟩ : ∃ kvs1, lmB [m, some (.rf 0), some (.rf 1), some (.fr (.int (pre.length : Nat))), some (.fr (e x))] [mkO kvs, .lst fs] = some (.next [m, some (.rf 0), some (.rf 1), some (.fr (.int (pre.length : Nat))), some (.fr (e x))] [mkO kvs1, .lst (fs ++ [.int (v : Nat)])]) ∧
        (∀ y, atK kvs1 (kk y) = if y ∈ pre ++ [x] then some (.int (ix (pre ++ [x]) y : Nat)) else none) ∧ (kvs1.map (·.1)).Nodup ∧ kvs1.length ≤ pre.length + 1 := by
      have fin : ∀ kvs1, atK kvs1 (kk x) = some (.int (v : Nat)) → (zDrop (xBM gAppend (xVar 2) (xCons (xDGet (xVar 1) (xVar 4)) xNil))) [m, some (.rf 0), some (.rf 1), some (.fr (.int (pre.length : Nat))), some (.fr (e x))] [mkO kvs1, .lst fs] = some (.next [m, some (.rf 0), some (.rf 1), some (.fr (.int (pre.length : Nat))), some (.fr (e x))] [mkO kvs1, .lst (fs ++ [.int (v : Nat)])]) := fun kvs1 hv => by
        have e1 := hAt kvs1 fs x
        rw [hv] at e1
        have e2 : mkL (fs.map PV.fr ++ [.fr (.int (v : Nat))]) = .lst (fs ++ [.int (v : Nat)]) := by
          rw [show fs.map PV.fr ++ [PV.fr (D.int (v : Nat))] = (fs ++ [D.int (v : Nat)]).map PV.fr by simp, mkL_map]
        simp [zAsg, zDrop, zRet, zIf, zNop, zSet, xs_ok, xb_ok, xVar, xC, xCons, xNil, xOp, xUn, xCB, xBM, lf_some', nox_ok, xTest, xNot, xAnd, xOr, xIf, xAndV, gI, gSub, gMod, gFdv, gPow, cPow, gLt, gLe, gGt, gGe, gAdd, gMul, gInt, xgName, xDGet, e1, isL, vseq, gAppend, ownL, e2, sz_le (show fs.length + 1 ≤ 100000 by omega)]
      by_cases hm : x ∈ pre
      · rw [if_pos hm] at hx0
        have hv : v = ix pre x := ix_mem hm
        refine ⟨kvs, ?_, fun y => ?_, h2, by omega⟩
        · have e1 := hAt kvs fs x
          rw [hx0] at e1
          unfold lmB zSeq
          simp only [zIf, xTest, xDIn, xVar, List.getElem?_cons_zero, List.getElem?_cons_succ, xb_ok, e1, Option.isSome_some, if_true, Bool.not_true, xs_ok, if_false, zNop]
          simp only [Bool.false_eq_true, if_false]
          exact fin kvs (by rw [hx0, hv])
        · rw [h1 y]
          by_cases hy : y ∈ pre
          · rw [if_pos hy, if_pos (List.mem_append_left _ hy), ix_mem hy]
          · rw [if_neg hy, if_neg fun z => (List.mem_append.mp z).elim hy fun z => hy (by rw [List.mem_singleton.mp z]; exact hm)]
      · rw [if_neg hm] at hx0
        have hv : v = pre.length := ix_new hm
        obtain ⟨n1, n2⟩ := put_new (d := .int (pre.length : Nat)) hx0
        refine ⟨putD kvs (kk x) (.int (pre.length : Nat)), ?_, fun y => ?_, ?_, by rw [n1, List.length_append]; simp; omega⟩
        · have e1 := hAt kvs fs x
          rw [hx0] at e1
          have e2 := hPut kvs fs x (.int (pre.length : Nat)) h2 (by omega)
          unfold lmB zSeq
          simp only [zIf, xTest, xDIn, xVar, List.getElem?_cons_zero, List.getElem?_cons_succ, xb_ok, e1, Option.isSome_none, if_true, Bool.not_false, xs_ok, zDPut, e2]
          exact fin _ (by rw [atK_put_same, hv])
        · by_cases hy : y = x
          · subst hy
            rw [atK_put_same, if_pos (by simp), ix_new hm]
          · rw [atK_put_ne _ (fun z => hy (hk _ _ z)), h1 y]
            by_cases hz : y ∈ pre
            · rw [if_pos hz, if_pos (List.mem_append_left _ hz), ix_mem hz]
            · rw [if_neg hz, if_neg fun z => (List.mem_append.mp z).elim hz fun z => hy (List.mem_singleton.mp z)]
        · rw [n1, List.map_append, List.nodup_append]
          exact ⟨h2, by simp, fun a ha b hb z => by simp at hb; subst hb z; exact n2 ha⟩
    obtain ⟨en, kvs', e2, e3⟩ := lm_loop e kk mkO hk hAt hPut m rest (pre ++ [x]) kvs1 (fs ++ [.int (v : Nat)]) _ _ (by simp [h5]) k1 k2 (by simpa using k3) (by rw [List.length_append]; simp; omega)
    refine ⟨en, kvs', ?_, e3⟩
    rw [List.map_cons]
    unfold enumP
    rw [loopI_next rfl rfl hb]
    rw [show (pre ++ [x]).length = pre.length + 1 by simp] at e2
    rw [e2, List.append_assoc, List.append_assoc]
    rfl
theorem lm_ok (tk : Bool) (e : γ → D) (kk : γ → κ) (mkO : List (κ × D) → O) (hk : ∀ x y, kk x = kk y → x = y) (h0 : (if tk then O.dT [] else O.dK []) = mkO [])
    (hAt : ∀ kvs fs x, dAt [mkO kvs, .lst fs] (.rf 0) (.fr (e x)) = some (atK kvs (kk x)))
    (hPut : ∀ kvs fs x d, (kvs.map (·.1)).Nodup → kvs.length + 1 ≤ 100000 → dPut [mkO kvs, .lst fs] (.rf 0) (.fr (e x)) (.fr d) = some [mkO (putD kvs (kk x) d), .lst fs]) (l : List γ) (hl : l.length ≤ 1000) :
    ∃ hp, b_least_marks_ tk [some (.fr (.lst (l.map e))), none, none, none, none] [] = some (.ret (.fr (LI (low l))) hp) := by
  obtain ⟨en, kvs', e1, e2⟩ := lm_loop e kk mkO hk hAt hPut (some (.fr (.lst (l.map e)))) l [] [] [] none none rfl (fun x => by simp [atK]) (by simp) (by simp) (by simpa using hl)
  refine ⟨[mkO kvs', .ice (LI (low l))], eq_of_w ?_⟩
  unfold b_least_marks_
  refine w_step (en1 := [some (.fr (.lst (l.map e))), some (.rf 0), none, none, none]) (hp1 := [mkO []]) (by simp [zAsg, xDNew, xs_ok, ← h0]) ?_
  refine w_step (en1 := [some (.fr (.lst (l.map e))), some (.rf 0), some (.rf 1), none, none]) (hp1 := [mkO [], .lst []]) (by simp [zAsg, zDrop, zRet, zIf, zNop, zSet, xs_ok, xb_ok, xVar, xC, xCons, xNil, xOp, xUn, xCB, xBM, lf_some', nox_ok, xTest, xNot, xAnd, xOr, xIf, xAndV, gI, gSub, gMod, gFdv, gPow, cPow, gLt, gLe, gGt, gGe, gAdd, gMul, gInt, xgName, xLst, ML.fresh, mkL, unfr, sz]) ?_
  refine w_step (en1 := en) (hp1 := [mkO kvs', .lst (l.map fun x => .int (ix l x : Nat))]) ?_ ?_
  · unfold zFor
    simp only [xiEnA, xCons, xVar, List.getElem?_cons_zero, xb_ok, xNil, vseq_lst, unfr_map, xs_ok, ckP]
    exact e1
  · have e3 : en[2]? = some (some (.rf 1)) := by
      cases h : en[2]? with
      | none => rw [List.getD_eq_getElem?_getD, h] at e2; cases e2
      | some o => rw [List.getD_eq_getElem?_getD, h] at e2; exact congrArg some e2
    refine w_of (x := .ret (.fr (LI (low l))) [mkO kvs', .ice (LI (low l))]) ?_ rfl
    have e4 : l.map (fun x => D.int (ix l x : Nat)) = (low l).map .int := by unfold low; rw [List.map_map]; rfl
    rw [e4]
    simp only [zRet, xFz, xVar, e3, xb_ok, gFz, List.getElem?_cons_succ, List.getElem?_cons_zero, toD, lf_some', xs_ok, List.set_cons_succ, List.set_cons_zero]
end
theorem lm_prs0 (l : List (Int × Int)) (hl : l.length ≤ 1000) : ∃ hp, b_least_marks_ true [some (.fr (.lst (l.map pr2))), none, none, none, none] [] = some (.ret (.fr (LI (low l))) hp) :=
  lm_ok true pr2 (fun x => ([.inl x.1, .inl x.2] : List L2.Key)) .dT (fun x y h => by simpa [Prod.ext_iff] using h) rfl (fun kvs fs x => rfl) (fun kvs fs x d h1 h2 => by simp [dPut, pr2, keyL, keyD, nodupK, h1, sz_le h2]) l hl
theorem lm_prs (l : List (Int × Int)) (hl : l.length ≤ 1000) : f_least_marks [.fr (.lst (l.map pr2))] [] = some (.ret (.fr (LI (low l))) []) := by
  obtain ⟨hp, e⟩ := lm_prs0 l hl
  refine fn_of_w ?_
  refine w_of (x := .ret (.fr (LI (low l))) hp) ?_ (outR0 _ hp)
  show zAlt _ _ [some (.fr (.lst (l.map pr2))), none, none, none, none] [] = _
  unfold zAlt
  rw [e]
  rfl
theorem lm_ints (l : List Int) (hl : l.length ≤ 1000) : f_least_marks [.fr (LI l)] [] = some (.ret (.fr (LI (low l))) []) := by
  cases l with
  | nil => exact lm_prs [] (by simp)
  | cons x l =>
    obtain ⟨hp, e⟩ := lm_ok false D.int (fun x => (.inl x : L2.Key)) .dK (fun x y h => by simpa using h) rfl (fun kvs fs x => rfl) (fun kvs fs x d h1 h2 => by simp [dPut, keyD, nodupK, h1, sz_le h2]) (x :: l) hl
    refine fn_of_w ?_
    refine w_of (x := .ret (.fr (LI (low (x :: l)))) hp) ?_ (outR0 _ hp)
    show zAlt _ _ [some (.fr (LI (x :: l))), none, none, none, none] [] = _
    unfold zAlt
    have h1 : b_least_marks_ true [some (.fr (LI (x :: l))), none, none, none, none] [] = none := by
      have e0 : unfr (l.map (PV.fr ∘ D.int)) = some (l.map .int) := by rw [← List.map_map]; exact unfr_map _
      simp [e0, xb_none, xs_none, b_least_marks_, zSeq, zAsg, zDrop, zRet, zIf, zNop, zSet, xs_ok, xb_ok, xVar, xC, xCons, xNil, xOp, xUn, xCB, xBM, lf_some', nox_ok, xTest, xNot, xAnd, xOr, xIf, xAndV, gI, gSub, gMod, gFdv, gPow, cPow, gLt, gLe, gGt, gGe, gAdd, gMul, gInt, xgName, xDNew, xLst, ML.fresh, mkL, unfr, sz, zFor, xiEnA, vseq_lst, unfr_cons, unfr_map, enumP, loopI, ckP, xgTup, xgCons, xgNil, xDIn, dAt, dGo]
    rw [h1]
    exact e
end K


namespace K
open PySem ML
/-! ### classes of places -/
section
variable {α β : Type} [DecidableEq α] [DecidableEq β]
theorem ix_lt {x : α} : ∀ {l : List α}, x ∈ l → ix l x < l.length
  | [], h => by cases h
  | y :: l, h => by
    by_cases e : y = x
    · subst e; rw [ix_cons_eq]; simp
    · rw [ix_cons_ne _ e]
      have := ix_lt ((List.mem_cons.mp h).resolve_left fun z => e z.symm)
      simp; omega
theorem ix_get {x : α} : ∀ {l : List α}, x ∈ l → l[ix l x]? = some x
  | [], h => by cases h
  | y :: l, h => by
    by_cases e : y = x
    · subst e; rw [ix_cons_eq]; rfl
    · rw [ix_cons_ne _ e, List.getElem?_cons_succ]
      exact ix_get ((List.mem_cons.mp h).resolve_left fun z => e z.symm)
theorem ix_le {x : α} : ∀ {l : List α} {i : Nat}, l[i]? = some x → ix l x ≤ i
  | [], i, h => by simp at h
  | y :: l, i, h => by
    by_cases e : y = x
    · subst e; rw [ix_cons_eq]; exact Nat.zero_le _
    · rw [ix_cons_ne _ e]
      cases i with
      | zero => simp at h; exact absurd h e
      | succ i => have := ix_le (l := l) (i := i) (by simpa using h); omega
end
/-- the place i of a list of ints -/
def at_ (l : List Int) (i : Nat) : Int := l.getD i 0
theorem at_get {l : List Int} {i : Nat} (h : i < l.length) : l[i]? = some (at_ l i) := by
  unfold at_
  rw [List.getElem?_eq_getElem h]
  simp [List.getElem?_eq_getElem h]
/-- a list is its places' least equal ones -/
theorem low_of {l : List Int} {n : Nat} {r : Nat → Nat} {γ : Type} [DecidableEq γ] {f : Nat → γ} {k : List γ} (hk : k = (List.range n).map f) (hr : ∀ i, i < n → r i ≤ i ∧ f (r i) = f i ∧ ∀ j, j < n → f j = f i → r i ≤ j) : low k = (List.range n).map fun i => ((r i : Nat) : Int) := by
  subst hk
  unfold low
  rw [List.map_map]
  apply List.map_congr_left
  intro i hi
  have hi : i < n := List.mem_range.mp hi
  obtain ⟨h1, h2, h3⟩ := hr i hi
  simp only [Function.comp]
  have hm : f i ∈ (List.range n).map f := List.mem_map.mpr ⟨i, List.mem_range.mpr hi, rfl⟩
  have e1 := ix_get hm
  have e2 := ix_lt hm
  rw [List.length_map, List.length_range] at e2
  rw [List.getElem?_map, List.getElem?_range e2] at e1
  have e1 : f (ix ((List.range n).map f) (f i)) = f i := by simpa using e1
  have e3 := h3 _ e2 e1
  have e4 : ix ((List.range n).map f) (f i) ≤ r i := ix_le (by rw [List.getElem?_map, List.getElem?_range (by omega)]; simp [h2])
  congr 1
  omega
theorem range_of {γ : Type} (k : List γ) (d : γ) : k = (List.range k.length).map fun i => k.getD i d := by
  apply List.ext_getElem
  · simp
  · intro i h1 h2
    simp [List.getElem?_eq_getElem h1]
/-- the least place of a list's class -/
theorem low_spec {γ : Type} [DecidableEq γ] (k : List γ) (d : γ) {i : Nat} (hi : i < k.length) : ∃ m : Nat, (low k).getD i 0 = (m : Int) ∧ m ≤ i ∧ k.getD m d = k.getD i d ∧ ∀ j, j < k.length → k.getD j d = k.getD i d → m ≤ j := by
  have hm : k.getD i d ∈ k := by rw [List.getD_eq_getElem?_getD, List.getElem?_eq_getElem hi]; exact List.getElem_mem hi
  refine ⟨ix k (k.getD i d), ?_, ix_le ?_, ?_, fun j hj e => ix_le ?_⟩
  · unfold low
    simp [List.getElem?_eq_getElem hi]
  · simp [List.getElem?_eq_getElem hi]
  · have := ix_get hm
    rw [List.getD_eq_getElem?_getD, this]; rfl
  · rw [← e]; simp [List.getElem?_eq_getElem hj]
/-- two lists with the same classes have the same least places -/
theorem low_congr {γ δ : Type} [DecidableEq γ] [DecidableEq δ] (k : List γ) (m : List δ) (d : γ) (e : δ) (hl : k.length = m.length) (h : ∀ i j, i < k.length → j < k.length → (k.getD i d = k.getD j d ↔ m.getD i e = m.getD j e)) : low k = low m := by
  apply List.ext_getElem
  · rw [low_len, low_len, hl]
  · intro i h1 h2
    have h1' : i < k.length := by rwa [low_len] at h1
    have h2' : i < m.length := by omega
    obtain ⟨a, a1, a2, a3, a4⟩ := low_spec k d h1'
    obtain ⟨b, b1, b2, b3, b4⟩ := low_spec m e h2'
    have g1 : (low k)[i] = (a : Int) := by rw [← a1]; simp [List.getElem?_eq_getElem h1]
    have g2 : (low m)[i] = (b : Int) := by rw [← b1]; simp [List.getElem?_eq_getElem h2]
    rw [g1, g2]
    have := a4 b (by omega) ((h b i (by omega) h1').mpr b3)
    have := b4 a (by omega) ((h a i (by omega) h1').mp a3)
    congr 1
    omega
theorem low_eq_iff {γ : Type} [DecidableEq γ] (k : List γ) (d : γ) {i j : Nat} (hi : i < k.length) (hj : j < k.length) : (low k).getD i 0 = (low k).getD j 0 ↔ k.getD i d = k.getD j d := by
  obtain ⟨a, a1, a2, a3, a4⟩ := low_spec k d hi
  obtain ⟨b, b1, b2, b3, b4⟩ := low_spec k d hj
  rw [a1, b1]
  constructor
  · intro h
    have h : a = b := by omega
    subst h
    rw [← a3, b3]
  · intro h
    have := a4 b (by omega) (by rw [b3, h])
    have := b4 a (by omega) (by rw [a3, h])
    omega
theorem low_low {γ : Type} [DecidableEq γ] (k : List γ) (d : γ) : low (low k) = low k :=
  low_congr (low k) k 0 d (low_len k) fun i j hi hj => low_eq_iff k d (by rwa [low_len] at hi) (by rwa [low_len] at hj)
/-! ### joined -/
/-- the places are linked by the one list or the other -/
def Lk (a b : List Int) (i j : Nat) : Prop := at_ a i = at_ a j ∨ at_ b i = at_ b j
inductive Rl (a b : List Int) (n : Nat) : Nat → Nat → Prop
  | refl (i : Nat) : i < n → Rl a b n i i
  | step {i j k : Nat} : Rl a b n i j → k < n → Lk a b j k → Rl a b n i k
theorem Lk.symm {a b : List Int} {i j : Nat} (h : Lk a b i j) : Lk a b j i := h.elim (fun z => .inl z.symm) fun z => .inr z.symm
section
variable {a b : List Int} {n : Nat}
theorem Rl.lt {i j : Nat} (h : Rl a b n i j) : i < n ∧ j < n := by
  induction h with
  | refl hi => exact ⟨hi, hi⟩
  | step _ hk _ ih => exact ⟨ih.1, hk⟩
theorem Rl.trans {i j k : Nat} (h : Rl a b n i j) (h' : Rl a b n j k) : Rl a b n i k := by
  induction h' with
  | refl _ => exact h
  | step _ hk hl ih => exact .step ih hk hl
theorem Rl.one {i j : Nat} (hi : i < n) (hj : j < n) (h : Lk a b i j) : Rl a b n i j := .step (.refl i hi) hj h
theorem Rl.symm {i j : Nat} (h : Rl a b n i j) : Rl a b n j i := by
  induction h with
  | refl hi => exact .refl _ hi
  | step h1 hk hl ih => exact (Rl.one hk h1.lt.2 hl.symm).trans ih
/-- from a place where P holds to one where it does not there is a link where it ends -/
theorem Rl.edge {P : Nat → Prop} {i j : Nat} (h : Rl a b n i j) (hi : P i) (hj : ¬ P j) : ∃ x y, x < n ∧ y < n ∧ Lk a b x y ∧ P x ∧ ¬ P y ∧ Rl a b n i x ∧ Rl a b n i y := by
  induction h with
  | refl _ => exact absurd hi hj
  | @step j k h1 hk hl ih =>
    by_cases q : P j
    · exact ⟨j, k, h1.lt.2, hk, hl, q, hj, h1, .step h1 hk hl⟩
    · exact ih q
end
/-- the linked places depend on the classes alone -/
theorem Rl.congr {a b a' b' : List Int} {n : Nat} (h : ∀ i j, i < n → j < n → (Lk a b i j → Lk a' b' i j)) {i j : Nat} (r : Rl a b n i j) : Rl a' b' n i j := by
  induction r with
  | refl hi => exact .refl _ hi
  | step h1 hk hl ih => exact .step ih hk (h _ _ ih.lt.2 hk hl)
/-- the join: each place's least linked place -/
structure IsJoin (a b : List Int) (n : Nat) (l : List Int) : Prop where
  len : l.length = n
  at_ : ∀ i, i < n → ∃ m, K.at_ l i = ((m : Nat) : Int) ∧ Rl a b n m i ∧ ∀ j, Rl a b n i j → m ≤ j
theorem IsJoin.uniq {a b a' b' : List Int} {n : Nat} {l l' : List Int} (h : IsJoin a b n l) (h' : IsJoin a' b' n l') (e : ∀ i j, i < n → j < n → (Lk a b i j ↔ Lk a' b' i j)) : l = l' := by
  apply List.ext_getElem
  · rw [h.len, h'.len]
  · intro i h1 h2
    have hi : i < n := by rw [← h.len]; exact h1
    obtain ⟨m, m1, m2, m3⟩ := h.at_ i hi
    obtain ⟨k, k1, k2, k3⟩ := h'.at_ i hi
    have e1 : l[i] = (m : Int) := by rw [← m1]; unfold K.at_; simp [List.getElem?_eq_getElem h1]
    have e2 : l'[i] = (k : Int) := by rw [← k1]; unfold K.at_; simp [List.getElem?_eq_getElem h2]
    rw [e1, e2]
    have := m3 k ((k2.congr fun i j hi hj => (e i j hi hj).mpr).symm)
    have := k3 m ((m2.congr fun i j hi hj => (e i j hi hj).mp).symm)
    congr 1
    omega
/-- a list whose classes are the linked places: its least places are the join -/
theorem isJoin_low {a b : List Int} {n : Nat} {M : List Int} (hl : M.length = n) (h : ∀ i j, i < n → j < n → (at_ M i = at_ M j ↔ Rl a b n i j)) : IsJoin a b n (low M) := by
  refine ⟨by rw [low_len, hl], fun i hi => ?_⟩
  obtain ⟨m, m1, m2, m3, m4⟩ := low_spec M 0 (i := i) (by omega)
  refine ⟨m, m1, (h m i (by omega) hi).mp m3, fun j hj => m4 j (by rw [hl]; exact hj.lt.2) ?_⟩
  exact ((h i j hi hj.lt.2).mpr hj).symm
end K


namespace K
open PySem ML
theorem at_map {l : List Int} {f : Int → Int} {i : Nat} (h : i < l.length) : at_ (l.map f) i = f (at_ l i) := by
  unfold at_
  simp [List.getElem?_eq_getElem h]
/-! ### joined: the program's -/
def stepJ (M : List Int) (k r : Nat) : List Int := M.map fun m => if m = at_ M k then at_ M r else m
def foldJ : Nat → List Nat → List Int → List Int
  | _, [], M => M
  | k, r :: rest, M => foldJ (k + 1) rest (stepJ M k r)
theorem stepJ_len (M : List Int) (k r : Nat) : (stepJ M k r).length = M.length := by unfold stepJ; simp
theorem stepJ_at {M : List Int} {k r i : Nat} (h : i < M.length) : at_ (stepJ M k r) i = if at_ M i = at_ M k then at_ M r else at_ M i := by
  unfold stepJ; rw [at_map h]
theorem foldJ_len : ∀ (rest : List Nat) (k : Nat) (M : List Int), (foldJ k rest M).length = M.length
  | [], _, _ => rfl
  | r :: rest, k, M => by unfold foldJ; rw [foldJ_len rest, stepJ_len]
theorem stepJ_pres {M : List Int} {k r i j : Nat} (hi : i < M.length) (hj : j < M.length) (h : at_ M i = at_ M j) : at_ (stepJ M k r) i = at_ (stepJ M k r) j := by
  rw [stepJ_at hi, stepJ_at hj, h]
theorem foldJ_pres : ∀ (rest : List Nat) (k : Nat) (M : List Int) {i j : Nat}, i < M.length → j < M.length → at_ M i = at_ M j → at_ (foldJ k rest M) i = at_ (foldJ k rest M) j
  | [], _, _, _, _, _, _, h => h
  | r :: rest, k, M, i, j, hi, hj, h => by
    unfold foldJ
    exact foldJ_pres rest (k + 1) _ (by rwa [stepJ_len]) (by rwa [stepJ_len]) (stepJ_pres hi hj h)
theorem foldJ_link : ∀ (rest : List Nat) (k : Nat) (M : List Int) {t r : Nat}, k + rest.length ≤ M.length → (∀ r ∈ rest, r < M.length) → rest[t]? = some r → at_ (foldJ k rest M) (k + t) = at_ (foldJ k rest M) r
  | [], _, _, _, _, _, _, h => by simp at h
  | x :: rest, k, M, 0, r, hk, hr, h => by
    simp at h
    subst h
    have hx := hr x List.mem_cons_self
    rw [List.length_cons] at hk
    unfold foldJ
    refine foldJ_pres rest (k + 1) _ (by rw [stepJ_len]; omega) (by rw [stepJ_len]; omega) ?_
    rw [Nat.add_zero, stepJ_at (by omega), stepJ_at hx, if_pos rfl]
    split <;> rfl
  | x :: rest, k, M, t + 1, r, hk, hr, h => by
    rw [List.length_cons] at hk
    unfold foldJ
    rw [show k + (t + 1) = (k + 1) + t by omega]
    exact foldJ_link rest (k + 1) _ (by rw [stepJ_len]; omega) (fun y hy => by rw [stepJ_len]; exact hr y (List.mem_cons_of_mem _ hy)) (by simpa using h)
theorem foldJ_sound {a b : List Int} {n : Nat} : ∀ (rest : List Nat) (k : Nat) (M : List Int), M.length = n → k + rest.length ≤ n → (∀ t r, rest[t]? = some r → r < n ∧ at_ b (k + t) = at_ b r) → (∀ i j, i < n → j < n → at_ M i = at_ M j → Rl a b n i j) →
    ∀ i j, i < n → j < n → at_ (foldJ k rest M) i = at_ (foldJ k rest M) j → Rl a b n i j
  | [], _, _, _, _, _, h => h
  | r :: rest, k, M, hl, hk, hr, h => by
    rw [List.length_cons] at hk
    unfold foldJ
    refine foldJ_sound rest (k + 1) _ (by rw [stepJ_len, hl]) (by omega) (fun t r' e => ?_) fun i j hi hj e => ?_
    · have := hr (t + 1) r' (by simpa using e)
      rwa [show k + (t + 1) = k + 1 + t by omega] at this
    · obtain ⟨h1, h2⟩ := hr 0 r rfl
      have lk : Rl a b n k r := Rl.one (by omega) h1 (.inr h2)
      rw [stepJ_at (by omega), stepJ_at (by omega)] at e
      by_cases p : at_ M i = at_ M k
      · rw [if_pos p] at e
        have ri := h i k hi (by omega) p
        by_cases q : at_ M j = at_ M k
        · exact ri.trans (h j k hj (by omega) q).symm
        · rw [if_neg q] at e
          exact (ri.trans lk).trans (h r j h1 hj e)
      · rw [if_neg p] at e
        by_cases q : at_ M j = at_ M k
        · rw [if_pos q] at e
          exact ((h i r hi h1 e).trans lk.symm).trans (h j k hj (by omega) q).symm
        · rw [if_neg q] at e
          exact h i j hi hj e
/-- the least places as numbers -/
def lowN (l : List Int) : List Nat := l.map (ix l)
theorem low_lowN (l : List Int) : low l = (lowN l).map fun x : Nat => (x : Int) := by unfold low lowN; rw [List.map_map]; rfl
theorem joined_rel (A b : List Int) (n : Nat) (ha : A.length = n) (hb : b.length = n) : ∀ i j, i < n → j < n → (at_ (foldJ 0 (lowN b) A) i = at_ (foldJ 0 (lowN b) A) j ↔ Rl A b n i j) := by
  have hs : ∀ t r, (lowN b)[t]? = some r → r < n ∧ at_ b t = at_ b r := fun t r e => by
    unfold lowN at e
    rw [List.getElem?_map, Option.map_eq_some_iff] at e
    obtain ⟨x, e1, e2⟩ := e
    subst e2
    have hm : x ∈ b := List.mem_of_getElem? e1
    refine ⟨by rw [← hb]; exact ix_lt hm, ?_⟩
    unfold at_
    rw [List.getD_eq_getElem?_getD, List.getD_eq_getElem?_getD, e1, ix_get hm]
  have hlen : (lowN b).length = n := by unfold lowN; rw [List.length_map, hb]
  intro i j hi hj
  constructor
  · exact foldJ_sound (a := A) (b := b) (lowN b) 0 A ha (by omega) (fun t r e => by rw [Nat.zero_add]; exact hs t r e) (fun i j hi hj e => Rl.one hi hj (.inl e)) i j hi hj
  · intro r
    induction r with
    | refl _ => rfl
    | @step j k r hk hl ih =>
      rw [ih r.lt.2]
      have hj := r.lt.2
      rcases hl with e | e
      · exact foldJ_pres _ _ _ (by omega) (by omega) e
      · obtain ⟨rj, ej⟩ : ∃ rj, (lowN b)[j]? = some rj := ⟨_, List.getElem?_eq_getElem (by omega)⟩
        obtain ⟨rk, ek⟩ : ∃ rk, (lowN b)[k]? = some rk := ⟨_, List.getElem?_eq_getElem (by omega)⟩
        have l1 := foldJ_link (lowN b) 0 A (t := j) (by omega) (fun r hr => by rw [ha]; obtain ⟨t, ht⟩ := List.getElem?_of_mem hr; exact (hs t r ht).1) ej
        have l2 := foldJ_link (lowN b) 0 A (t := k) (by omega) (fun r hr => by rw [ha]; obtain ⟨t, ht⟩ := List.getElem?_of_mem hr; exact (hs t r ht).1) ek
        rw [Nat.zero_add] at l1 l2
        rw [l1, l2]
        have : rj = rk := by
          unfold lowN at ej ek
          rw [List.getElem?_map, List.getElem?_eq_getElem (by omega)] at ej ek
          have b1 : at_ b j = b[j]'(by omega) := by unfold at_; simp [List.getElem?_eq_getElem (show j < b.length by omega)]
          have b2 : at_ b k = b[k]'(by omega) := by unfold at_; simp [List.getElem?_eq_getElem (show k < b.length by omega)]
          simp at ej ek
          rw [← ej, ← ek, ← b1, ← b2, e]
        rw [this]
/-! ### joined: the law's -/
def minStep (n : Nat) (marks L : List Int) : List Int := marks.map fun m => minI (((List.range n).filter fun j => decide (at_ marks j = m)).map fun j => at_ L j)
theorem minI_spec {l : List Int} (h : l ≠ []) : minI l ∈ l ∧ ∀ m ∈ l, minI l ≤ m := by
  cases l with
  | nil => exact absurd rfl h
  | cons x l =>
    obtain ⟨h1, h2, h3⟩ := foldl_min l x
    unfold minI
    simp only
    refine ⟨?_, fun m hm => ?_⟩
    · rcases h1 with h | h
      · rw [h]; exact List.mem_cons_self
      · exact List.mem_cons_of_mem _ h
    · rcases List.mem_cons.mp hm with z | z
      · rw [z]; exact h2
      · exact h3 m z
theorem minStep_len (n : Nat) (marks L : List Int) : (minStep n marks L).length = marks.length := by unfold minStep; simp
theorem minStep_at {n : Nat} {marks L : List Int} (hm : marks.length = n) {i : Nat} (hi : i < n) : (∃ j, j < n ∧ at_ marks j = at_ marks i ∧ at_ (minStep n marks L) i = at_ L j) ∧ ∀ j, j < n → at_ marks j = at_ marks i → at_ (minStep n marks L) i ≤ at_ L j := by
  have e : at_ (minStep n marks L) i = minI (((List.range n).filter fun j => decide (at_ marks j = at_ marks i)).map fun j => at_ L j) := by
    unfold minStep; rw [at_map (f := fun m => minI (((List.range n).filter fun j => decide (at_ marks j = m)).map fun j => at_ L j)) (by omega)]
  have hne : (((List.range n).filter fun j => decide (at_ marks j = at_ marks i)).map fun j => at_ L j) ≠ [] := fun z => by
    have : at_ L i ∈ (((List.range n).filter fun j => decide (at_ marks j = at_ marks i)).map fun j => at_ L j) := List.mem_map.mpr ⟨i, List.mem_filter.mpr ⟨List.mem_range.mpr hi, by simp⟩, rfl⟩
    rw [z] at this
    cases this
  obtain ⟨h1, h2⟩ := minI_spec hne
  rw [e]
  refine ⟨?_, fun j hj ej => h2 _ (List.mem_map.mpr ⟨j, List.mem_filter.mpr ⟨List.mem_range.mpr hj, by simpa using ej⟩, rfl⟩)⟩
  obtain ⟨j, hj, ej⟩ := List.mem_map.mp h1
  obtain ⟨k1, k2⟩ := List.mem_filter.mp hj
  exact ⟨j, List.mem_range.mp k1, by simpa using k2, ej.symm⟩
def rnd (n : Nat) (a b L : List Int) : List Int := minStep n b (minStep n a L)
def rnds (n : Nat) (a b : List Int) : Nat → List Int
  | 0 => (List.range n).map fun i => ((i : Nat) : Int)
  | k + 1 => rnd n a b (rnds n a b k)
theorem countP_lt {γ : Type} {p q : γ → Bool} : ∀ {l : List γ} {y : γ}, (∀ x ∈ l, p x = true → q x = true) → y ∈ l → q y = true → p y = false → l.countP p < l.countP q
  | [], _, _, h, _, _ => by cases h
  | x :: l, y, h, hy, h1, h2 => by
    have hle : l.countP p ≤ l.countP q := List.countP_mono_left fun z hz => h z (List.mem_cons_of_mem _ hz)
    rw [List.countP_cons, List.countP_cons]
    by_cases e : y = x
    · subst e
      rw [h1, h2]
      simp
      omega
    · have ih := countP_lt (fun z hz => h z (List.mem_cons_of_mem _ hz)) ((List.mem_cons.mp hy).resolve_left e) h1 h2
      have hx := h x List.mem_cons_self
      cases hp : p x with
      | true => rw [hx hp]; simp; omega
      | false => cases q x <;> simp <;> omega
section
variable {n : Nat} {a b : List Int}
/-- how the rounds stand -/
structure Rst (n : Nat) (a b L : List Int) : Prop where
  len : L.length = n
  snd : ∀ i, i < n → ∃ k : Nat, at_ L i = (k : Int) ∧ Rl a b n k i
  le : ∀ i, i < n → at_ L i ≤ (i : Int)
theorem Rst.stepA (ha : a.length = n) {L : List Int} (r : Rst n a b L) : Rst n a b (minStep n a L) where
  len := by rw [minStep_len, ha]
  snd := fun i hi => by
    obtain ⟨⟨j, hj, e1, e2⟩, _⟩ := minStep_at (L := L) ha hi
    obtain ⟨k, e3, rk⟩ := r.snd j hj
    exact ⟨k, by rw [e2, e3], .step rk hi (.inl e1)⟩
  le := fun i hi => Int.le_trans ((minStep_at (L := L) ha hi).2 i hi rfl) (r.le i hi)
theorem Rst.stepB (hb : b.length = n) {L : List Int} (r : Rst n a b L) : Rst n a b (minStep n b L) where
  len := by rw [minStep_len, hb]
  snd := fun i hi => by
    obtain ⟨⟨j, hj, e1, e2⟩, _⟩ := minStep_at (L := L) hb hi
    obtain ⟨k, e3, rk⟩ := r.snd j hj
    exact ⟨k, by rw [e2, e3], .step rk hi (.inr e1)⟩
  le := fun i hi => Int.le_trans ((minStep_at (L := L) hb hi).2 i hi rfl) (r.le i hi)
theorem rst_rnds (ha : a.length = n) (hb : b.length = n) : ∀ k, Rst n a b (rnds n a b k)
  | 0 => ⟨by unfold rnds; simp, fun i hi => ⟨i, by unfold rnds at_; simp [hi], .refl i hi⟩, fun i hi => by unfold rnds at_; simp [hi]⟩
  | k + 1 => ((rst_rnds ha hb k).stepA ha).stepB hb
def Gd (n : Nat) (a b L : List Int) (i : Nat) : Prop := ∀ j, Rl a b n i j → at_ L i ≤ (j : Int)
open Classical in
theorem rnd_more (ha : a.length = n) (hb : b.length = n) {L : List Int} (r : Rst n a b L) : (∀ i, i < n → Gd n a b L i) ∨ (List.range n).countP (fun i => decide (Gd n a b L i)) < (List.range n).countP (fun i => decide (Gd n a b (rnd n a b L) i)) := by
  by_cases h : ∀ i, i < n → Gd n a b L i
  · exact .inl h
  · refine .inr ?_
    have m1 : ∀ i, i < n → at_ (minStep n a L) i ≤ at_ L i := fun i hi => (minStep_at (L := L) ha hi).2 i hi rfl
    have m2 : ∀ i, i < n → at_ (rnd n a b L) i ≤ at_ (minStep n a L) i := fun i hi => (minStep_at (L := minStep n a L) hb hi).2 i hi rfl
    obtain ⟨i, hi⟩ := Classical.not_forall.mp h
    obtain ⟨hin, hg⟩ := Classical.not_imp.mp hi
    -- the least place of the class
    have ex : ∃ m, Rl a b n i m ∧ ∀ j, Rl a b n i j → m ≤ j := by
      have key : ∀ k, (∃ m, m ≤ k ∧ Rl a b n i m) → ∃ m, Rl a b n i m ∧ ∀ j, Rl a b n i j → m ≤ j := by
        intro k
        induction k with
        | zero => rintro ⟨m, h1, h2⟩; exact ⟨m, h2, fun j _ => by omega⟩
        | succ k ih =>
          rintro ⟨m, h1, h2⟩
          by_cases q : ∃ m', m' ≤ k ∧ Rl a b n i m'
          · exact ih q
          · refine ⟨m, h2, fun j hj => ?_⟩
            by_cases z : j ≤ k
            · exact absurd ⟨j, z, hj⟩ q
            · omega
      exact key i ⟨i, Nat.le_refl _, .refl i hin⟩
    obtain ⟨m, hm, hmin⟩ := ex
    have gm : Gd n a b L m := fun j hj => Int.le_trans (r.le m hm.lt.2) (by have := hmin j (hm.trans hj); omega)
    obtain ⟨x, y, hx, hy, hl, gx, gy, rx, ry⟩ := hm.symm.edge gm hg
    refine countP_lt (y := y) (fun z hz hp => ?_) (List.mem_range.mpr hy) (decide_eq_true ?_) (decide_eq_false gy)
    · have hz := List.mem_range.mp hz
      refine decide_eq_true fun j hj => ?_
      exact Int.le_trans (m2 z hz) (Int.le_trans (m1 z hz) (of_decide_eq_true hp j hj))
    · intro j hj
      have hxj : Rl a b n x j := (Rl.one hx hy hl).trans hj
      refine Int.le_trans ?_ (gx j hxj)
      rcases hl with e | e
      · exact Int.le_trans (m2 y hy) ((minStep_at (L := L) ha hy).2 x hx e)
      · exact Int.le_trans ((minStep_at (L := minStep n a L) hb hy).2 x hx e) (m1 x hx)
open Classical in
theorem rnds_all (ha : a.length = n) (hb : b.length = n) : ∀ k, (∀ i, i < n → Gd n a b (rnds n a b k) i) ∨ k ≤ (List.range n).countP (fun i => decide (Gd n a b (rnds n a b k) i))
  | 0 => .inr (Nat.zero_le _)
  | k + 1 => by
    have r := rst_rnds ha hb k
    rcases rnd_more ha hb r with h | h
    · refine .inl fun i hi j hj => ?_
      exact Int.le_trans ((minStep_at (L := minStep n a (rnds n a b k)) hb hi).2 i hi rfl) (Int.le_trans ((minStep_at (L := rnds n a b k) ha hi).2 i hi rfl) (h i hi j hj))
    · rcases rnds_all ha hb k with g | g
      · refine .inl fun i hi j hj => ?_
        exact Int.le_trans ((minStep_at (L := minStep n a (rnds n a b k)) hb hi).2 i hi rfl) (Int.le_trans ((minStep_at (L := rnds n a b k) ha hi).2 i hi rfl) (g i hi j hj))
      · exact .inr (by show k + 1 ≤ (List.range n).countP (fun i => decide (Gd n a b (rnd n a b (rnds n a b k)) i)); omega)
open Classical in
theorem law_join_is (ha : a.length = n) (hb : b.length = n) : IsJoin a b n (rnds n a b n) := by
  have r := rst_rnds ha hb n
  have all : ∀ i, i < n → Gd n a b (rnds n a b n) i := by
    rcases rnds_all ha hb n with h | h
    · exact h
    · intro i hi
      have h1 : (List.range n).countP (fun i => decide (Gd n a b (rnds n a b n) i)) = (List.range n).length := by
        have := List.countP_le_length (p := fun i => decide (Gd n a b (rnds n a b n) i)) (l := List.range n)
        rw [List.length_range] at this ⊢
        omega
      have := List.countP_eq_length.mp h1 i (List.mem_range.mpr hi)
      exact of_decide_eq_true this
  refine ⟨r.len, fun i hi => ?_⟩
  obtain ⟨k, e, rk⟩ := r.snd i hi
  refine ⟨k, e, rk, fun j hj => ?_⟩
  have := all i hi j hj
  rw [e] at this
  omega
end
end K


namespace K
open PySem ML
theorem outR0' (d : D) : outR 0 (.fr d) [] = some (.ret (.fr d) []) := outR0 d []
/-! ### the program's joined marks -/
abbrev jmB : XS := (zSeq (zAsg 5 (xOp gIx (xVar 2) (xVar 3)))
    (zSeq (zAsg 6 (xOp gIx (xVar 2) (xVar 4)))
    (zIf (xTest (xOp (gEqD true) (xVar 5) (xVar 6))) (zAsg 2 (xLc true (xiSeq (xVar 2)) (xgName 7) xYes (xIf (xTest (xOp (gEqD false) (xVar 7) (xVar 5))) (xVar 6) (xVar 7)) [7])) zNop)))
theorem jm_body {M : List Int} {k r : Nat} (hk : k < M.length) (hr : r < M.length) (hl : M.length ≤ 1000) (o0 o1 o5 o6 : Option PV) : ∃ q5 q6, jmB [o0, o1, some (.fr (LI M)), some (.fr (.int (k : Nat))), some (.fr (.int (r : Nat))), o5, o6, none] [] = some (.next [o0, o1, some (.fr (LI (stepJ M k r))), some (.fr (.int (k : Nat))), some (.fr (.int (r : Nat))), q5, q6, none] []) := by
  have e1 := gIx_lst [] (M.map .int) k (.int (at_ M k)) (by rw [List.getElem?_map, at_get hk]; rfl)
  have e2 := gIx_lst [] (M.map .int) r (.int (at_ M r)) (by rw [List.getElem?_map, at_get hr]; rfl)
  refine ⟨some (.fr (.int (at_ M k))), some (.fr (.int (at_ M r))), eq_of_w ?_⟩
  unfold jmB
  refine w_step (en1 := [o0, o1, some (.fr (LI M)), some (.fr (.int (k : Nat))), some (.fr (.int (r : Nat))), some (.fr (.int (at_ M k))), o6, none]) (hp1 := []) (by simp [zAsg, zDrop, zRet, zIf, zNop, zSet, xs_ok, xb_ok, xVar, xC, xCons, xNil, xOp, xUn, xCB, xBM, lf_some', nox_ok, xTest, xNot, xAnd, xOr, xIf, xAndV, gI, gSub, gMod, gFdv, gPow, cPow, gLt, gLe, gGt, gGe, gAdd, gMul, gInt, xgName, e1]) ?_
  refine w_step (en1 := [o0, o1, some (.fr (LI M)), some (.fr (.int (k : Nat))), some (.fr (.int (r : Nat))), some (.fr (.int (at_ M k))), some (.fr (.int (at_ M r))), none]) (hp1 := []) (by simp [zAsg, zDrop, zRet, zIf, zNop, zSet, xs_ok, xb_ok, xVar, xC, xCons, xNil, xOp, xUn, xCB, xBM, lf_some', nox_ok, xTest, xNot, xAnd, xOr, xIf, xAndV, gI, gSub, gMod, gFdv, gPow, cPow, gLt, gLe, gGt, gGe, gAdd, gMul, gInt, xgName, e2]) ?_
  by_cases h : at_ M k = at_ M r
  · refine w_of (x := .next [o0, o1, some (.fr (LI M)), some (.fr (.int (k : Nat))), some (.fr (.int (r : Nat))), some (.fr (.int (at_ M k))), some (.fr (.int (at_ M r))), none] []) (by simp [zAsg, zDrop, zRet, zIf, zNop, zSet, xs_ok, xb_ok, xVar, xC, xCons, xNil, xOp, xUn, xCB, xBM, lf_some', nox_ok, xTest, xNot, xAnd, xOr, xIf, xAndV, gI, gSub, gMod, gFdv, gPow, cPow, gLt, gLe, gGt, gGe, gAdd, gMul, gInt, xgName, gEqD, pvD, okD_int, eqPy_int, h]) ?_
    have : stepJ M k r = M := by
      unfold stepJ
      rw [← h]
      conv => rhs; rw [← List.map_id M]
      apply List.map_congr_left
      intro x _
      by_cases q : x = at_ M k
      · rw [if_pos q]; exact q.symm
      · rw [if_neg q]; rfl
    rw [this]
  · refine w_of (x := .next [o0, o1, some (.fr (LI (stepJ M k r))), some (.fr (.int (k : Nat))), some (.fr (.int (r : Nat))), some (.fr (.int (at_ M k))), some (.fr (.int (at_ M r))), none] []) ?_ rfl
    have e3 := xLc_all (xi := xiSeq (xVar 2)) (g := xgName 7) (x := xIf (xTest (xOp (gEqD false) (xVar 7) (xVar 5))) (xVar 6) (xVar 7)) (vs := [7]) (en := [o0, o1, some (.fr (LI M)), some (.fr (.int (k : Nat))), some (.fr (.int (r : Nat))), some (.fr (.int (at_ M k))), some (.fr (.int (at_ M r))), none]) (hp := []) (γ := Int) (fun i => .fr (.int i)) (fun m => .int (if m = at_ M k then at_ M r else m)) M (ck := fun _ => true) (by simp [xiSeq, zAsg, zDrop, zRet, zIf, zNop, zSet, xs_ok, xb_ok, xVar, xC, xCons, xNil, xOp, xUn, xCB, xBM, lf_some', nox_ok, xTest, xNot, xAnd, xOr, xIf, xAndV, gI, gSub, gMod, gFdv, gPow, cPow, gLt, gLe, gGt, gGe, gAdd, gMul, gInt, xgName, vseq_lst, ckP]) rfl (by omega) fun i hi => ⟨_, rfl, by
      by_cases q : i = at_ M k <;> simp [zAsg, zDrop, zRet, zIf, zNop, zSet, xs_ok, xb_ok, xVar, xC, xCons, xNil, xOp, xUn, xCB, xBM, lf_some', nox_ok, xTest, xNot, xAnd, xOr, xIf, xAndV, gI, gSub, gMod, gFdv, gPow, cPow, gLt, gLe, gGt, gGe, gAdd, gMul, gInt, xgName, wipeE, gEqD, pvD, okD_int, eqPy_int, q]⟩
    simp only [zIf, xTest, xOp, xVar, List.getElem?_cons_succ, List.getElem?_cons_zero, xb_ok, gEqD, pvD, okD_int, eqPy_int, Bool.and_self, if_true, lf_some', h, decide_false, Bool.not_false, xs_ok, zAsg]
    rw [e3, xs_ok]
    simp [stepJ]
theorem jm_loop (o0 o1 : Option PV) : ∀ (rest : List Nat) (k : Nat) (M : List Int) (o3 o4 o5 o6 : Option PV), k + rest.length ≤ M.length → M.length ≤ 1000 → (∀ r ∈ rest, r < M.length) → ∃ q3 q4 q5 q6, loopI (fun _ => true) (xgTup 2 (xgCons (xgName 3) (xgCons (xgName 4) xgNil))) jmB (enumP k (rest.map fun r => .int (r : Nat))) [o0, o1, some (.fr (LI M)), o3, o4, o5, o6, none] [] = some (.next [o0, o1, some (.fr (LI (foldJ k rest M))), q3, q4, q5, q6, none] [])
  | [], k, M, o3, o4, o5, o6, _, _, _ => ⟨o3, o4, o5, o6, loopI_nil rfl⟩
  | r :: rest, k, M, o3, o4, o5, o6, h1, h2, h3 => by
    rw [List.length_cons] at h1
    obtain ⟨q5, q6, e1⟩ := jm_body (M := M) (k := k) (r := r) (by omega) (h3 r List.mem_cons_self) h2 o0 o1 o5 o6
    obtain ⟨p3, p4, p5, p6, e2⟩ := jm_loop o0 o1 rest (k + 1) (stepJ M k r) (some (.fr (.int (k : Nat)))) (some (.fr (.int (r : Nat)))) q5 q6 (by rw [stepJ_len]; omega) (by rw [stepJ_len]; exact h2) fun x hx => by rw [stepJ_len]; exact h3 x (List.mem_cons_of_mem _ hx)
    refine ⟨p3, p4, p5, p6, ?_⟩
    rw [List.map_cons]
    unfold enumP
    rw [loopI_next rfl rfl e1]
    exact e2
theorem joined_ok (A b : List Int) (hl : A.length ≤ 1000) (hb : b.length = A.length) : f_joined_marks [.fr (TI A), .fr (TI (low b))] [] = some (.ret (.fr (LI (foldJ 0 (lowN b) A))) []) := by
  have hs : ∀ r ∈ lowN b, r < A.length := fun r hr => by
    unfold lowN at hr
    obtain ⟨x, hx, e⟩ := List.mem_map.mp hr
    rw [← e, ← hb]; exact ix_lt hx
  have hlen : (lowN b).length = A.length := by unfold lowN; rw [List.length_map, hb]
  obtain ⟨q3, q4, q5, q6, e⟩ := jm_loop (some (.fr (TI A))) (some (.fr (TI (low b)))) (lowN b) 0 A none none none none (by omega) hl hs
  refine fn_of_w ?_
  unfold b_joined_marks
  refine w_step (en1 := [some (.fr (TI A)), some (.fr (TI (low b))), some (.fr (LI A)), none, none, none, none, none]) (hp1 := []) ?_ ?_
  · simp [zAsg, zDrop, zRet, zIf, zNop, zSet, xs_ok, xb_ok, xVar, xC, xCons, xNil, xOp, xUn, xCB, xBM, lf_some', nox_ok, xTest, xNot, xAnd, xOr, xIf, xAndV, gI, gSub, gMod, gFdv, gPow, cPow, gLt, gLe, gGt, gGe, gAdd, gMul, gInt, xgName, gList, vseq_tup]
    rw [show A.map (PV.fr ∘ D.int) = (A.map D.int).map PV.fr by simp, mkL_map]
    rfl
  refine w_step (en1 := [some (.fr (TI A)), some (.fr (TI (low b))), some (.fr (LI (foldJ 0 (lowN b) A))), q3, q4, q5, q6, none]) (hp1 := []) ?_ (w_of (x := .ret (.fr (LI (foldJ 0 (lowN b) A))) []) ?_ (outR0' _))
  · unfold zFor
    have e0 : (low b).map D.int = (lowN b).map fun r => D.int (r : Nat) := by rw [low_lowN, List.map_map]; rfl
    simp only [xiEnA, xCons, xVar, List.getElem?_cons_zero, List.getElem?_cons_succ, xb_ok, xNil, vseq_tup, unfr_map, xs_ok, ckP, e0]
    exact e
  · simp [zAsg, zDrop, zRet, zIf, zNop, zSet, xs_ok, xb_ok, xVar, xC, xCons, xNil, xOp, xUn, xCB, xBM, lf_some', nox_ok, xTest, xNot, xAnd, xOr, xIf, xAndV, gI, gSub, gMod, gFdv, gPow, cPow, gLt, gLe, gGt, gGe, gAdd, gMul, gInt, xgName]
/-! ### the law's join -/
theorem lj_min (n : Nat) (marks L : List Int) (m : Int) (hm : marks.length = n) (hL : L.length = n) (hn : n ≤ 1000) (hin : m ∈ marks) (o1 o3 : Option PV) (one : List Int) (ho : one.length = n) (p5 : Option PV) :
    (xCB gMin (xCons (xLc true (xiR1 (xCons (xCB gLen (xCons (xVar 0) xNil)) xNil)) (xgName 5) (xTest (xOp (gEqD false) (xOp gIx (xVar 4) (xVar 5)) (xVar 6))) (xOp gIx (xVar 2) (xVar 5)) [5]) xNil)) [some (.fr (LI one)), o1, some (.fr (LI L)), o3, some (.fr (LI marks)), p5, some (.fr (.int m))] [] = some (.ok (.fr (.int (minI (((List.range n).filter fun j => decide (at_ marks j = m)).map fun j => at_ L j)))) []) := by
  have e := xLc_filter (xi := xiR1 (xCons (xCB gLen (xCons (xVar 0) xNil)) xNil)) (g := xgName 5) (t := xTest (xOp (gEqD false) (xOp gIx (xVar 4) (xVar 5)) (xVar 6))) (x := xOp gIx (xVar 2) (xVar 5)) (vs := [5]) (en := [some (.fr (LI one)), o1, some (.fr (LI L)), o3, some (.fr (LI marks)), p5, some (.fr (.int m))]) (hp := []) (γ := Nat) (fun i => .fr (.int (i : Nat))) (fun j => decide (at_ marks j = m)) (fun j => .int (at_ L j)) (List.range n) (ck := fun _ => true)
    (by simp [xiR1, zAsg, zDrop, zRet, zIf, zNop, zSet, xs_ok, xb_ok, xVar, xC, xCons, xNil, xOp, xUn, xCB, xBM, lf_some', nox_ok, xTest, xNot, xAnd, xOr, xIf, xAndV, gI, gSub, gMod, gFdv, gPow, cPow, gLt, gLe, gGt, gGe, gAdd, gMul, gInt, xgName, gLen, vseq_lst, ho, smI_small hn, rangeP_map]) rfl (by rw [List.length_range]; omega) fun i hi => by
      have hi := List.mem_range.mp hi
      have e1 := gIx_lst [] (marks.map .int) i (.int (at_ marks i)) (by rw [List.getElem?_map, at_get (by omega)]; rfl)
      have e2 := gIx_lst [] (L.map .int) i (.int (at_ L i)) (by rw [List.getElem?_map, at_get (by omega)]; rfl)
      exact ⟨_, rfl, by simp [zAsg, zDrop, zRet, zIf, zNop, zSet, xs_ok, xb_ok, xVar, xC, xCons, xNil, xOp, xUn, xCB, xBM, lf_some', nox_ok, xTest, xNot, xAnd, xOr, xIf, xAndV, gI, gSub, gMod, gFdv, gPow, cPow, gLt, gLe, gGt, gGe, gAdd, gMul, gInt, xgName, wipeE, e1, gEqD, pvD, okD_int, eqPy_int], fun _ => by simp [zAsg, zDrop, zRet, zIf, zNop, zSet, xs_ok, xb_ok, xVar, xC, xCons, xNil, xOp, xUn, xCB, xBM, lf_some', nox_ok, xTest, xNot, xAnd, xOr, xIf, xAndV, gI, gSub, gMod, gFdv, gPow, cPow, gLt, gLe, gGt, gGe, gAdd, gMul, gInt, xgName, wipeE, e2]⟩
  have hne : ((List.range n).filter fun j => decide (at_ marks j = m)).map (fun j => at_ L j) ≠ [] := fun z => by
    obtain ⟨i, hi⟩ := List.getElem?_of_mem hin
    have hl := (List.getElem?_eq_some_iff.mp hi).1
    have : at_ L i ∈ (((List.range n).filter fun j => decide (at_ marks j = m)).map fun j => at_ L j) := List.mem_map.mpr ⟨i, List.mem_filter.mpr ⟨List.mem_range.mpr (by omega), decide_eq_true (by unfold at_; rw [List.getD_eq_getElem?_getD, hi]; rfl)⟩, rfl⟩
    rw [z] at this
    cases this
  simp only [xCB, xCons, e, xb_ok, xNil]
  rw [show (((List.range n).filter fun j => decide (at_ marks j = m)).map fun j => D.int (at_ L j)) = (((List.range n).filter fun j => decide (at_ marks j = m)).map fun j => at_ L j).map D.int by rw [List.map_map]; rfl]
  generalize (((List.range n).filter fun j => decide (at_ marks j = m)).map fun j => at_ L j) = q at hne
  unfold gMin
  simp only [vints, vseq_lst, intsP_map]
  cases q with
  | nil => exact absurd rfl hne
  | cons x q => rfl
abbrev ljB : XS := (zAsg 2 (xLc true (xiSeq (xVar 4)) (xgName 6) xYes (xCB gMin (xCons (xLc true (xiR1 (xCons (xCB gLen (xCons (xVar 0) xNil)) xNil)) (xgName 5) (xTest (xOp (gEqD false) (xOp gIx (xVar 4) (xVar 5)) (xVar 6))) (xOp gIx (xVar 2) (xVar 5)) [5]) xNil)) [6]))
theorem lj_half (n : Nat) (marks L one : List Int) (hm : marks.length = n) (hL : L.length = n) (ho : one.length = n) (hn : n ≤ 1000) (o1 o3 o5 : Option PV) :
    ljB [some (.fr (LI one)), o1, some (.fr (LI L)), o3, some (.fr (LI marks)), o5, none] [] = some (.next [some (.fr (LI one)), o1, some (.fr (LI (minStep n marks L))), o3, some (.fr (LI marks)), o5, none] []) := by
  unfold ljB zAsg
  rw [xLc_all (γ := Int) (fun i => .fr (.int i)) (fun m => .int (minI (((List.range n).filter fun j => decide (at_ marks j = m)).map fun j => at_ L j))) marks (ck := fun _ => true) (by simp [xiSeq, zAsg, zDrop, zRet, zIf, zNop, zSet, xs_ok, xb_ok, xVar, xC, xCons, xNil, xOp, xUn, xCB, xBM, lf_some', nox_ok, xTest, xNot, xAnd, xOr, xIf, xAndV, gI, gSub, gMod, gFdv, gPow, cPow, gLt, gLe, gGt, gGe, gAdd, gMul, gInt, xgName, vseq_lst, ckP]) rfl (by omega) fun i hi => ⟨_, rfl, lj_min n marks L i hm hL hn hi o1 o3 one ho o5⟩, xs_ok]
  simp [minStep]
theorem lj_round (n : Nat) (a b L : List Int) (ha : a.length = n) (hb : b.length = n) (hL : L.length = n) (hn : n ≤ 1000) (o3 o4 : Option PV) :
    ∃ q4, (zFor (xiSeq (xLst true (xCons (xVar 0) (xCons (xVar 1) xNil)))) (xgName 4) ljB) [some (.fr (LI a)), some (.fr (LI b)), some (.fr (LI L)), o3, o4, none, none] [] = some (.next [some (.fr (LI a)), some (.fr (LI b)), some (.fr (LI (rnd n a b L))), o3, q4, none, none] []) := by
  refine ⟨some (.fr (LI b)), ?_⟩
  unfold zFor
  have e : xiSeq (xLst true (xCons (xVar 0) (xCons (xVar 1) xNil))) [some (.fr (LI a)), some (.fr (LI b)), some (.fr (LI L)), o3, o4, none, none] [] = some (.ok ([.fr (LI a), .fr (LI b)], fun _ => true) []) := by
    simp [xiSeq, zAsg, zDrop, zRet, zIf, zNop, zSet, xs_ok, xb_ok, xVar, xC, xCons, xNil, xOp, xUn, xCB, xBM, lf_some', nox_ok, xTest, xNot, xAnd, xOr, xIf, xAndV, gI, gSub, gMod, gFdv, gPow, cPow, gLt, gLe, gGt, gGe, gAdd, gMul, gInt, xgName, xLst, sz, ML.fresh, mkL, unfr, toD, vseq_lst, ckP]
  rw [e, xs_ok]
  rw [loopI_next rfl rfl (lj_half n a L a ha hL ha hn (some (.fr (LI b))) o3 none), loopI_next rfl rfl (lj_half n b (minStep n a L) a hb (by rw [minStep_len, ha]) ha hn (some (.fr (LI b))) o3 none), loopI_nil rfl]
  rfl
theorem lj_loop (n : Nat) (a b : List Int) (ha : a.length = n) (hb : b.length = n) (hn : n ≤ 1000) : ∀ (ks : List Nat) (k : Nat) (L : List Int) (o3 o4 : Option PV), L = rnds n a b k → ∃ q3 q4, loopI (fun _ => true) (xgName 3) (zFor (xiSeq (xLst true (xCons (xVar 0) (xCons (xVar 1) xNil)))) (xgName 4) ljB) (ks.map fun i => PV.fr (.int (i : Nat))) [some (.fr (LI a)), some (.fr (LI b)), some (.fr (LI L)), o3, o4, none, none] [] = some (.next [some (.fr (LI a)), some (.fr (LI b)), some (.fr (LI (rnds n a b (k + ks.length)))), q3, q4, none, none] [])
  | [], k, L, o3, o4, h => ⟨o3, o4, by rw [h]; exact loopI_nil rfl⟩
  | x :: ks, k, L, o3, o4, h => by
    have hL : L.length = n := by rw [h]; exact (rst_rnds ha hb k).len
    obtain ⟨q4, e⟩ := lj_round n a b L ha hb hL hn (some (.fr (.int (x : Nat)))) o4
    obtain ⟨p3, p4, e2⟩ := lj_loop n a b ha hb hn ks (k + 1) (rnd n a b L) (some (.fr (.int (x : Nat)))) q4 (by rw [h]; rfl)
    refine ⟨p3, p4, ?_⟩
    rw [List.map_cons, loopI_next rfl rfl e, e2, List.length_cons, show k + 1 + ks.length = k + (ks.length + 1) by omega]
theorem upto_nat (n : Nat) : (upto (n : Int)).map D.int = ((List.range n).map fun i => ((i : Nat) : Int)).map D.int := by
  unfold upto
  rw [Int.toNat_natCast]
  rfl
theorem law_join_ok (a b : List Int) (n : Nat) (ha : a.length = n) (hb : b.length = n) (hn : n ≤ 1000) : f__law_join [.fr (LI a), .fr (LI b)] [] = some (.ret (.fr (LI (rnds n a b n))) []) := by
  obtain ⟨q3, q4, e⟩ := lj_loop n a b ha hb hn (List.range n) 0 (rnds n a b 0) none none rfl
  rw [List.length_range, Nat.zero_add] at e
  refine fn_of_w ?_
  unfold b__law_join
  refine w_step (en1 := [some (.fr (LI a)), some (.fr (LI b)), some (.fr (LI (rnds n a b 0))), none, none, none, none]) (hp1 := []) ?_ ?_
  · simp [zAsg, zDrop, zRet, zIf, zNop, zSet, xs_ok, xb_ok, xVar, xC, xCons, xNil, xOp, xUn, xCB, xBM, lf_some', nox_ok, xTest, xNot, xAnd, xOr, xIf, xAndV, gI, gSub, gMod, gFdv, gPow, cPow, gLt, gLe, gGt, gGe, gAdd, gMul, gInt, xgName, xListR1, gLen, vseq_lst, ha, smI_small hn, ML.fresh, toD, upto, rnds]
  refine w_step (en1 := [some (.fr (LI a)), some (.fr (LI b)), some (.fr (LI (rnds n a b n))), q3, q4, none, none]) (hp1 := []) ?_ (w_of (x := .ret (.fr (LI (rnds n a b n))) []) (by simp [zAsg, zDrop, zRet, zIf, zNop, zSet, xs_ok, xb_ok, xVar, xC, xCons, xNil, xOp, xUn, xCB, xBM, lf_some', nox_ok, xTest, xNot, xAnd, xOr, xIf, xAndV, gI, gSub, gMod, gFdv, gPow, cPow, gLt, gLe, gGt, gGe, gAdd, gMul, gInt, xgName]) (outR0' _))
  unfold zFor
  have e1 : xiR1 (xCons (xCB gLen (xCons (xVar 0) xNil)) xNil) [some (.fr (LI a)), some (.fr (LI b)), some (.fr (LI (rnds n a b 0))), none, none, none, none] [] = some (.ok ((List.range n).map (fun i => PV.fr (.int (i : Nat))), fun _ => true) []) := by
    simp [xiR1, zAsg, zDrop, zRet, zIf, zNop, zSet, xs_ok, xb_ok, xVar, xC, xCons, xNil, xOp, xUn, xCB, xBM, lf_some', nox_ok, xTest, xNot, xAnd, xOr, xIf, xAndV, gI, gSub, gMod, gFdv, gPow, cPow, gLt, gLe, gGt, gGe, gAdd, gMul, gInt, xgName, gLen, vseq_lst, ha, smI_small hn, rangeP_map]
  rw [e1, xs_ok]
  exact e
end K


namespace K
open PySem ML
/-- a split, as data -/
abbrev SP (l : List Int) : D := .ins 33 [1, 33] [.int l.length, .tup (l.map .int)]
theorem size_ok {n : Nat} (h1 : 1 ≤ n) (h2 : n ≤ 12) : f_check_size [.fr (.int n)] [] = some (.ret (.fr .non) []) := by
  refine fn_of_w ?_
  unfold b_check_size
  refine w_of (x := .next [some (.fr (.int n))] []) ?_ (outR0' _)
  have a1 : ¬ ((n : Int) < 1) := by omega
  have a2 : ¬ ((12 : Int) < n) := by omega
  simp [zAsg, zDrop, zRet, zIf, zNop, zSet, xs_ok, xb_ok, xVar, xC, xCons, xNil, xOp, xUn, xCB, xBM, lf_some', nox_ok, xTest, xNot, xAnd, xOr, xIf, xAndV, gI, gSub, gMod, gFdv, gPow, cPow, gLt, gLe, gGt, gGe, gAdd, gMul, gInt, xgName, xCon, clP, a1, a2]
theorem lgN {n : Nat} (h : n ≤ 1000) : n.log2 < 1920 := by
  by_cases h0 : n = 0
  · subst h0; decide
  · have : n.log2 < 20 := (Nat.log2_lt h0).mpr (Nat.lt_of_le_of_lt h (by decide))
    omega
theorem blsP_map' (l : List Bool) : blsP (l.map (PV.fr ∘ D.bl)) = some l := by rw [← List.map_map]; exact blsP_map l
theorem mkL_map' (l : List Int) : mkL (l.map (PV.fr ∘ D.int)) = .lst (l.map .int) := by rw [← List.map_map]; exact mkL_map _
theorem sizes_ok {x y : List Int} (h : x.length = y.length) : f_check_sizes [.fr (SP x), .fr (SP y)] [] = some (.ret (.fr .non) []) := by
  refine fn_of_w ?_
  unfold b_check_sizes
  refine w_of (x := .next [some (.fr (SP x)), some (.fr (SP y))] []) ?_ (outR0' _)
  simp [zAsg, zDrop, zRet, zIf, zNop, zSet, xs_ok, xb_ok, xVar, xC, xCons, xNil, xOp, xUn, xCB, xBM, lf_some', nox_ok, xTest, xNot, xAnd, xOr, xIf, xAndV, gI, gSub, gMod, gFdv, gPow, cPow, gLt, gLe, gGt, gGe, gAdd, gMul, gInt, xgName, xFld, insOf, FLDS, fldP, gEqD, pvD, okD_int, eqPy_int, h]
theorem sizes_ne {x y : List Int} (h : x.length ≠ y.length) (hx : x.length ≤ 1000) (hy : y.length ≤ 1000) : f_check_sizes [.fr (SP x), .fr (SP y)] [] = some (.exc 3 [4, 3] [.int y.length, .int x.length] []) := by
  refine fn_of_w ?_
  unfold b_check_sizes
  refine w_of (x := .exc 3 [4, 3] [.int y.length, .int x.length] [some (.fr (SP x)), some (.fr (SP y))] []) ?_ rfl
  have h' : ¬ ((x.length : Int) = y.length) := by omega
  simp [zAsg, zDrop, zRet, zIf, zNop, zSet, xs_ok, xb_ok, xVar, xC, xCons, xNil, xOp, xUn, xCB, xBM, lf_some', nox_ok, xTest, xNot, xAnd, xOr, xIf, xAndV, gI, gSub, gMod, gFdv, gPow, cPow, gLt, gLe, gGt, gGe, gAdd, gMul, gInt, xgName, xFld, insOf, FLDS, fldP, gEqD, pvD, okD_int, eqPy_int, h', zRaise, unfr, argOk, lgN hx, lgN hy]
theorem within_ok {n i : Nat} (h : i < n) : f_check_within [.fr (.int n), .fr (.int (i : Nat))] [] = some (.ret (.fr .non) []) := by
  refine fn_of_w ?_
  unfold b_check_within
  refine w_of (x := .next [some (.fr (.int n)), some (.fr (.int (i : Nat)))] []) ?_ (outR0' _)
  have a1 : ¬ ((i : Int) < 0) := by omega
  have a2 : ¬ ((n : Int) ≤ i) := by omega
  simp [zAsg, zDrop, zRet, zIf, zNop, zSet, xs_ok, xb_ok, xVar, xC, xCons, xNil, xOp, xUn, xCB, xBM, lf_some', nox_ok, xTest, xNot, xAnd, xOr, xIf, xAndV, gI, gSub, gMod, gFdv, gPow, cPow, gLt, gLe, gGt, gGe, gAdd, gMul, gInt, xgName, a1, a2]
theorem init_ok (l : List Int) (h1 : 1 ≤ l.length) (h2 : l.length ≤ 12) : mkF true 33 f_Split___init__ [.fr (LI l)] [] = some (.ret (.fr (SP (low l))) []) := by
  have e1 := call1 (hp := [.ins 33 [] []]) (size_ok h1 h2)
  have e2 := call1 (hp := [.ins 33 [1] [.fr (.int l.length)]]) (lm_ints l (by omega))
  have e3 : f_Split___init__ [.rf 0, .fr (LI l)] [.ins 33 [] []] = some (.ret (.fr .non) [.ins 33 [1, 33] [.fr (.int l.length), .fr (TI (low l))]]) := by
    refine fn_of_w ?_
    unfold b_Split___init__
    refine w_step (en1 := [some (.rf 0), some (.fr (LI l))]) (hp1 := [.ins 33 [] []]) (by simp [zAsg, zDrop, zRet, zIf, zNop, zSet, xs_ok, xb_ok, xVar, xC, xCons, xNil, xOp, xUn, xCB, xBM, lf_some', nox_ok, xTest, xNot, xAnd, xOr, xIf, xAndV, gI, gSub, gMod, gFdv, gPow, cPow, gLt, gLe, gGt, gGe, gAdd, gMul, gInt, xgName, xCall, gLen, vseq_lst, e1]) ?_
    refine w_step (en1 := [some (.rf 0), some (.fr (LI l))]) (hp1 := [.ins 33 [1] [.fr (.int l.length)]]) (by simp [zAsg, zDrop, zRet, zIf, zNop, zSet, xs_ok, xb_ok, xVar, xC, xCons, xNil, xOp, xUn, xCB, xBM, lf_some', nox_ok, xTest, xNot, xAnd, xOr, xIf, xAndV, gI, gSub, gMod, gFdv, gPow, cPow, gLt, gLe, gGt, gGe, gAdd, gMul, gInt, xgName, zFld, FLDS, putFP, gLen, vseq_lst]) ?_
    refine w_of (x := .next [some (.rf 0), some (.fr (LI l))] [.ins 33 [1, 33] [.fr (.int l.length), .fr (TI (low l))]]) (by
      simp only [zFld, xCB, xCons, xCall0, xVar, List.map_cons, List.map_nil, List.length_cons, List.length_nil, Nat.sub_self, List.replicate, List.append_nil, List.getElem?_cons_succ, List.getElem?_cons_zero, xb_ok, xNil, e2, nox_ok, gTupF, vseq_lst, mkT, unfr_map, Option.map_some, lf_some', xs_ok]
      simp [FLDS, putFP]) ?_
    simp [fnOut, outR, gc, gcK, renP, subH, renO, renPs, List.range, List.range.loop]
  unfold mkF
  simp only [List.length_nil, List.nil_append, e3]
  simp [gFz, toD, unfr, outR0, low_len]
theorem initC (l : List Int) (h1 : 1 ≤ l.length) (h2 : l.length ≤ 12) (hp : List O) : callF (mkF true 33 f_Split___init__) [.fr (LI l)] hp = some (.ok (.fr (SP (low l))) hp) := call1 (init_ok l h1 h2)
/-- places of the list itself -/
def Own (x : List Int) : Prop := ∀ i, i < x.length → ∃ m : Nat, at_ x i = (m : Int) ∧ m < x.length
theorem own_low {γ : Type} [DecidableEq γ] (k : List γ) : Own (low k) := fun i hi => by
  rw [low_len] at hi
  have hx : (low k)[i]? = some ((ix k k[i] : Nat) : Int) := by unfold low; rw [List.getElem?_map, List.getElem?_eq_getElem hi]; rfl
  refine ⟨ix k k[i], ?_, by rw [low_len]; exact ix_lt (List.getElem_mem hi)⟩
  unfold at_; rw [List.getD_eq_getElem?_getD, hx]; rfl
/-- one finer than the other -/
def fin (x y : List Int) : List Bool := (List.range x.length).map fun i => decide (at_ y i = at_ y (at_ x i).toNat)
theorem together_ok {y : List Int} {i j : Nat} (hi : i < y.length) (hj : j < y.length) : f_Split_together [.fr (SP y), .fr (.int (i : Nat)), .fr (.int (j : Nat))] [] = some (.ret (.fr (.bl (decide (at_ y i = at_ y j)))) []) := by
  have e1 := call2 (hp := []) (within_ok hi)
  have e2 := call2 (hp := []) (within_ok hj)
  have g1 := gIx_tup [] (y.map .int) i (.int (at_ y i)) (by rw [List.getElem?_map, at_get hi]; rfl)
  have g2 := gIx_tup [] (y.map .int) j (.int (at_ y j)) (by rw [List.getElem?_map, at_get hj]; rfl)
  refine fn_of_w ?_
  unfold b_Split_together
  refine w_step (en1 := [some (.fr (SP y)), some (.fr (.int (i : Nat))), some (.fr (.int (j : Nat)))]) (hp1 := []) (by simp [zAsg, zDrop, zRet, zIf, zNop, zSet, xs_ok, xb_ok, xVar, xC, xCons, xNil, xOp, xUn, xCB, xBM, lf_some', nox_ok, xTest, xNot, xAnd, xOr, xIf, xAndV, gI, gSub, gMod, gFdv, gPow, cPow, gLt, gLe, gGt, gGe, gAdd, gMul, gInt, xgName, xCall, xFld, insOf, FLDS, fldP, e1]) ?_
  refine w_step (en1 := [some (.fr (SP y)), some (.fr (.int (i : Nat))), some (.fr (.int (j : Nat)))]) (hp1 := []) (by simp [zAsg, zDrop, zRet, zIf, zNop, zSet, xs_ok, xb_ok, xVar, xC, xCons, xNil, xOp, xUn, xCB, xBM, lf_some', nox_ok, xTest, xNot, xAnd, xOr, xIf, xAndV, gI, gSub, gMod, gFdv, gPow, cPow, gLt, gLe, gGt, gGe, gAdd, gMul, gInt, xgName, xCall, xFld, insOf, FLDS, fldP, e2]) ?_
  exact w_of (x := .ret (.fr (.bl (decide (at_ y i = at_ y j)))) []) (by simp [zAsg, zDrop, zRet, zIf, zNop, zSet, xs_ok, xb_ok, xVar, xC, xCons, xNil, xOp, xUn, xCB, xBM, lf_some', nox_ok, xTest, xNot, xAnd, xOr, xIf, xAndV, gI, gSub, gMod, gFdv, gPow, cPow, gLt, gLe, gGt, gGe, gAdd, gMul, gInt, xgName, xFld, insOf, FLDS, fldP, g1, g2, gEqD, pvD, okD_int, eqPy_int]) (outR0' _)
theorem finer_ok {x y : List Int} (h : x.length = y.length) (hn : x.length ≤ 1000) (ho : Own x) : f_Split_finer [.fr (SP x), .fr (SP y)] [] = some (.ret (.fr (.bl ((fin x y).all id))) []) := by
  have e1 := call2 (hp := []) (sizes_ok h)
  refine fn_of_w ?_
  unfold b_Split_finer
  refine w_step (en1 := [some (.fr (SP x)), some (.fr (SP y)), none]) (hp1 := []) (by simp [zAsg, zDrop, zRet, zIf, zNop, zSet, xs_ok, xb_ok, xVar, xC, xCons, xNil, xOp, xUn, xCB, xBM, lf_some', nox_ok, xTest, xNot, xAnd, xOr, xIf, xAndV, gI, gSub, gMod, gFdv, gPow, cPow, gLt, gLe, gGt, gGe, gAdd, gMul, gInt, xgName, xCall, e1]) ?_
  refine w_of (x := .ret (.fr (.bl ((fin x y).all id))) []) ?_ (outR0' _)
  have e := xLc_all (xi := xiR1 (xCons (xFld FLDS 1 (xVar 0)) xNil)) (g := xgName 2) (x := xMeth0 33 23 f_Split_together (xVar 1) (xCons (xVar 2) (xCons (xOp gIx (xFld FLDS 33 (xVar 0)) (xVar 2)) xNil))) (vs := [2]) (en := [some (.fr (SP x)), some (.fr (SP y)), none]) (hp := []) (γ := Nat) (fun i => .fr (.int (i : Nat))) (fun i => .bl (decide (at_ y i = at_ y (at_ x i).toNat))) (List.range x.length) (ck := fun _ => true)
    (by simp [xiR1, zAsg, zDrop, zRet, zIf, zNop, zSet, xs_ok, xb_ok, xVar, xC, xCons, xNil, xOp, xUn, xCB, xBM, lf_some', nox_ok, xTest, xNot, xAnd, xOr, xIf, xAndV, gI, gSub, gMod, gFdv, gPow, cPow, gLt, gLe, gGt, gGe, gAdd, gMul, gInt, xgName, xFld, insOf, FLDS, fldP, smI_small hn, rangeP_map]) rfl (by rw [List.length_range]; omega) fun i hi => by
      have hi := List.mem_range.mp hi
      obtain ⟨m, hm, hl⟩ := ho i hi
      have g1 := gIx_tup [] (x.map .int) i (.int (at_ x i)) (by rw [List.getElem?_map, at_get hi]; rfl)
      have c := call3 (hp := []) (together_ok (y := y) (i := i) (j := m) (by omega) (by omega))
      rw [hm] at g1
      refine ⟨_, rfl, ?_⟩
      rw [hm, Int.toNat_natCast]
      simp [zAsg, zDrop, zRet, zIf, zNop, zSet, xs_ok, xb_ok, xVar, xC, xCons, xNil, xOp, xUn, xCB, xBM, lf_some', nox_ok, xTest, xNot, xAnd, xOr, xIf, xAndV, gI, gSub, gMod, gFdv, gPow, cPow, gLt, gLe, gGt, gGe, gAdd, gMul, gInt, xgName, wipeE, xMeth0, xFld, insOf, FLDS, fldP, g1, recv, c]
  unfold zRet
  simp only [xCB, xCons, List.map_cons, List.map_nil, List.length_cons, List.length_nil, List.replicate, List.cons_append, List.nil_append, e, xb_ok, xNil]
  rw [show ((List.range x.length).map fun i => D.bl (decide (at_ y i = at_ y (at_ x i).toNat))) = (fin x y).map D.bl by unfold fin; rw [List.map_map]; rfl]
  simp [gAll, vbls, vseq_lst, blsP_map', zAsg, zDrop, zRet, zIf, zNop, zSet, xs_ok, xb_ok, xVar, xC, xCons, xNil, xOp, xUn, xCB, xBM, lf_some', nox_ok, xTest, xNot, xAnd, xOr, xIf, xAndV, gI, gSub, gMod, gFdv, gPow, cPow, gLt, gLe, gGt, gGe, gAdd, gMul, gInt, xgName]
theorem finer_ne {x y : List Int} (h : x.length ≠ y.length) (hx : x.length ≤ 1000) (hy : y.length ≤ 1000) : f_Split_finer [.fr (SP x), .fr (SP y)] [] = some (.exc 3 [4, 3] [.int y.length, .int x.length] []) := by
  have e1 := call_exc (ds := [SP x, SP y]) (hp := []) (sizes_ne h hx hy)
  refine fn_of_w ?_
  unfold b_Split_finer
  refine w_exc (C := 3) (ns := [4, 3]) (ds := [.int y.length, .int x.length]) (en1 := [some (.fr (SP x)), some (.fr (SP y)), none]) (hp1 := []) ?_ rfl
  simp only [zDrop, xCall, xCons, xVar, List.map_cons, List.map_nil, List.length_cons, List.length_nil, List.replicate, List.cons_append, List.nil_append, List.getElem?_cons_succ, List.getElem?_cons_zero, xb_ok, xNil]
  rw [show [PV.fr (SP x), PV.fr (SP y)] = [SP x, SP y].map PV.fr from rfl, e1]
  rfl
theorem isi_ok (y : List Int) (hp : List O) : gIsi' KITS hp [.fr (SP y), .fr (.cls 33)] = some (.fr (.bl true), hp) := rfl
theorem pairD_zip : ∀ (x y : List Int), pairD (x.map .int) (y.map .int) = (x.zip y).map pr2
  | [], _ => by simp [pairD]
  | _ :: _, [] => by simp [pairD]
  | a :: x, b :: y => by
    rw [List.map_cons, List.map_cons]
    unfold pairD
    rw [pairD_zip x y]
    rfl
def meetL (x y : List Int) : List Int := low (x.zip y)
def joinL (x y : List Int) : List Int := rnds x.length x y x.length
theorem tog_ok {x y : List Int} (h : y.length = x.length) (hn : x.length ≤ 1000) : f_together_marks [.fr (TI x), .fr (TI y)] [] = some (.ret (.fr (LI (meetL x y))) []) := by
  have e := call1 (hp := []) (lm_prs (x.zip y) (by rw [List.length_zip]; omega))
  refine fn_of_w ?_
  unfold b_together_marks
  refine w_of (x := .ret (.fr (LI (meetL x y))) []) ?_ (outR0' _)
  have hz : sz x.length = true := sz_le (by omega)
  have e0 : (xListZip true (xCons (xVar 0) (xCons (xVar 1) xNil))) [some (.fr (TI x)), some (.fr (TI y))] [] = some (.ok (.fr (.lst ((x.zip y).map pr2))) []) := by
    simp only [xListZip, xCons, xVar, List.getElem?_cons_succ, List.getElem?_cons_zero, xb_ok, xNil, vseq_tup, if_true, unfr_map, List.length_map, h, hz, decide_true, Bool.and_self, pairD_zip, ML.fresh, toD, Option.map_some, lf_some']
  simp only [zRet, xCall0, xCons, List.map_cons, List.map_nil, List.length_cons, List.length_nil, Nat.sub_self, List.replicate, List.append_nil, e0, xb_ok, xNil, e, nox_ok, xs_ok]
  rfl
theorem and_ok {x y : List Int} (h : y.length = x.length) (h1 : 1 ≤ x.length) (h2 : x.length ≤ 12) : f_Split___and__ [.fr (SP x), .fr (SP y)] [] = some (.ret (.fr (SP (meetL x y))) []) := by
  have hz : (meetL x y).length = x.length := by unfold meetL; rw [low_len, List.length_zip]; omega
  have e1 := call2 (hp := []) (sizes_ok h.symm)
  have e2 := call2 (hp := []) (tog_ok h (by omega))
  have e3 := initC (meetL x y) (by omega) (by omega) []
  have e4 : low (meetL x y) = meetL x y := low_low _ (0, 0)
  rw [e4] at e3
  refine fn_of_w ?_
  unfold b_Split___and__
  refine w_step (en1 := [some (.fr (SP x)), some (.fr (SP y))]) (hp1 := []) (by simp [zAsg, zDrop, zRet, zIf, zNop, zSet, xs_ok, xb_ok, xVar, xC, xCons, xNil, xOp, xUn, xCB, xBM, lf_some', nox_ok, xTest, xNot, xAnd, xOr, xIf, xAndV, gI, gSub, gMod, gFdv, gPow, cPow, gLt, gLe, gGt, gGe, gAdd, gMul, gInt, xgName, isi_ok]) ?_
  refine w_step (en1 := [some (.fr (SP x)), some (.fr (SP y))]) (hp1 := []) (by simp [zAsg, zDrop, zRet, zIf, zNop, zSet, xs_ok, xb_ok, xVar, xC, xCons, xNil, xOp, xUn, xCB, xBM, lf_some', nox_ok, xTest, xNot, xAnd, xOr, xIf, xAndV, gI, gSub, gMod, gFdv, gPow, cPow, gLt, gLe, gGt, gGe, gAdd, gMul, gInt, xgName, xCall, e1]) ?_
  exact w_of (x := .ret (.fr (SP (meetL x y))) []) (by simp [zAsg, zDrop, zRet, zIf, zNop, zSet, xs_ok, xb_ok, xVar, xC, xCons, xNil, xOp, xUn, xCB, xBM, lf_some', nox_ok, xTest, xNot, xAnd, xOr, xIf, xAndV, gI, gSub, gMod, gFdv, gPow, cPow, gLt, gLe, gGt, gGe, gAdd, gMul, gInt, xgName, xCall, xCall0, xFld, insOf, FLDS, fldP, e2, e3]) (outR0' _)
theorem and_ne {x y : List Int} (h : x.length ≠ y.length) (hx : x.length ≤ 1000) (hy : y.length ≤ 1000) : f_Split___and__ [.fr (SP x), .fr (SP y)] [] = some (.exc 3 [4, 3] [.int y.length, .int x.length] []) := by
  have e1 := call_exc (ds := [SP x, SP y]) (hp := []) (sizes_ne h hx hy)
  refine fn_of_w ?_
  unfold b_Split___and__
  refine w_step (en1 := [some (.fr (SP x)), some (.fr (SP y))]) (hp1 := []) (by simp [zAsg, zDrop, zRet, zIf, zNop, zSet, xs_ok, xb_ok, xVar, xC, xCons, xNil, xOp, xUn, xCB, xBM, lf_some', nox_ok, xTest, xNot, xAnd, xOr, xIf, xAndV, gI, gSub, gMod, gFdv, gPow, cPow, gLt, gLe, gGt, gGe, gAdd, gMul, gInt, xgName, isi_ok]) ?_
  refine w_exc (C := 3) (ns := [4, 3]) (ds := [.int y.length, .int x.length]) (en1 := [some (.fr (SP x)), some (.fr (SP y))]) (hp1 := []) ?_ rfl
  simp only [zDrop, xCall, xCons, xVar, List.getElem?_cons_succ, List.getElem?_cons_zero, xb_ok, xNil]
  rw [show [PV.fr (SP x), PV.fr (SP y)] = [SP x, SP y].map PV.fr from rfl, e1]
  rfl
theorem or_ne {x y : List Int} (h : x.length ≠ y.length) (hx : x.length ≤ 1000) (hy : y.length ≤ 1000) : f_Split___or__ [.fr (SP x), .fr (SP y)] [] = some (.exc 3 [4, 3] [.int y.length, .int x.length] []) := by
  have e1 := call_exc (ds := [SP x, SP y]) (hp := []) (sizes_ne h hx hy)
  refine fn_of_w ?_
  unfold b_Split___or__
  refine w_step (en1 := [some (.fr (SP x)), some (.fr (SP y))]) (hp1 := []) (by simp [zAsg, zDrop, zRet, zIf, zNop, zSet, xs_ok, xb_ok, xVar, xC, xCons, xNil, xOp, xUn, xCB, xBM, lf_some', nox_ok, xTest, xNot, xAnd, xOr, xIf, xAndV, gI, gSub, gMod, gFdv, gPow, cPow, gLt, gLe, gGt, gGe, gAdd, gMul, gInt, xgName, isi_ok]) ?_
  refine w_exc (C := 3) (ns := [4, 3]) (ds := [.int y.length, .int x.length]) (en1 := [some (.fr (SP x)), some (.fr (SP y))]) (hp1 := []) ?_ rfl
  simp only [zDrop, xCall, xCons, xVar, List.getElem?_cons_succ, List.getElem?_cons_zero, xb_ok, xNil]
  rw [show [PV.fr (SP x), PV.fr (SP y)] = [SP x, SP y].map PV.fr from rfl, e1]
  rfl
theorem join_low {x y : List Int} (h : y.length = x.length) : low (foldJ 0 (lowN y) x) = joinL x y := by
  have h1 := isJoin_low (a := x) (b := y) (M := foldJ 0 (lowN y) x) (foldJ_len _ _ _) (joined_rel x y x.length rfl h)
  exact h1.uniq (law_join_is (a := x) (b := y) rfl h) fun i j _ _ => Iff.rfl
theorem joinL_len {x y : List Int} (h : y.length = x.length) : (joinL x y).length = x.length := (law_join_is (a := x) (b := y) rfl h).len
theorem or_ok {x y : List Int} (h : y.length = x.length) (h1 : 1 ≤ x.length) (h2 : x.length ≤ 12) (hy : low y = y) : f_Split___or__ [.fr (SP x), .fr (SP y)] [] = some (.ret (.fr (SP (joinL x y))) []) := by
  have e1 := call2 (hp := []) (sizes_ok h.symm)
  have e2 := joined_ok x y (by omega) h
  rw [hy] at e2
  have e2 := call2 (hp := []) e2
  have e3 := initC (foldJ 0 (lowN y) x) (by rw [foldJ_len]; omega) (by rw [foldJ_len]; omega) []
  rw [join_low h] at e3
  refine fn_of_w ?_
  unfold b_Split___or__
  refine w_step (en1 := [some (.fr (SP x)), some (.fr (SP y))]) (hp1 := []) (by simp [zAsg, zDrop, zRet, zIf, zNop, zSet, xs_ok, xb_ok, xVar, xC, xCons, xNil, xOp, xUn, xCB, xBM, lf_some', nox_ok, xTest, xNot, xAnd, xOr, xIf, xAndV, gI, gSub, gMod, gFdv, gPow, cPow, gLt, gLe, gGt, gGe, gAdd, gMul, gInt, xgName, isi_ok]) ?_
  refine w_step (en1 := [some (.fr (SP x)), some (.fr (SP y))]) (hp1 := []) (by simp [zAsg, zDrop, zRet, zIf, zNop, zSet, xs_ok, xb_ok, xVar, xC, xCons, xNil, xOp, xUn, xCB, xBM, lf_some', nox_ok, xTest, xNot, xAnd, xOr, xIf, xAndV, gI, gSub, gMod, gFdv, gPow, cPow, gLt, gLe, gGt, gGe, gAdd, gMul, gInt, xgName, xCall, e1]) ?_
  exact w_of (x := .ret (.fr (SP (joinL x y))) []) (by simp [zAsg, zDrop, zRet, zIf, zNop, zSet, xs_ok, xb_ok, xVar, xC, xCons, xNil, xOp, xUn, xCB, xBM, lf_some', nox_ok, xTest, xNot, xAnd, xOr, xIf, xAndV, gI, gSub, gMod, gFdv, gPow, cPow, gLt, gLe, gGt, gGe, gAdd, gMul, gInt, xgName, xCall, xCall0, xFld, insOf, FLDS, fldP, e2, e3]) (outR0' _)
theorem marks_m (x : List Int) : f_Split_marks [.fr (SP x)] [] = some (.ret (.fr (LI x)) []) := by
  refine fn_of_w ?_
  unfold b_Split_marks
  refine w_of (x := .ret (.fr (LI x)) []) ?_ (outR0' _)
  simp [gList, vseq_tup, mkL_map', ML.fresh, toD, zAsg, zDrop, zRet, zIf, zNop, zSet, xs_ok, xb_ok, xVar, xC, xCons, xNil, xOp, xUn, xCB, xBM, lf_some', nox_ok, xTest, xNot, xAnd, xOr, xIf, xAndV, gI, gSub, gMod, gFdv, gPow, cPow, gLt, gLe, gGt, gGe, gAdd, gMul, gInt, xgName, xFld, insOf, FLDS, fldP]
theorem eq_ok (x y : List Int) : f_Split___eq__ [.fr (SP x), .fr (SP y)] [] = some (.ret (.fr (.bl (decide (x = y)))) []) := by
  refine fn_of_w ?_
  unfold b_Split___eq__
  refine w_of (x := .ret (.fr (.bl (decide (x = y)))) []) ?_ (outR0' _)
  simp [zAsg, zDrop, zRet, zIf, zNop, zSet, xs_ok, xb_ok, xVar, xC, xCons, xNil, xOp, xUn, xCB, xBM, lf_some', nox_ok, xTest, xNot, xAnd, xOr, xIf, xAndV, gI, gSub, gMod, gFdv, gPow, cPow, gLt, gLe, gGt, gGe, gAdd, gMul, gInt, xgName, isi_ok, xFld, insOf, FLDS, fldP, gEqD, pvD, okD_TI, eqPy_tup]
end K


namespace K
open PySem ML
/-! ### the third list -/
theorem third_ok (b : Bag) (x y : List Int) (h : y.length = x.length) (h0 : 0 < x.length) (hn : x.length ≤ 1000) : ∃ l b', f__law_third [.rf 0, .fr (LI x), .fr (LI y)] (bagH b) = some (.ret (.fr (LI l)) (bagH b')) ∧ l.length = x.length := by
  obtain ⟨w, b1, -, e1, w0, w1⟩ := takeC b 4 (by decide) (lg_small (by decide))
  obtain ⟨pl, b2, -, e2, p0, p1⟩ := takeC b1 x.length (by omega) (lg_small (by omega))
  obtain ⟨ot, b3, -, e3, o0, o1⟩ := takeC b2 x.length (by omega) (lg_small (by omega))
  have ret : ∀ (l : List Int) (b' : Bag) (t : List O), outR 2 (.fr (LI l)) (bagH b' ++ t) = some (.ret (.fr (LI l)) (bagH b')) := fun l b' t => outR_bag _ _ _
  have ret0 : ∀ (l : List Int) (b' : Bag), outR 2 (.fr (LI l)) (bagH b') = some (.ret (.fr (LI l)) (bagH b')) := fun l b' => by have := ret l b' []; rwa [List.append_nil] at this
  have start : ∀ Q, wS ((zSeq (zIf (xTest (xOp (gEqD false) (xVar 4) (xC (.int 0)))) (zRet (xCall0 f__law_marks (xCons (xVar 0) (xCons (xVar 3) xNil)))) zNop)
    (zSeq (zIf (xTest (xOp (gEqD false) (xVar 4) (xC (.int 1)))) (zRet (xLc true (xiSeq (xCall0 f__law_meet (xCons (xVar 1) (xCons (xVar 2) xNil)))) (xgName 7) xYes (xOp (gAdd true) (xOp (gMul true) (xC (.int 2)) (xVar 7)) (xCall0 f__law_take (xCons (xVar 0) (xCons (xC (.int 2)) xNil)))) [7])) zNop)
    (zSeq (zIf (xTest (xOp (gEqD false) (xVar 4) (xC (.int 2)))) (zSeq (zAsg 8 (xCall0 f__law_join (xCons (xVar 1) (xCons (xVar 2) xNil))))
    (zRet (xLc true (xiSeq (xVar 8)) (xgName 7) xYes (xIf (xTest (xOp (gEqD false) (xVar 7) (xOp gIx (xVar 8) (xVar 6)))) (xOp gIx (xVar 8) (xVar 5)) (xVar 7)) [7]))) zNop)
    (zSeq (zAsg 9 (xCB (gList false) (xCons (xVar 1) xNil)))
    (zSeq (zSet (xVar 6) (xVar 9) (xVar 5))
    (zRet (xFz (xVar 9)))))))) [some (.rf 0), some (.fr (LI x)), some (.fr (LI y)), some (.fr (.int x.length)), some (.fr (.int w)), some (.fr (.int pl)), some (.fr (.int ot)), none, none, none] (bagH b3)) Q → wS (b__law_third [some (.rf 0), some (.fr (LI x)), some (.fr (LI y)), none, none, none, none, none, none, none] (bagH b)) Q := fun Q hq => by
    unfold b__law_third
    refine w_step (en1 := [some (.rf 0), some (.fr (LI x)), some (.fr (LI y)), some (.fr (.int x.length)), none, none, none, none, none, none]) (hp1 := bagH b) (by simp [zAsg, zDrop, zRet, zIf, zNop, zSet, xs_ok, xb_ok, xVar, xC, xCons, xNil, xOp, xUn, xCB, xBM, lf_some', nox_ok, xTest, xNot, xAnd, xOr, xIf, xAndV, gI, gSub, gMod, gFdv, gPow, cPow, gLt, gLe, gGt, gGe, gAdd, gMul, gInt, xgName, gLen, vseq_lst]) ?_
    refine w_step (en1 := [some (.rf 0), some (.fr (LI x)), some (.fr (LI y)), some (.fr (.int x.length)), some (.fr (.int w)), none, none, none, none, none]) (hp1 := bagH b1) (by simp [zAsg, zDrop, zRet, zIf, zNop, zSet, xs_ok, xb_ok, xVar, xC, xCons, xNil, xOp, xUn, xCB, xBM, lf_some', nox_ok, xTest, xNot, xAnd, xOr, xIf, xAndV, gI, gSub, gMod, gFdv, gPow, cPow, gLt, gLe, gGt, gGe, gAdd, gMul, gInt, xgName, xCall0, e1]) ?_
    refine w_step (en1 := [some (.rf 0), some (.fr (LI x)), some (.fr (LI y)), some (.fr (.int x.length)), some (.fr (.int w)), some (.fr (.int pl)), none, none, none, none]) (hp1 := bagH b2) (by simp [zAsg, zDrop, zRet, zIf, zNop, zSet, xs_ok, xb_ok, xVar, xC, xCons, xNil, xOp, xUn, xCB, xBM, lf_some', nox_ok, xTest, xNot, xAnd, xOr, xIf, xAndV, gI, gSub, gMod, gFdv, gPow, cPow, gLt, gLe, gGt, gGe, gAdd, gMul, gInt, xgName, xCall0, e2]) ?_
    exact w_step (en1 := [some (.rf 0), some (.fr (LI x)), some (.fr (LI y)), some (.fr (.int x.length)), some (.fr (.int w)), some (.fr (.int pl)), some (.fr (.int ot)), none, none, none]) (hp1 := bagH b3) (by simp [zAsg, zDrop, zRet, zIf, zNop, zSet, xs_ok, xb_ok, xVar, xC, xCons, xNil, xOp, xUn, xCB, xBM, lf_some', nox_ok, xTest, xNot, xAnd, xOr, xIf, xAndV, gI, gSub, gMod, gFdv, gPow, cPow, gLt, gLe, gGt, gGe, gAdd, gMul, gInt, xgName, xCall0, e3]) hq
  by_cases c0 : w = 0
  · subst c0
    obtain ⟨l, b4, -, e4, hl⟩ := marksC b3 x.length h0 hn
    refine ⟨l, b4, fn_of_w (start _ ?_), hl⟩
    exact w_stop (p := .fr (LI l)) (hp1 := bagH b4) (by simp [zAsg, zDrop, zRet, zIf, zNop, zSet, xs_ok, xb_ok, xVar, xC, xCons, xNil, xOp, xUn, xCB, xBM, lf_some', nox_ok, xTest, xNot, xAnd, xOr, xIf, xAndV, gI, gSub, gMod, gFdv, gPow, cPow, gLt, gLe, gGt, gGe, gAdd, gMul, gInt, xgName, gEqD, pvD, okD_int, eqPy_int, xCall0, e4]) (ret0 _ _)
  by_cases c1 : w = 1
  · subst c1
    have e4 := call2 (hp := bagH b3) (law_meet_ok x y hn h)
    obtain ⟨ds, b4, e5, h3, h4⟩ := xLc_fold (xi := xiSeq (xCall0 f__law_meet (xCons (xVar 1) (xCons (xVar 2) xNil)))) (g := xgName 7) (x := xOp (gAdd true) (xOp (gMul true) (xC (.int 2)) (xVar 7)) (xCall0 f__law_take (xCons (xVar 0) (xCons (xC (.int 2)) xNil)))) (vs := [7]) (en := [some (.rf 0), some (.fr (LI x)), some (.fr (LI y)), some (.fr (.int x.length)), some (.fr (.int 1)), some (.fr (.int pl)), some (.fr (.int ot)), none, none, none]) (γ := Int) (fun i => .fr (.int i)) bagH (fun _ _ d _ => ∃ z, d = .int z) (low (x.zip y)) b3 (ck := fun _ => true)
      (by simp [xiSeq, zAsg, zDrop, zRet, zIf, zNop, zSet, xs_ok, xb_ok, xVar, xC, xCons, xNil, xOp, xUn, xCB, xBM, lf_some', nox_ok, xTest, xNot, xAnd, xOr, xIf, xAndV, gI, gSub, gMod, gFdv, gPow, cPow, gLt, gLe, gGt, gGe, gAdd, gMul, gInt, xgName, xCall0, e4, vseq_lst, ckP]) (fun _ => rfl) (by rw [low_len, List.length_zip]; omega) fun i hi s => by
        obtain ⟨d', s', -, e', _, _⟩ := takeC s 2 (by decide) (lg_small (by decide))
        exact ⟨_, .int (2 * i + d'), s', rfl, by simp [zAsg, zDrop, zRet, zIf, zNop, zSet, xs_ok, xb_ok, xVar, xC, xCons, xNil, xOp, xUn, xCB, xBM, lf_some', nox_ok, xTest, xNot, xAnd, xOr, xIf, xAndV, gI, gSub, gMod, gFdv, gPow, cPow, gLt, gLe, gGt, gGe, gAdd, gMul, gInt, xgName, wipeE, xCall0, e', cMul], _, rfl⟩
    obtain ⟨l, rfl, hl⟩ := ints_of fun d hd => (let ⟨_, _, _, z⟩ := h4 d hd; z)
    refine ⟨l, b4, fn_of_w (start _ ?_), by rw [hl, h3, low_len, List.length_zip]; omega⟩
    refine w_step (en1 := [some (.rf 0), some (.fr (LI x)), some (.fr (LI y)), some (.fr (.int x.length)), some (.fr (.int 1)), some (.fr (.int pl)), some (.fr (.int ot)), none, none, none]) (hp1 := bagH b3) (by simp [zAsg, zDrop, zRet, zIf, zNop, zSet, xs_ok, xb_ok, xVar, xC, xCons, xNil, xOp, xUn, xCB, xBM, lf_some', nox_ok, xTest, xNot, xAnd, xOr, xIf, xAndV, gI, gSub, gMod, gFdv, gPow, cPow, gLt, gLe, gGt, gGe, gAdd, gMul, gInt, xgName, gEqD, pvD, okD_int, eqPy_int]) ?_
    refine w_stop (p := .fr (LI l)) (hp1 := bagH b4) ?_ (ret0 _ _)
    simp only [zIf, xTest, xOp, xVar, xC, List.getElem?_cons_succ, List.getElem?_cons_zero, xb_ok, gEqD, pvD, okD_int, eqPy_int, Bool.and_self, if_true, decide_true, lf_some', xs_ok, zRet, if_false, Bool.false_eq_true]
    show xs _ (xLc true _ _ _ _ _ _ _) _ = _
    rw [e5, xs_ok]
  have st0 : ∀ v : Int, w ≠ v → (zIf (xTest (xOp (gEqD false) (xVar 4) (xC (.int v)))) (zRet (xVar 0)) zNop) [some (.rf 0), some (.fr (LI x)), some (.fr (LI y)), some (.fr (.int x.length)), some (.fr (.int w)), some (.fr (.int pl)), some (.fr (.int ot)), none, none, none] (bagH b3) = some (.next [some (.rf 0), some (.fr (LI x)), some (.fr (LI y)), some (.fr (.int x.length)), some (.fr (.int w)), some (.fr (.int pl)), some (.fr (.int ot)), none, none, none] (bagH b3)) := fun v hv => by
    simp [zAsg, zDrop, zRet, zIf, zNop, zSet, xs_ok, xb_ok, xVar, xC, xCons, xNil, xOp, xUn, xCB, xBM, lf_some', nox_ok, xTest, xNot, xAnd, xOr, xIf, xAndV, gI, gSub, gMod, gFdv, gPow, cPow, gLt, gLe, gGt, gGe, gAdd, gMul, gInt, xgName, gEqD, pvD, okD_int, eqPy_int, hv]
  by_cases c2 : w = 2
  · have hj := law_join_ok x y x.length rfl h hn
    have e4 := call2 (hp := bagH b3) hj
    have hjl : (rnds x.length x y x.length).length = x.length := joinL_len h
    generalize rnds x.length x y x.length = J at e4 hjl
    obtain ⟨p, rfl⟩ : ∃ p : Nat, pl = (p : Int) := ⟨pl.toNat, by omega⟩
    obtain ⟨q, rfl⟩ : ∃ q : Nat, ot = (q : Int) := ⟨ot.toNat, by omega⟩
    have g1 := gIx_lst (bagH b3) (J.map .int) p (.int (at_ J p)) (by rw [List.getElem?_map, at_get (by omega)]; rfl)
    have g2 := gIx_lst (bagH b3) (J.map .int) q (.int (at_ J q)) (by rw [List.getElem?_map, at_get (by omega)]; rfl)
    refine ⟨J.map fun m => if m = at_ J q then at_ J p else m, b3, fn_of_w (start _ ?_), by rw [List.length_map, hjl]⟩
    refine w_step (en1 := [some (.rf 0), some (.fr (LI x)), some (.fr (LI y)), some (.fr (.int x.length)), some (.fr (.int w)), some (.fr (.int p)), some (.fr (.int q)), none, none, none]) (hp1 := bagH b3) (by simp [zAsg, zDrop, zRet, zIf, zNop, zSet, xs_ok, xb_ok, xVar, xC, xCons, xNil, xOp, xUn, xCB, xBM, lf_some', nox_ok, xTest, xNot, xAnd, xOr, xIf, xAndV, gI, gSub, gMod, gFdv, gPow, cPow, gLt, gLe, gGt, gGe, gAdd, gMul, gInt, xgName, gEqD, pvD, okD_int, eqPy_int, c0]) ?_
    refine w_step (en1 := [some (.rf 0), some (.fr (LI x)), some (.fr (LI y)), some (.fr (.int x.length)), some (.fr (.int w)), some (.fr (.int p)), some (.fr (.int q)), none, none, none]) (hp1 := bagH b3) (by simp [zAsg, zDrop, zRet, zIf, zNop, zSet, xs_ok, xb_ok, xVar, xC, xCons, xNil, xOp, xUn, xCB, xBM, lf_some', nox_ok, xTest, xNot, xAnd, xOr, xIf, xAndV, gI, gSub, gMod, gFdv, gPow, cPow, gLt, gLe, gGt, gGe, gAdd, gMul, gInt, xgName, gEqD, pvD, okD_int, eqPy_int, c1]) ?_
    refine w_stop (p := .fr (LI (J.map fun m => if m = at_ J q then at_ J p else m))) (hp1 := bagH b3) (eq_of_w ?_) (ret0 _ _)
    simp only [zIf, xTest, xOp, xVar, xC, List.getElem?_cons_succ, List.getElem?_cons_zero, xb_ok, gEqD, pvD, okD_int, eqPy_int, Bool.and_self, if_true, lf_some', c2, decide_true, xs_ok, if_false, Bool.false_eq_true]
    refine w_step (en1 := [some (.rf 0), some (.fr (LI x)), some (.fr (LI y)), some (.fr (.int x.length)), some (.fr (.int 2)), some (.fr (.int p)), some (.fr (.int q)), none, some (.fr (LI J)), none]) (hp1 := bagH b3) (by simp [zAsg, zDrop, zRet, zIf, zNop, zSet, xs_ok, xb_ok, xVar, xC, xCons, xNil, xOp, xUn, xCB, xBM, lf_some', nox_ok, xTest, xNot, xAnd, xOr, xIf, xAndV, gI, gSub, gMod, gFdv, gPow, cPow, gLt, gLe, gGt, gGe, gAdd, gMul, gInt, xgName, xCall0, e4]) ?_
    refine w_of (x := .ret (.fr (LI (J.map fun m => if m = at_ J q then at_ J p else m))) (bagH b3)) ?_ rfl
    unfold zRet
    rw [xLc_all (γ := Int) (fun i => .fr (.int i)) (fun m => .int (if m = at_ J q then at_ J p else m)) J (ck := fun _ => true) (by simp [xiSeq, zAsg, zDrop, zRet, zIf, zNop, zSet, xs_ok, xb_ok, xVar, xC, xCons, xNil, xOp, xUn, xCB, xBM, lf_some', nox_ok, xTest, xNot, xAnd, xOr, xIf, xAndV, gI, gSub, gMod, gFdv, gPow, cPow, gLt, gLe, gGt, gGe, gAdd, gMul, gInt, xgName, vseq_lst, ckP]) rfl (by omega) fun i hi => ⟨_, rfl, by
      by_cases z : i = at_ J q <;> simp [zAsg, zDrop, zRet, zIf, zNop, zSet, xs_ok, xb_ok, xVar, xC, xCons, xNil, xOp, xUn, xCB, xBM, lf_some', nox_ok, xTest, xNot, xAnd, xOr, xIf, xAndV, gI, gSub, gMod, gFdv, gPow, cPow, gLt, gLe, gGt, gGe, gAdd, gMul, gInt, xgName, wipeE, g1, g2, gEqD, pvD, okD_int, eqPy_int, z]⟩, xs_ok]
    simp
  · obtain ⟨p, rfl⟩ : ∃ p : Nat, pl = (p : Int) := ⟨pl.toNat, by omega⟩
    refine ⟨x.set p ot, b3, fn_of_w (start _ ?_), by rw [List.length_set]⟩
    refine w_step (en1 := [some (.rf 0), some (.fr (LI x)), some (.fr (LI y)), some (.fr (.int x.length)), some (.fr (.int w)), some (.fr (.int p)), some (.fr (.int ot)), none, none, none]) (hp1 := bagH b3) (by simp [zAsg, zDrop, zRet, zIf, zNop, zSet, xs_ok, xb_ok, xVar, xC, xCons, xNil, xOp, xUn, xCB, xBM, lf_some', nox_ok, xTest, xNot, xAnd, xOr, xIf, xAndV, gI, gSub, gMod, gFdv, gPow, cPow, gLt, gLe, gGt, gGe, gAdd, gMul, gInt, xgName, gEqD, pvD, okD_int, eqPy_int, c0]) ?_
    refine w_step (en1 := [some (.rf 0), some (.fr (LI x)), some (.fr (LI y)), some (.fr (.int x.length)), some (.fr (.int w)), some (.fr (.int p)), some (.fr (.int ot)), none, none, none]) (hp1 := bagH b3) (by simp [zAsg, zDrop, zRet, zIf, zNop, zSet, xs_ok, xb_ok, xVar, xC, xCons, xNil, xOp, xUn, xCB, xBM, lf_some', nox_ok, xTest, xNot, xAnd, xOr, xIf, xAndV, gI, gSub, gMod, gFdv, gPow, cPow, gLt, gLe, gGt, gGe, gAdd, gMul, gInt, xgName, gEqD, pvD, okD_int, eqPy_int, c1]) ?_
    refine w_step (en1 := [some (.rf 0), some (.fr (LI x)), some (.fr (LI y)), some (.fr (.int x.length)), some (.fr (.int w)), some (.fr (.int p)), some (.fr (.int ot)), none, none, none]) (hp1 := bagH b3) (by simp [zAsg, zDrop, zRet, zIf, zNop, zSet, xs_ok, xb_ok, xVar, xC, xCons, xNil, xOp, xUn, xCB, xBM, lf_some', nox_ok, xTest, xNot, xAnd, xOr, xIf, xAndV, gI, gSub, gMod, gFdv, gPow, cPow, gLt, gLe, gGt, gGe, gAdd, gMul, gInt, xgName, gEqD, pvD, okD_int, eqPy_int, c2]) ?_
    refine w_step (en1 := [some (.rf 0), some (.fr (LI x)), some (.fr (LI y)), some (.fr (.int x.length)), some (.fr (.int w)), some (.fr (.int p)), some (.fr (.int ot)), none, none, some (.rf 2)]) (hp1 := bagH b3 ++ [.lst (x.map .int)]) (by simp [zAsg, zDrop, zRet, zIf, zNop, zSet, xs_ok, xb_ok, xVar, xC, xCons, xNil, xOp, xUn, xCB, xBM, lf_some', nox_ok, xTest, xNot, xAnd, xOr, xIf, xAndV, gI, gSub, gMod, gFdv, gPow, cPow, gLt, gLe, gGt, gGe, gAdd, gMul, gInt, xgName, gList, vseq_lst, mkL_map', ML.fresh, bagH]) ?_
    have hset : mkL ((x.map (PV.fr ∘ D.int)).set p (.fr (.int ot))) = .lst ((x.map D.int).set p (.int ot)) := by
      rw [show (x.map (PV.fr ∘ D.int)).set p (.fr (.int ot)) = ((x.map D.int).set p (.int ot)).map PV.fr by rw [List.map_set, List.map_map], mkL_map]
    refine w_step (en1 := [some (.rf 0), some (.fr (LI x)), some (.fr (LI y)), some (.fr (.int x.length)), some (.fr (.int w)), some (.fr (.int p)), some (.fr (.int ot)), none, none, some (.rf 2)]) (hp1 := bagH b3 ++ [.lst ((x.set p ot).map .int)]) ?_ ?_
    · have hp : p < x.length := by omega
      simp [zAsg, zDrop, zRet, zIf, zNop, zSet, xs_ok, xb_ok, xVar, xC, xCons, xNil, xOp, xUn, xCB, xBM, lf_some', nox_ok, xTest, xNot, xAnd, xOr, xIf, xAndV, gI, gSub, gMod, gFdv, gPow, cPow, gLt, gLe, gGt, gGe, gAdd, gMul, gInt, xgName, ownL, bagH, L2.ixN, hset, hp]
    · refine w_of (x := Oc.ret (.fr (LI (x.set p ot))) (bagH b3 ++ [O.ice (LI (x.set p ot))])) (by simp [zAsg, zDrop, zRet, zIf, zNop, zSet, xs_ok, xb_ok, xVar, xC, xCons, xNil, xOp, xUn, xCB, xBM, lf_some', nox_ok, xTest, xNot, xAnd, xOr, xIf, xAndV, gI, gSub, gMod, gFdv, gPow, cPow, gLt, gLe, gGt, gGe, gAdd, gMul, gInt, xgName, xFz, gFz, bagH, toD]) (outR_bag (LI (x.set p ot)) b3 [.ice (LI (x.set p ot))])
theorem thirdC (b : Bag) (x y : List Int) (h : y.length = x.length) (h0 : 0 < x.length) (hn : x.length ≤ 1000) : ∃ l b', callF f__law_third [.rf 0, .fr (LI x), .fr (LI y)] (bagH b) = some (.ok (.fr (LI l)) (bagH b')) ∧ l.length = x.length := by
  obtain ⟨l, b', e, h2⟩ := third_ok b x y h h0 hn
  exact ⟨l, b', call_bag' (ds := [LI x, LI y]) e, h2⟩
/-! ### the law's finer -/
theorem flat_rep {γ : Type} (x : γ) : ∀ n : Nat, (List.replicate n [x]).flatten = List.replicate n x
  | 0 => rfl
  | n + 1 => by rw [List.replicate_succ, List.flatten_cons, flat_rep x n]; rfl
theorem all_rep : ∀ l : List Bool, decide (l = List.replicate l.length true) = l.all id
  | [] => rfl
  | b :: l => by
    rw [List.length_cons, List.replicate_succ, List.all_cons, ← all_rep l]
    cases b <;> simp
theorem rep_map {γ : Type} (f : γ → PV) (x : γ) (n : Nat) : List.replicate n (f x) = (List.replicate n x).map f := by simp
theorem law_finer_ok {x y : List Int} (h : y.length = x.length) (hn : x.length ≤ 1000) (ho : Own x) : f__law_finer [.fr (LI x), .fr (LI y)] [] = some (.ret (.fr (.bl ((fin x y).all id))) []) := by
  refine fn_of_w ?_
  unfold b__law_finer
  refine w_of (x := .ret (.fr (.bl ((fin x y).all id))) []) ?_ (outR0' _)
  have e := xLc_all (xi := xiR1 (xCons (xCB gLen (xCons (xVar 0) xNil)) xNil)) (g := xgName 2) (x := xOp (gEqD false) (xOp gIx (xVar 1) (xVar 2)) (xOp gIx (xVar 1) (xOp gIx (xVar 0) (xVar 2)))) (vs := [2]) (en := [some (.fr (LI x)), some (.fr (LI y)), none]) (hp := []) (γ := Nat) (fun i => .fr (.int (i : Nat))) (fun i => .bl (decide (at_ y i = at_ y (at_ x i).toNat))) (List.range x.length) (ck := fun _ => true)
    (by simp [xiR1, zAsg, zDrop, zRet, zIf, zNop, zSet, xs_ok, xb_ok, xVar, xC, xCons, xNil, xOp, xUn, xCB, xBM, lf_some', nox_ok, xTest, xNot, xAnd, xOr, xIf, xAndV, gI, gSub, gMod, gFdv, gPow, cPow, gLt, gLe, gGt, gGe, gAdd, gMul, gInt, xgName, gLen, vseq_lst, smI_small hn, rangeP_map]) rfl (by rw [List.length_range]; omega) fun i hi => by
      have hi := List.mem_range.mp hi
      obtain ⟨m, hm, hl⟩ := ho i hi
      have g1 := gIx_lst [] (x.map .int) i (.int (at_ x i)) (by rw [List.getElem?_map, at_get hi]; rfl)
      have g2 := gIx_lst [] (y.map .int) i (.int (at_ y i)) (by rw [List.getElem?_map, at_get (by omega)]; rfl)
      have g3 := gIx_lst [] (y.map .int) m (.int (at_ y m)) (by rw [List.getElem?_map, at_get (by omega)]; rfl)
      rw [hm] at g1
      refine ⟨_, rfl, ?_⟩
      rw [hm, Int.toNat_natCast]
      simp [zAsg, zDrop, zRet, zIf, zNop, zSet, xs_ok, xb_ok, xVar, xC, xCons, xNil, xOp, xUn, xCB, xBM, lf_some', nox_ok, xTest, xNot, xAnd, xOr, xIf, xAndV, gI, gSub, gMod, gFdv, gPow, cPow, gLt, gLe, gGt, gGe, gAdd, gMul, gInt, xgName, wipeE, g1, g2, g3, gEqD, pvD, okD_int, eqPy_int]
  have e2 : (xOp (gMul true) (xLst true (xCons (xC (.bl true)) xNil)) (xCB gLen (xCons (xVar 0) xNil))) [some (.fr (LI x)), some (.fr (LI y)), none] [] = some (.ok (.fr (.lst ((List.replicate x.length true).map .bl))) []) := by
    have a1 : (-100000 : Int) ≤ (x.length : Int) := by omega
    have a2 : (x.length : Int) ≤ 100000 := by omega
    have a3 : sz x.length = true := sz_le (by omega)
    have a4 : unfr (List.replicate x.length (PV.fr (D.bl true))) = some (List.replicate x.length (D.bl true)) := by
      rw [show List.replicate x.length (PV.fr (D.bl true)) = (List.replicate x.length (D.bl true)).map PV.fr by simp, unfr_map]
    simp [zAsg, zDrop, zRet, zIf, zNop, zSet, xs_ok, xb_ok, xVar, xC, xCons, xNil, xOp, xUn, xCB, xBM, lf_some', nox_ok, xTest, xNot, xAnd, xOr, xIf, xAndV, gI, gSub, gMod, gFdv, gPow, cPow, gLt, gLe, gGt, gGe, gAdd, gMul, gInt, xgName, xLst, sz_le (show 1 ≤ 100000 by decide), ML.fresh, mkL, unfr, toD, gLen, vseq_lst, isLst, a1, a2, a3, a4]
  unfold zRet
  rw [xOp]
  simp only [List.map_cons, List.map_nil, List.length_cons, List.length_nil, List.replicate, List.cons_append, List.nil_append, e, xb_ok, e2]
  rw [show ((List.range x.length).map fun i => D.bl (decide (at_ y i = at_ y (at_ x i).toNat))) = (fin x y).map D.bl by unfold fin; rw [List.map_map]; rfl]
  have hl : (fin x y).length = x.length := by unfold fin; simp
  simp only [gEqD, pvD, okD_LB, Bool.and_self, if_true, eqPy_bls, lf_some', xs_ok]
  rw [← all_rep, hl]
  rfl
end K


namespace K
open PySem ML
/-- data that _law_same compares to the end -/
def pl : Nat → D → Bool
  | _, .int _ => true
  | _, .bl _ => true
  | _, .str x => PyData.strOk x
  | n + 1, .lst ds => decide (ds.length ≤ 1000) && ds.all (pl n)
  | _, _ => false
section
variable (hp : List O)
theorem is11 (b : Bool) : gIsi' KITS hp [.fr (.bl b), .fr (.ty 1)] = some (.fr (.bl true), hp) := rfl
theorem is21 (b : Int) : gIsi' KITS hp [.fr (.int b), .fr (.ty 1)] = some (.fr (.bl false), hp) := rfl
theorem is22 (b : Int) : gIsi' KITS hp [.fr (.int b), .fr (.ty 2)] = some (.fr (.bl true), hp) := rfl
theorem is32 (b : Str) : gIsi' KITS hp [.fr (.str b), .fr (.ty 2)] = some (.fr (.bl false), hp) := rfl
theorem is33 (b : Str) : gIsi' KITS hp [.fr (.str b), .fr (.ty 3)] = some (.fr (.bl true), hp) := rfl
theorem is42 (b : List D) : gIsi' KITS hp [.fr (.lst b), .fr (.ty 2)] = some (.fr (.bl false), hp) := rfl
theorem is43 (b : List D) : gIsi' KITS hp [.fr (.lst b), .fr (.ty 3)] = some (.fr (.bl false), hp) := rfl
theorem is44 (b : List D) : gIsi' KITS hp [.fr (.lst b), .fr (.ty 4)] = some (.fr (.bl true), hp) := rfl
theorem is45 (b : List D) : gIsi' KITS hp [.fr (.lst b), .fr (.ty 5)] = some (.fr (.bl false), hp) := rfl
end
theorem eqPy_str (x : Str) : eqPy (.str x) (.str x) = true := by unfold eqPy toPy PyData.eqv; simp
theorem okD_str (n : Nat) (x : Str) (h : PyData.strOk x = true) : okD n (.str x) = true := by cases n <;> simpa [okD] using h
theorem same_ok : ∀ (k : Nat) (d : D), pl k d = true → f__law_same (k + 1) [.fr d, .fr d] [] = some (.ret (.fr (.bl true)) []) := by
  intro k
  induction k with
  | zero =>
    intro d h
    refine fn_of_w ?_
    unfold b__law_same
    cases d with
    | int i =>
      refine w_step (en1 := [some (.fr (.int i)), some (.fr (.int i)), none]) (hp1 := []) (by simp [zAsg, zDrop, zRet, zIf, zNop, zSet, xs_ok, xb_ok, xVar, xC, xCons, xNil, xOp, xUn, xCB, xBM, lf_some', nox_ok, xTest, xNot, xAnd, xOr, xIf, xAndV, gI, gSub, gMod, gFdv, gPow, cPow, gLt, gLe, gGt, gGe, gAdd, gMul, gInt, xgName, gIsN, isNonP]) ?_
      refine w_step (en1 := [some (.fr (.int i)), some (.fr (.int i)), none]) (hp1 := []) (by simp [zAsg, zDrop, zRet, zIf, zNop, zSet, xs_ok, xb_ok, xVar, xC, xCons, xNil, xOp, xUn, xCB, xBM, lf_some', nox_ok, xTest, xNot, xAnd, xOr, xIf, xAndV, gI, gSub, gMod, gFdv, gPow, cPow, gLt, gLe, gGt, gGe, gAdd, gMul, gInt, xgName, gIsB, isBlP]) ?_
      refine w_step (en1 := [some (.fr (.int i)), some (.fr (.int i)), none]) (hp1 := []) (by simp [zAsg, zDrop, zRet, zIf, zNop, zSet, xs_ok, xb_ok, xVar, xC, xCons, xNil, xOp, xUn, xCB, xBM, lf_some', nox_ok, xTest, xNot, xAnd, xOr, xIf, xAndV, gI, gSub, gMod, gFdv, gPow, cPow, gLt, gLe, gGt, gGe, gAdd, gMul, gInt, xgName, gIsB, isBlP]) ?_
      exact w_stop (p := .fr (.bl true)) (hp1 := []) (by simp [zAsg, zDrop, zRet, zIf, zNop, zSet, xs_ok, xb_ok, xVar, xC, xCons, xNil, xOp, xUn, xCB, xBM, lf_some', nox_ok, xTest, xNot, xAnd, xOr, xIf, xAndV, gI, gSub, gMod, gFdv, gPow, cPow, gLt, gLe, gGt, gGe, gAdd, gMul, gInt, xgName, is22, is21, gNotV, gEqD, pvD, okD_int, eqPy_int]) (outR0' _)
    | bl i =>
      refine w_step (en1 := [some (.fr (.bl i)), some (.fr (.bl i)), none]) (hp1 := []) (by simp [zAsg, zDrop, zRet, zIf, zNop, zSet, xs_ok, xb_ok, xVar, xC, xCons, xNil, xOp, xUn, xCB, xBM, lf_some', nox_ok, xTest, xNot, xAnd, xOr, xIf, xAndV, gI, gSub, gMod, gFdv, gPow, cPow, gLt, gLe, gGt, gGe, gAdd, gMul, gInt, xgName, gIsN, isNonP]) ?_
      cases i with
      | true => exact w_stop (p := .fr (.bl true)) (hp1 := []) (by simp [zAsg, zDrop, zRet, zIf, zNop, zSet, xs_ok, xb_ok, xVar, xC, xCons, xNil, xOp, xUn, xCB, xBM, lf_some', nox_ok, xTest, xNot, xAnd, xOr, xIf, xAndV, gI, gSub, gMod, gFdv, gPow, cPow, gLt, gLe, gGt, gGe, gAdd, gMul, gInt, xgName, gIsB, isBlP]) (outR0' _)
      | false =>
        refine w_step (en1 := [some (.fr (.bl false)), some (.fr (.bl false)), none]) (hp1 := []) (by simp [zAsg, zDrop, zRet, zIf, zNop, zSet, xs_ok, xb_ok, xVar, xC, xCons, xNil, xOp, xUn, xCB, xBM, lf_some', nox_ok, xTest, xNot, xAnd, xOr, xIf, xAndV, gI, gSub, gMod, gFdv, gPow, cPow, gLt, gLe, gGt, gGe, gAdd, gMul, gInt, xgName, gIsB, isBlP]) ?_
        exact w_stop (p := .fr (.bl true)) (hp1 := []) (by simp [zAsg, zDrop, zRet, zIf, zNop, zSet, xs_ok, xb_ok, xVar, xC, xCons, xNil, xOp, xUn, xCB, xBM, lf_some', nox_ok, xTest, xNot, xAnd, xOr, xIf, xAndV, gI, gSub, gMod, gFdv, gPow, cPow, gLt, gLe, gGt, gGe, gAdd, gMul, gInt, xgName, gIsB, isBlP]) (outR0' _)
    | str i =>
      have hs : PyData.strOk i = true := by simpa [pl] using h
      refine w_step (en1 := [some (.fr (.str i)), some (.fr (.str i)), none]) (hp1 := []) (by simp [zAsg, zDrop, zRet, zIf, zNop, zSet, xs_ok, xb_ok, xVar, xC, xCons, xNil, xOp, xUn, xCB, xBM, lf_some', nox_ok, xTest, xNot, xAnd, xOr, xIf, xAndV, gI, gSub, gMod, gFdv, gPow, cPow, gLt, gLe, gGt, gGe, gAdd, gMul, gInt, xgName, gIsN, isNonP]) ?_
      refine w_step (en1 := [some (.fr (.str i)), some (.fr (.str i)), none]) (hp1 := []) (by simp [zAsg, zDrop, zRet, zIf, zNop, zSet, xs_ok, xb_ok, xVar, xC, xCons, xNil, xOp, xUn, xCB, xBM, lf_some', nox_ok, xTest, xNot, xAnd, xOr, xIf, xAndV, gI, gSub, gMod, gFdv, gPow, cPow, gLt, gLe, gGt, gGe, gAdd, gMul, gInt, xgName, gIsB, isBlP]) ?_
      refine w_step (en1 := [some (.fr (.str i)), some (.fr (.str i)), none]) (hp1 := []) (by simp [zAsg, zDrop, zRet, zIf, zNop, zSet, xs_ok, xb_ok, xVar, xC, xCons, xNil, xOp, xUn, xCB, xBM, lf_some', nox_ok, xTest, xNot, xAnd, xOr, xIf, xAndV, gI, gSub, gMod, gFdv, gPow, cPow, gLt, gLe, gGt, gGe, gAdd, gMul, gInt, xgName, gIsB, isBlP]) ?_
      refine w_step (en1 := [some (.fr (.str i)), some (.fr (.str i)), none]) (hp1 := []) (by simp [zAsg, zDrop, zRet, zIf, zNop, zSet, xs_ok, xb_ok, xVar, xC, xCons, xNil, xOp, xUn, xCB, xBM, lf_some', nox_ok, xTest, xNot, xAnd, xOr, xIf, xAndV, gI, gSub, gMod, gFdv, gPow, cPow, gLt, gLe, gGt, gGe, gAdd, gMul, gInt, xgName, is32]) ?_
      exact w_stop (p := .fr (.bl true)) (hp1 := []) (by simp [zAsg, zDrop, zRet, zIf, zNop, zSet, xs_ok, xb_ok, xVar, xC, xCons, xNil, xOp, xUn, xCB, xBM, lf_some', nox_ok, xTest, xNot, xAnd, xOr, xIf, xAndV, gI, gSub, gMod, gFdv, gPow, cPow, gLt, gLe, gGt, gGe, gAdd, gMul, gInt, xgName, is33, gEqD, pvD, okD_str _ _ hs, eqPy_str]) (outR0' _)
    | _ => simp [pl] at h
  | succ k ih =>
    intro d h
    refine fn_of_w ?_
    unfold b__law_same
    cases d with
    | int i =>
      refine w_step (en1 := [some (.fr (.int i)), some (.fr (.int i)), none]) (hp1 := []) (by simp [zAsg, zDrop, zRet, zIf, zNop, zSet, xs_ok, xb_ok, xVar, xC, xCons, xNil, xOp, xUn, xCB, xBM, lf_some', nox_ok, xTest, xNot, xAnd, xOr, xIf, xAndV, gI, gSub, gMod, gFdv, gPow, cPow, gLt, gLe, gGt, gGe, gAdd, gMul, gInt, xgName, gIsN, isNonP]) ?_
      refine w_step (en1 := [some (.fr (.int i)), some (.fr (.int i)), none]) (hp1 := []) (by simp [zAsg, zDrop, zRet, zIf, zNop, zSet, xs_ok, xb_ok, xVar, xC, xCons, xNil, xOp, xUn, xCB, xBM, lf_some', nox_ok, xTest, xNot, xAnd, xOr, xIf, xAndV, gI, gSub, gMod, gFdv, gPow, cPow, gLt, gLe, gGt, gGe, gAdd, gMul, gInt, xgName, gIsB, isBlP]) ?_
      refine w_step (en1 := [some (.fr (.int i)), some (.fr (.int i)), none]) (hp1 := []) (by simp [zAsg, zDrop, zRet, zIf, zNop, zSet, xs_ok, xb_ok, xVar, xC, xCons, xNil, xOp, xUn, xCB, xBM, lf_some', nox_ok, xTest, xNot, xAnd, xOr, xIf, xAndV, gI, gSub, gMod, gFdv, gPow, cPow, gLt, gLe, gGt, gGe, gAdd, gMul, gInt, xgName, gIsB, isBlP]) ?_
      exact w_stop (p := .fr (.bl true)) (hp1 := []) (by simp [zAsg, zDrop, zRet, zIf, zNop, zSet, xs_ok, xb_ok, xVar, xC, xCons, xNil, xOp, xUn, xCB, xBM, lf_some', nox_ok, xTest, xNot, xAnd, xOr, xIf, xAndV, gI, gSub, gMod, gFdv, gPow, cPow, gLt, gLe, gGt, gGe, gAdd, gMul, gInt, xgName, is22, is21, gNotV, gEqD, pvD, okD_int, eqPy_int]) (outR0' _)
    | bl i =>
      refine w_step (en1 := [some (.fr (.bl i)), some (.fr (.bl i)), none]) (hp1 := []) (by simp [zAsg, zDrop, zRet, zIf, zNop, zSet, xs_ok, xb_ok, xVar, xC, xCons, xNil, xOp, xUn, xCB, xBM, lf_some', nox_ok, xTest, xNot, xAnd, xOr, xIf, xAndV, gI, gSub, gMod, gFdv, gPow, cPow, gLt, gLe, gGt, gGe, gAdd, gMul, gInt, xgName, gIsN, isNonP]) ?_
      cases i with
      | true => exact w_stop (p := .fr (.bl true)) (hp1 := []) (by simp [zAsg, zDrop, zRet, zIf, zNop, zSet, xs_ok, xb_ok, xVar, xC, xCons, xNil, xOp, xUn, xCB, xBM, lf_some', nox_ok, xTest, xNot, xAnd, xOr, xIf, xAndV, gI, gSub, gMod, gFdv, gPow, cPow, gLt, gLe, gGt, gGe, gAdd, gMul, gInt, xgName, gIsB, isBlP]) (outR0' _)
      | false =>
        refine w_step (en1 := [some (.fr (.bl false)), some (.fr (.bl false)), none]) (hp1 := []) (by simp [zAsg, zDrop, zRet, zIf, zNop, zSet, xs_ok, xb_ok, xVar, xC, xCons, xNil, xOp, xUn, xCB, xBM, lf_some', nox_ok, xTest, xNot, xAnd, xOr, xIf, xAndV, gI, gSub, gMod, gFdv, gPow, cPow, gLt, gLe, gGt, gGe, gAdd, gMul, gInt, xgName, gIsB, isBlP]) ?_
        exact w_stop (p := .fr (.bl true)) (hp1 := []) (by simp [zAsg, zDrop, zRet, zIf, zNop, zSet, xs_ok, xb_ok, xVar, xC, xCons, xNil, xOp, xUn, xCB, xBM, lf_some', nox_ok, xTest, xNot, xAnd, xOr, xIf, xAndV, gI, gSub, gMod, gFdv, gPow, cPow, gLt, gLe, gGt, gGe, gAdd, gMul, gInt, xgName, gIsB, isBlP]) (outR0' _)
    | str i =>
      have hs : PyData.strOk i = true := by simpa [pl] using h
      refine w_step (en1 := [some (.fr (.str i)), some (.fr (.str i)), none]) (hp1 := []) (by simp [zAsg, zDrop, zRet, zIf, zNop, zSet, xs_ok, xb_ok, xVar, xC, xCons, xNil, xOp, xUn, xCB, xBM, lf_some', nox_ok, xTest, xNot, xAnd, xOr, xIf, xAndV, gI, gSub, gMod, gFdv, gPow, cPow, gLt, gLe, gGt, gGe, gAdd, gMul, gInt, xgName, gIsN, isNonP]) ?_
      refine w_step (en1 := [some (.fr (.str i)), some (.fr (.str i)), none]) (hp1 := []) (by simp [zAsg, zDrop, zRet, zIf, zNop, zSet, xs_ok, xb_ok, xVar, xC, xCons, xNil, xOp, xUn, xCB, xBM, lf_some', nox_ok, xTest, xNot, xAnd, xOr, xIf, xAndV, gI, gSub, gMod, gFdv, gPow, cPow, gLt, gLe, gGt, gGe, gAdd, gMul, gInt, xgName, gIsB, isBlP]) ?_
      refine w_step (en1 := [some (.fr (.str i)), some (.fr (.str i)), none]) (hp1 := []) (by simp [zAsg, zDrop, zRet, zIf, zNop, zSet, xs_ok, xb_ok, xVar, xC, xCons, xNil, xOp, xUn, xCB, xBM, lf_some', nox_ok, xTest, xNot, xAnd, xOr, xIf, xAndV, gI, gSub, gMod, gFdv, gPow, cPow, gLt, gLe, gGt, gGe, gAdd, gMul, gInt, xgName, gIsB, isBlP]) ?_
      refine w_step (en1 := [some (.fr (.str i)), some (.fr (.str i)), none]) (hp1 := []) (by simp [zAsg, zDrop, zRet, zIf, zNop, zSet, xs_ok, xb_ok, xVar, xC, xCons, xNil, xOp, xUn, xCB, xBM, lf_some', nox_ok, xTest, xNot, xAnd, xOr, xIf, xAndV, gI, gSub, gMod, gFdv, gPow, cPow, gLt, gLe, gGt, gGe, gAdd, gMul, gInt, xgName, is32]) ?_
      exact w_stop (p := .fr (.bl true)) (hp1 := []) (by simp [zAsg, zDrop, zRet, zIf, zNop, zSet, xs_ok, xb_ok, xVar, xC, xCons, xNil, xOp, xUn, xCB, xBM, lf_some', nox_ok, xTest, xNot, xAnd, xOr, xIf, xAndV, gI, gSub, gMod, gFdv, gPow, cPow, gLt, gLe, gGt, gGe, gAdd, gMul, gInt, xgName, is33, gEqD, pvD, okD_str _ _ hs, eqPy_str]) (outR0' _)
    | lst ds =>
      have hds : ds.length ≤ 1000 ∧ ∀ d ∈ ds, pl k d = true := by simpa [pl] using h
      obtain ⟨h1, h2⟩ := hds
      have loop : ∀ (is : List Nat) (o : Option PV), (∀ i ∈ is, i < ds.length) → ∃ o', loopI (fun _ => true) (xgName 2) (zIf (xNot (xTest (xCall0 (f__law_same (k + 1)) (xCons (xOp gIx (xVar 0) (xVar 2)) (xCons (xOp gIx (xVar 1) (xVar 2)) xNil))))) (zRet (xC (.bl false))) zNop) (is.map fun i => PV.fr (.int (i : Nat))) [some (.fr (.lst ds)), some (.fr (.lst ds)), o] [] = some (.next [some (.fr (.lst ds)), some (.fr (.lst ds)), o'] []) := by
        intro is
        induction is with
        | nil => intro o _; exact ⟨o, loopI_nil rfl⟩
        | cons i is ih2 =>
          intro o hi
          have hl := hi i List.mem_cons_self
          obtain ⟨o', e⟩ := ih2 (some (.fr (.int (i : Nat)))) fun j hj => hi j (List.mem_cons_of_mem _ hj)
          refine ⟨o', ?_⟩
          have g := gIx_lst [] ds i ds[i] (List.getElem?_eq_getElem hl)
          have c := call2 (hp := []) (ih ds[i] (h2 _ (List.getElem_mem hl)))
          rw [List.map_cons, loopI_next rfl (en1 := [some (.fr (.lst ds)), some (.fr (.lst ds)), some (.fr (.int (i : Nat)))]) (en2 := [some (.fr (.lst ds)), some (.fr (.lst ds)), some (.fr (.int (i : Nat)))]) (hp2 := []) rfl (by simp [zAsg, zDrop, zRet, zIf, zNop, zSet, xs_ok, xb_ok, xVar, xC, xCons, xNil, xOp, xUn, xCB, xBM, lf_some', nox_ok, xTest, xNot, xAnd, xOr, xIf, xAndV, gI, gSub, gMod, gFdv, gPow, cPow, gLt, gLe, gGt, gGe, gAdd, gMul, gInt, xgName, xCall0, g, c])]
          exact e
      obtain ⟨o', e⟩ := loop (List.range ds.length) none fun i hi => List.mem_range.mp hi
      refine w_step (en1 := [some (.fr (.lst ds)), some (.fr (.lst ds)), none]) (hp1 := []) (by simp [zAsg, zDrop, zRet, zIf, zNop, zSet, xs_ok, xb_ok, xVar, xC, xCons, xNil, xOp, xUn, xCB, xBM, lf_some', nox_ok, xTest, xNot, xAnd, xOr, xIf, xAndV, gI, gSub, gMod, gFdv, gPow, cPow, gLt, gLe, gGt, gGe, gAdd, gMul, gInt, xgName, gIsN, isNonP]) ?_
      refine w_step (en1 := [some (.fr (.lst ds)), some (.fr (.lst ds)), none]) (hp1 := []) (by simp [zAsg, zDrop, zRet, zIf, zNop, zSet, xs_ok, xb_ok, xVar, xC, xCons, xNil, xOp, xUn, xCB, xBM, lf_some', nox_ok, xTest, xNot, xAnd, xOr, xIf, xAndV, gI, gSub, gMod, gFdv, gPow, cPow, gLt, gLe, gGt, gGe, gAdd, gMul, gInt, xgName, gIsB, isBlP]) ?_
      refine w_step (en1 := [some (.fr (.lst ds)), some (.fr (.lst ds)), none]) (hp1 := []) (by simp [zAsg, zDrop, zRet, zIf, zNop, zSet, xs_ok, xb_ok, xVar, xC, xCons, xNil, xOp, xUn, xCB, xBM, lf_some', nox_ok, xTest, xNot, xAnd, xOr, xIf, xAndV, gI, gSub, gMod, gFdv, gPow, cPow, gLt, gLe, gGt, gGe, gAdd, gMul, gInt, xgName, gIsB, isBlP]) ?_
      refine w_step (en1 := [some (.fr (.lst ds)), some (.fr (.lst ds)), none]) (hp1 := []) (by simp [zAsg, zDrop, zRet, zIf, zNop, zSet, xs_ok, xb_ok, xVar, xC, xCons, xNil, xOp, xUn, xCB, xBM, lf_some', nox_ok, xTest, xNot, xAnd, xOr, xIf, xAndV, gI, gSub, gMod, gFdv, gPow, cPow, gLt, gLe, gGt, gGe, gAdd, gMul, gInt, xgName, is42]) ?_
      refine w_step (en1 := [some (.fr (.lst ds)), some (.fr (.lst ds)), none]) (hp1 := []) (by simp [zAsg, zDrop, zRet, zIf, zNop, zSet, xs_ok, xb_ok, xVar, xC, xCons, xNil, xOp, xUn, xCB, xBM, lf_some', nox_ok, xTest, xNot, xAnd, xOr, xIf, xAndV, gI, gSub, gMod, gFdv, gPow, cPow, gLt, gLe, gGt, gGe, gAdd, gMul, gInt, xgName, is43]) ?_
      refine w_step (en1 := [some (.fr (.lst ds)), some (.fr (.lst ds)), none]) (hp1 := []) (by simp [zAsg, zDrop, zRet, zIf, zNop, zSet, xs_ok, xb_ok, xVar, xC, xCons, xNil, xOp, xUn, xCB, xBM, lf_some', nox_ok, xTest, xNot, xAnd, xOr, xIf, xAndV, gI, gSub, gMod, gFdv, gPow, cPow, gLt, gLe, gGt, gGe, gAdd, gMul, gInt, xgName, is44]) ?_
      refine w_step (en1 := [some (.fr (.lst ds)), some (.fr (.lst ds)), none]) (hp1 := []) (by simp [zAsg, zDrop, zRet, zIf, zNop, zSet, xs_ok, xb_ok, xVar, xC, xCons, xNil, xOp, xUn, xCB, xBM, lf_some', nox_ok, xTest, xNot, xAnd, xOr, xIf, xAndV, gI, gSub, gMod, gFdv, gPow, cPow, gLt, gLe, gGt, gGe, gAdd, gMul, gInt, xgName, is45]) ?_
      refine w_step (en1 := [some (.fr (.lst ds)), some (.fr (.lst ds)), none]) (hp1 := []) (by simp [zAsg, zDrop, zRet, zIf, zNop, zSet, xs_ok, xb_ok, xVar, xC, xCons, xNil, xOp, xUn, xCB, xBM, lf_some', nox_ok, xTest, xNot, xAnd, xOr, xIf, xAndV, gI, gSub, gMod, gFdv, gPow, cPow, gLt, gLe, gGt, gGe, gAdd, gMul, gInt, xgName, gLen, vseq_lst, gEqD, pvD, okD_int, eqPy_int]) ?_
      refine w_step (en1 := [some (.fr (.lst ds)), some (.fr (.lst ds)), o']) (hp1 := []) ?_ (w_of (x := .ret (.fr (.bl true)) []) (by simp [zAsg, zDrop, zRet, zIf, zNop, zSet, xs_ok, xb_ok, xVar, xC, xCons, xNil, xOp, xUn, xCB, xBM, lf_some', nox_ok, xTest, xNot, xAnd, xOr, xIf, xAndV, gI, gSub, gMod, gFdv, gPow, cPow, gLt, gLe, gGt, gGe, gAdd, gMul, gInt, xgName]) (outR0' _))
      unfold zFor
      have e1 : xiR1 (xCons (xCB gLen (xCons (xVar 1) xNil)) xNil) [some (.fr (.lst ds)), some (.fr (.lst ds)), none] [] = some (.ok ((List.range ds.length).map (fun i => PV.fr (.int (i : Nat))), fun _ => true) []) := by
        simp [xiR1, zAsg, zDrop, zRet, zIf, zNop, zSet, xs_ok, xb_ok, xVar, xC, xCons, xNil, xOp, xUn, xCB, xBM, lf_some', nox_ok, xTest, xNot, xAnd, xOr, xIf, xAndV, gI, gSub, gMod, gFdv, gPow, cPow, gLt, gLe, gGt, gGe, gAdd, gMul, gInt, xgName, gLen, vseq_lst, smI_small h1, rangeP_map]
      rw [e1, xs_ok]
      exact e
    | _ => simp [pl] at h
theorem pl_LI (n : Nat) (l : List Int) (h : l.length ≤ 1000) : pl (n + 1) (LI l) = true := by
  unfold pl
  rw [List.length_map, decide_eq_true h, Bool.true_and, List.all_eq_true]
  intro d hd
  obtain ⟨i, _, e⟩ := List.mem_map.mp hd
  subst e
  cases n <;> rfl
theorem pl_LB (n : Nat) (l : List Bool) (h : l.length ≤ 1000) : pl (n + 1) (.lst (l.map .bl)) = true := by
  unfold pl
  rw [List.length_map, decide_eq_true h, Bool.true_and, List.all_eq_true]
  intro d hd
  obtain ⟨i, _, e⟩ := List.mem_map.mp hd
  subst e
  cases n <;> rfl
theorem sameC (d : D) (h : pl 3 d = true) (hp : List O) : callF (f__law_same 4) [.fr d, .fr d] hp = some (.ok (.fr (.bl true)) hp) := call2 (same_ok 3 d h)
/-! ### shown -/
theorem shown_ok (R : List (List Int)) (hR : R.length ≤ 1000) (hr : ∀ r ∈ R, r.length ≤ 1000) : f__law_shown [.fr (.lst (R.map SP)), .fr (.lst (R.map fun r => LI r))] [] = some (.ret (.fr (.bl true)) []) := by
  have loop : ∀ (is : List Nat) (o : Option PV), (∀ i ∈ is, i < R.length) → ∃ o', loopI (fun _ => true) (xgName 2) (zSeq (zIf (xOr (xNot (xTest (xCB (gIsi' KITS) (xCons (xOp gIx (xVar 0) (xVar 2)) (xCons (xC (.cls 33)) xNil))))) (xNot (xTest (xCall0 (f__law_same 4) (xCons (xMeth0 33 20 f_Split_marks (xOp gIx (xVar 0) (xVar 2)) xNil) (xCons (xOp gIx (xVar 1) (xVar 2)) xNil)))))) (zRet (xC (.bl false))) zNop)
    (zIf (xNot (xTest (xCall0 (f__law_same 4) (xCons (xFld FLDS 1 (xOp gIx (xVar 0) (xVar 2))) (xCons (xCB gLen (xCons (xOp gIx (xVar 1) (xVar 2)) xNil)) xNil))))) (zRet (xC (.bl false))) zNop)) (is.map fun i => PV.fr (.int (i : Nat))) [some (.fr (.lst (R.map SP))), some (.fr (.lst (R.map fun r => LI r))), o] [] = some (.next [some (.fr (.lst (R.map SP))), some (.fr (.lst (R.map fun r => LI r))), o'] []) := by
    intro is
    induction is with
    | nil => intro o _; exact ⟨o, loopI_nil rfl⟩
    | cons i is ih2 =>
      intro o hi
      have hl := hi i List.mem_cons_self
      obtain ⟨o', e⟩ := ih2 (some (.fr (.int (i : Nat)))) fun j hj => hi j (List.mem_cons_of_mem _ hj)
      refine ⟨o', ?_⟩
      have g1 := gIx_lst [] (R.map SP) i (SP R[i]) (by rw [List.getElem?_map, List.getElem?_eq_getElem hl]; rfl)
      have g2 := gIx_lst [] (R.map fun r => LI r) i (LI R[i]) (by rw [List.getElem?_map, List.getElem?_eq_getElem hl]; rfl)
      have hb := hr R[i] (List.getElem_mem hl)
      have c1 := call1 (hp := []) (marks_m R[i])
      have c2 := sameC (LI R[i]) (pl_LI 2 _ hb) []
      have c3 := sameC (.int R[i].length) rfl []
      rw [List.map_cons, loopI_next rfl (en1 := [some (.fr (.lst (R.map SP))), some (.fr (.lst (R.map fun r => LI r))), some (.fr (.int (i : Nat)))]) (en2 := [some (.fr (.lst (R.map SP))), some (.fr (.lst (R.map fun r => LI r))), some (.fr (.int (i : Nat)))]) (hp2 := []) rfl ?_]
      · exact e
      · refine eq_of_w (w_step (en1 := [some (.fr (.lst (R.map SP))), some (.fr (.lst (R.map fun r => LI r))), some (.fr (.int (i : Nat)))]) (hp1 := []) ?_ (w_of (x := .next [some (.fr (.lst (R.map SP))), some (.fr (.lst (R.map fun r => LI r))), some (.fr (.int (i : Nat)))] []) ?_ rfl))
        · simp [zAsg, zDrop, zRet, zIf, zNop, zSet, xs_ok, xb_ok, xVar, xC, xCons, xNil, xOp, xUn, xCB, xBM, lf_some', nox_ok, xTest, xNot, xAnd, xOr, xIf, xAndV, gI, gSub, gMod, gFdv, gPow, cPow, gLt, gLe, gGt, gGe, gAdd, gMul, gInt, xgName, g1, g2, isi_ok, xMeth0, recv, insOf, xCall0, c1, c2]
        · simp [zAsg, zDrop, zRet, zIf, zNop, zSet, xs_ok, xb_ok, xVar, xC, xCons, xNil, xOp, xUn, xCB, xBM, lf_some', nox_ok, xTest, xNot, xAnd, xOr, xIf, xAndV, gI, gSub, gMod, gFdv, gPow, cPow, gLt, gLe, gGt, gGe, gAdd, gMul, gInt, xgName, g1, g2, xFld, insOf, FLDS, fldP, xCall0, gLen, vseq_lst, c3]
  obtain ⟨o', e⟩ := loop (List.range R.length) none fun i hi => List.mem_range.mp hi
  refine fn_of_w ?_
  unfold b__law_shown
  refine w_step (en1 := [some (.fr (.lst (R.map SP))), some (.fr (.lst (R.map fun r => LI r))), o']) (hp1 := []) ?_ (w_of (x := .ret (.fr (.bl true)) []) (by simp [zAsg, zDrop, zRet, zIf, zNop, zSet, xs_ok, xb_ok, xVar, xC, xCons, xNil, xOp, xUn, xCB, xBM, lf_some', nox_ok, xTest, xNot, xAnd, xOr, xIf, xAndV, gI, gSub, gMod, gFdv, gPow, cPow, gLt, gLe, gGt, gGe, gAdd, gMul, gInt, xgName]) (outR0' _))
  unfold zFor
  have e1 : xiR1 (xCons (xCB gLen (xCons (xVar 1) xNil)) xNil) [some (.fr (.lst (R.map SP))), some (.fr (.lst (R.map fun r => LI r))), none] [] = some (.ok ((List.range R.length).map (fun i => PV.fr (.int (i : Nat))), fun _ => true) []) := by
    simp [xiR1, zAsg, zDrop, zRet, zIf, zNop, zSet, xs_ok, xb_ok, xVar, xC, xCons, xNil, xOp, xUn, xCB, xBM, lf_some', nox_ok, xTest, xNot, xAnd, xOr, xIf, xAndV, gI, gSub, gMod, gFdv, gPow, cPow, gLt, gLe, gGt, gGe, gAdd, gMul, gInt, xgName, gLen, vseq_lst, smI_small hR, rangeP_map]
  have e2 : (List.map some [PV.fr (.lst (R.map SP)), PV.fr (.lst (R.map fun r => LI r))] ++ List.replicate (3 - [PV.fr (.lst (R.map SP)), PV.fr (.lst (R.map fun r => LI r))].length) none) = [some (.fr (.lst (R.map SP))), some (.fr (.lst (R.map fun r => LI r))), none] := rfl
  rw [e2, e1, xs_ok]
  exact e
/-! ### told -/
def sm (p q : Int) : D := .lst [.str "SizeMismatch", .int p, .int q, .lst [.bl true, .bl true, .bl false]]
theorem tell_sm (p q : Int) : tell__law_told (.exc 3 [4, 3] [.int q, .int p]) = some (sm p q) := rfl
theorem pl_sm (p q : Int) : pl 2 (sm p q) = true := by
  have : PyData.strOk "SizeMismatch" = true := by decide +kernel
  simp [pl, sm, this]
theorem told_finer {x y : List Int} {en : En} {hp : List O} {i j : Nat} (h : x.length ≠ y.length) (hx : x.length ≤ 1000) (hy : y.length ≤ 1000) (ei : en[i]? = some (some (.fr (SP x)))) (ej : en[j]? = some (some (.fr (SP y)))) : (xTold tell__law_told (xMeth 33 24 f_Split_finer (xVar i) (xCons (xVar j) xNil))) en hp = some (.ok (.fr (sm x.length y.length)) hp) := by
  have e := call_exc (ds := [SP x, SP y]) (hp := hp) (finer_ne h hx hy)
  have e : callF f_Split_finer [.fr (SP x), .fr (SP y)] hp = _ := e
  simp only [xTold, xMeth, xVar, ei, ej, xb_ok, recv, insOf, xCons, xNil, decide_true, Bool.true_and, show decide (24 ∉ [1, 33]) = true from rfl, if_true, e, tell_sm]
theorem told_and {x y : List Int} {en : En} {hp : List O} {i j : Nat} (h : x.length ≠ y.length) (hx : x.length ≤ 1000) (hy : y.length ≤ 1000) (ei : en[i]? = some (some (.fr (SP x)))) (ej : en[j]? = some (some (.fr (SP y)))) : (xTold tell__law_told (xOpR (gOBin 33 f_Split___and__) (xVar i) (xVar j))) en hp = some (.ok (.fr (sm x.length y.length)) hp) := by
  have e := call_exc (ds := [SP x, SP y]) (hp := hp) (and_ne h hx hy)
  have e : callF f_Split___and__ [.fr (SP x), .fr (SP y)] hp = _ := e
  simp only [xTold, xOpR, gOBin, isC, insOf, xVar, ei, ej, xb_ok, decide_true, Bool.and_self, if_true, e, tell_sm]
theorem told_or {x y : List Int} {en : En} {hp : List O} {i j : Nat} (h : x.length ≠ y.length) (hx : x.length ≤ 1000) (hy : y.length ≤ 1000) (ei : en[i]? = some (some (.fr (SP x)))) (ej : en[j]? = some (some (.fr (SP y)))) : (xTold tell__law_told (xOpR (gOBin 33 f_Split___or__) (xVar i) (xVar j))) en hp = some (.ok (.fr (sm x.length y.length)) hp) := by
  have e := call_exc (ds := [SP x, SP y]) (hp := hp) (or_ne h hx hy)
  have e : callF f_Split___or__ [.fr (SP x), .fr (SP y)] hp = _ := e
  simp only [xTold, xOpR, gOBin, isC, insOf, xVar, ei, ej, xb_ok, decide_true, Bool.and_self, if_true, e, tell_sm]
theorem refused_ok {x y : List Int} (h : x.length ≠ y.length) (hx : x.length ≤ 1000) (hy : y.length ≤ 1000) : f__law_refused [.fr (SP x), .fr (SP y), .fr (.int x.length), .fr (.int y.length)] [] = some (.ret (.fr (.bl true)) []) := by
  let A : List D → En := fun _ => [some (.fr (SP x)), some (.fr (SP y)), some (.fr (.int x.length)), some (.fr (.int y.length)), some (.rf 0), none, none]
  have app : ∀ (ds : List D) (d : D) (ex : XE), ds.length ≤ 100 → ex (A ds) [.lst ds] = some (.ok (.fr d) [.lst ds]) → (zDrop (xBM gAppend (xVar 4) (xCons ex xNil))) (A ds) [.lst ds] = some (.next (A ds) [.lst (ds ++ [d])]) := fun ds d ex hl e => by
    have e2 : mkL (ds.map PV.fr ++ [.fr d]) = .lst (ds ++ [d]) := by
      rw [show ds.map PV.fr ++ [PV.fr d] = (ds ++ [d]).map PV.fr by simp, mkL_map]
    simp only [zDrop, xBM, xVar, A, List.getElem?_cons_succ, List.getElem?_cons_zero, xb_ok, isL, vseq, if_true, xCons] at e ⊢
    rw [e]
    simp [xb_ok, xNil, gAppend, ownL, e2, sz_le (show ds.length + 1 ≤ 100000 by omega), lf_some', xs_ok]
  refine fn_of_w ?_
  unfold b__law_refused
  refine w_step (en1 := A []) (hp1 := [.lst []]) (by simp [zAsg, zDrop, zRet, zIf, zNop, zSet, xs_ok, xb_ok, xVar, xC, xCons, xNil, xOp, xUn, xCB, xBM, lf_some', nox_ok, xTest, xNot, xAnd, xOr, xIf, xAndV, gI, gSub, gMod, gFdv, gPow, cPow, gLt, gLe, gGt, gGe, gAdd, gMul, gInt, xgName, xLst, sz, ML.fresh, mkL, unfr, A]) ?_
  refine w_step (app [] (sm x.length y.length) _ (by simp) (told_finer h hx hy rfl rfl)) ?_
  refine w_step (app [sm x.length y.length] (sm y.length x.length) _ (by simp) (told_finer h.symm hy hx rfl rfl)) ?_
  refine w_step (app [sm x.length y.length, sm y.length x.length] (sm x.length y.length) _ (by simp) (told_and h hx hy rfl rfl)) ?_
  refine w_step (app [sm x.length y.length, sm y.length x.length, sm x.length y.length] (sm y.length x.length) _ (by simp) (told_and h.symm hy hx rfl rfl)) ?_
  refine w_step (app [sm x.length y.length, sm y.length x.length, sm x.length y.length, sm y.length x.length] (sm x.length y.length) _ (by simp) (told_or h hx hy rfl rfl)) ?_
  refine w_step (app [sm x.length y.length, sm y.length x.length, sm x.length y.length, sm y.length x.length, sm x.length y.length] (sm y.length x.length) _ (by simp) (told_or h.symm hy hx rfl rfl)) ?_
  refine w_step (en1 := [some (.fr (SP x)), some (.fr (SP y)), some (.fr (.int x.length)), some (.fr (.int y.length)), some (.rf 0), some (.fr (.lst [.bl true, .bl true, .bl false])), none]) (hp1 := [.lst [sm x.length y.length, sm y.length x.length, sm x.length y.length, sm y.length x.length, sm x.length y.length, sm y.length x.length]]) (by simp [zAsg, zDrop, zRet, zIf, zNop, zSet, xs_ok, xb_ok, xVar, xC, xCons, xNil, xOp, xUn, xCB, xBM, lf_some', nox_ok, xTest, xNot, xAnd, xOr, xIf, xAndV, gI, gSub, gMod, gFdv, gPow, cPow, gLt, gLe, gGt, gGe, gAdd, gMul, gInt, xgName, xLst, sz, ML.fresh, mkL, unfr, toD, A]) ?_
  refine w_step (en1 := [some (.fr (SP x)), some (.fr (SP y)), some (.fr (.int x.length)), some (.fr (.int y.length)), some (.rf 0), some (.fr (.lst [.bl true, .bl true, .bl false])), some (.fr (.lst [sm x.length y.length, sm y.length x.length]))]) (hp1 := [.lst [sm x.length y.length, sm y.length x.length, sm x.length y.length, sm y.length x.length, sm x.length y.length, sm y.length x.length]]) (by simp [zAsg, zDrop, zRet, zIf, zNop, zSet, xs_ok, xb_ok, xVar, xC, xCons, xNil, xOp, xUn, xCB, xBM, lf_some', nox_ok, xTest, xNot, xAnd, xOr, xIf, xAndV, gI, gSub, gMod, gFdv, gPow, cPow, gLt, gLe, gGt, gGe, gAdd, gMul, gInt, xgName, xLst, sz, ML.fresh, mkL, unfr, toD, sm]) ?_
  have c := sameC (.lst [sm x.length y.length, sm y.length x.length, sm x.length y.length, sm y.length x.length, sm x.length y.length, sm y.length x.length]) (by simp [pl, pl_sm]) [.ice (.lst [sm x.length y.length, sm y.length x.length, sm x.length y.length, sm y.length x.length, sm x.length y.length, sm y.length x.length])]
  refine w_of (x := .ret (.fr (.bl true)) [.ice (.lst [sm x.length y.length, sm y.length x.length, sm x.length y.length, sm y.length x.length, sm x.length y.length, sm y.length x.length])]) ?_ (outR0 _ [.ice (.lst [sm x.length y.length, sm y.length x.length, sm x.length y.length, sm y.length x.length, sm x.length y.length, sm y.length x.length])])
  simp [zAsg, zDrop, zRet, zIf, zNop, zSet, xs_ok, xb_ok, xVar, xC, xCons, xNil, xOp, xUn, xCB, xBM, lf_some', nox_ok, xTest, xNot, xAnd, xOr, xIf, xAndV, gI, gSub, gMod, gFdv, gPow, cPow, gLt, gLe, gGt, gGe, gAdd, gMul, gInt, xgName, xCall0, xFz, gFz, toD, isLst, sz, ML.fresh, mkL, unfr, c]
end K


namespace K
open PySem ML
theorem startC (l : List Int) : ∃ b, callF f__law_start [.fr (.rol (l.map .int))] [] = some (.ok (.rf 0) (bagH b)) := by
  obtain ⟨b, e⟩ := start_ok l
  refine ⟨b, ?_⟩
  unfold callF
  simp [keepC, refP, once, renPs, renP, subH, e, bakP, bakI, bakH, putBack, bagH, bakO]
theorem andC {x y : List Int} (h : y.length = x.length) (h1 : 1 ≤ x.length) (h2 : x.length ≤ 12) (hp : List O) : gOBin0 33 f_Split___and__ hp (.fr (SP x)) (.fr (SP y)) = some (.ok (.fr (SP (meetL x y))) hp) := by
  have e := call2 (hp := hp) (and_ok h h1 h2)
  simp only [gOBin0, gOBin, isC, insOf, decide_true, Bool.and_self, if_true, e, nox_ok]
theorem orC {x y : List Int} (h : y.length = x.length) (h1 : 1 ≤ x.length) (h2 : x.length ≤ 12) (hy : low y = y) (hp : List O) : gOBin0 33 f_Split___or__ hp (.fr (SP x)) (.fr (SP y)) = some (.ok (.fr (SP (joinL x y))) hp) := by
  have e := call2 (hp := hp) (or_ok h h1 h2 hy)
  simp only [gOBin0, gOBin, isC, insOf, decide_true, Bool.and_self, if_true, e, nox_ok]
theorem eqC (x y : List Int) (hp : List O) : gOEq 33 NFL_Split f_Split___eq__ false hp (.fr (SP x)) (.fr (SP y)) = some (.ok (.fr (.bl (decide (x = y)))) hp) := by
  have e := call2 (hp := hp) (eq_ok x y)
  simp only [gOEq, isC, insOf, decide_true, if_true, tyP, tyD, e]
  simp [NFL_Split]
theorem rep0 (n : Nat) (hn : n ≤ 1000) {en : En} {hp : List O} (h : en[2]? = some (some (.fr (.int n)))) : (xOp (gMul true) (xLst true (xCons (xC (.int 0)) xNil)) (xVar 2)) en hp = some (.ok (.fr (LI (List.replicate n 0))) hp) := by
  have a1 : (-100000 : Int) ≤ (n : Int) := by omega
  have a2 : (n : Int) ≤ 100000 := by omega
  have a3 : sz n = true := sz_le (by omega)
  have a4 : unfr (List.replicate n (PV.fr (D.int 0))) = some (List.replicate n (D.int 0)) := by
    rw [show List.replicate n (PV.fr (D.int 0)) = (List.replicate n (D.int 0)).map PV.fr by simp, unfr_map]
  simp [zAsg, zDrop, zRet, zIf, zNop, zSet, xs_ok, xb_ok, xVar, xC, xCons, xNil, xOp, xUn, xCB, xBM, lf_some', nox_ok, xTest, xNot, xAnd, xOr, xIf, xAndV, gI, ML.gSub, gMod, gFdv, gPow, cPow, gLt, gLe, gGt, gGe, gAdd, gMul, gInt, xgName, h, xLst, sz_le (show 1 ≤ 100000 by decide), ML.fresh, mkL, unfr, toD, isLst, a1, a2, a3, a4]
/-! ### the lists of a law -/
theorem at_low {l : List Int} {i j : Nat} (hi : i < l.length) (hj : j < l.length) : at_ (low l) i = at_ (low l) j ↔ at_ l i = at_ l j := low_eq_iff l 0 hi hj
theorem zip_at {x y : List Int} (h : y.length = x.length) {i : Nat} (hi : i < x.length) : (x.zip y).getD i (0, 0) = (at_ x i, at_ y i) := by
  unfold at_
  rw [List.getD_eq_getElem?_getD, List.getElem?_eq_getElem (by rw [List.length_zip]; omega)]
  simp [List.getElem?_eq_getElem hi, List.getElem?_eq_getElem (show i < y.length by omega)]
theorem meet_congr {x y x' y' : List Int} (h : y.length = x.length) (h' : y'.length = x'.length) (hl : x.length = x'.length) (e : ∀ i j, i < x.length → j < x.length → ((at_ x i = at_ x j ∧ at_ y i = at_ y j) ↔ (at_ x' i = at_ x' j ∧ at_ y' i = at_ y' j))) : meetL x y = meetL x' y' := by
  unfold meetL
  refine low_congr _ _ (0, 0) (0, 0) (by rw [List.length_zip, List.length_zip]; omega) fun i j hi hj => ?_
  rw [List.length_zip] at hi hj
  rw [zip_at h (by omega), zip_at h (by omega), zip_at h' (by omega), zip_at h' (by omega), Prod.mk.injEq, Prod.mk.injEq]
  exact e i j (by omega) (by omega)
theorem meetL_len {x y : List Int} (h : y.length = x.length) : (meetL x y).length = x.length := by unfold meetL; rw [low_len, List.length_zip]; omega
theorem meet_low {x y : List Int} (h : y.length = x.length) : meetL (low x) (low y) = meetL x y :=
  meet_congr (by rw [low_len, low_len, h]) h (low_len x) fun i j hi hj => by rw [low_len] at hi hj; rw [at_low hi hj, at_low (by omega) (by omega)]
theorem meet_comm {x y : List Int} (h : y.length = x.length) : meetL y x = meetL x y :=
  meet_congr h.symm h h fun i j _ _ => And.comm
theorem meet_self (x : List Int) : meetL (low x) (low x) = low x := by
  unfold meetL
  refine (low_congr _ x (0, 0) 0 (by rw [List.length_zip, low_len]; omega) fun i j hi hj => ?_)
  rw [List.length_zip, low_len] at hi hj
  rw [zip_at rfl (by rw [low_len]; omega), zip_at rfl (by rw [low_len]; omega), Prod.mk.injEq, and_self]
  exact at_low (by omega) (by omega)
theorem join_congr {x y x' y' : List Int} (h : y.length = x.length) (h' : y'.length = x'.length) (hl : x.length = x'.length) (e : ∀ i j, i < x.length → j < x.length → (Lk x y i j ↔ Lk x' y' i j)) : joinL x y = joinL x' y' := by
  have j1 := law_join_is (a := x) (b := y) rfl h
  have j2 := law_join_is (a := x') (b := y') hl.symm (by omega)
  unfold joinL
  rw [← hl]
  exact j1.uniq j2 e
theorem lk_low {x y : List Int} (h : y.length = x.length) {i j : Nat} (hi : i < x.length) (hj : j < x.length) : Lk (low x) (low y) i j ↔ Lk x y i j := by
  unfold Lk
  rw [at_low hi hj, at_low (by omega) (by omega)]
theorem join_lows {x y : List Int} (h : y.length = x.length) : joinL (low x) (low y) = joinL x y :=
  join_congr (by rw [low_len, low_len, h]) h (low_len x) fun i j hi hj => by rw [low_len] at hi hj; exact lk_low h hi hj
theorem join_comm {x y : List Int} (h : y.length = x.length) : joinL y x = joinL x y :=
  join_congr h.symm h h fun i j _ _ => Or.comm
theorem join_canon {x y : List Int} (h : y.length = x.length) : low (joinL x y) = joinL x y := by
  rw [← join_low h, low_low _ 0]
theorem join_self (x : List Int) : joinL (low x) (low x) = low x := by
  have j1 := law_join_is (a := low x) (b := low x) rfl rfl
  have j2 := isJoin_low (a := low x) (b := low x) (n := (low x).length) (M := low x) rfl fun i j hi hj => ?_
  · rw [low_low x 0] at j2
    exact j1.uniq j2 fun i j _ _ => Iff.rfl
  · constructor
    · exact fun e => Rl.one hi hj (.inl e)
    · intro r
      induction r with
      | refl _ => rfl
      | step r1 hk hl ih => rw [ih r1.lt.2]; exact hl.elim id id
theorem low_rep0 (n : Nat) : low (List.replicate n (0 : Int)) = List.replicate n 0 := by
  rw [low_of (l := []) (n := n) (r := fun _ => 0) (f := fun _ => (0 : Int)) (k := List.replicate n 0) (by rw [List.map_const', List.length_range]) fun i hi => ⟨Nat.zero_le _, rfl, fun j _ _ => Nat.zero_le _⟩]
  rw [List.map_const', List.length_range]
  rfl
def rg (n : Nat) : List Int := (List.range n).map fun i => ((i : Nat) : Int)
theorem rg_len (n : Nat) : (rg n).length = n := by unfold rg; simp
theorem low_rg (n : Nat) : low (rg n) = rg n := low_of (l := []) (r := id) (f := fun i => ((i : Nat) : Int)) rfl fun i hi => ⟨Nat.le_refl _, rfl, fun j hj e => by have e : (j : Int) = (i : Int) := e; show i ≤ j; omega⟩
/-! ### finer, for all pairs -/
theorem own_of {x : List Int} (h : low x = x) : Own x := by rw [← h]; exact own_low x


theorem finers (n : Nat) (hn : n ≤ 1000) (R : List (List Int)) (hR : R.length = 9) (hr : ∀ r ∈ R, r.length = n ∧ low r = r) (hp : List O) (o0 o1 o2 o3 o4 o5 o6 o7 o8 o9 o10 o11 o12 o13 : Option PV) : ∀ (is : List Nat) (o16 o17 : Option PV), (∀ i ∈ is, i < 9) → ∃ q16 q17, loopI (fun _ => true) (xgName 16) (zSeq (zAsg 17 (xLc true (xiSeq (xVar 15)) (xgName 18) xYes (xMeth0 33 24 f_Split_finer (xOp gIx (xVar 15) (xVar 16)) (xCons (xVar 18) xNil)) [18]))
    (zIf (xNot (xTest (xCall0 (f__law_same 4) (xCons (xVar 17) (xCons (xLc true (xiSeq (xVar 14)) (xgName 19) xYes (xCall0 f__law_finer (xCons (xOp gIx (xVar 14) (xVar 16)) (xCons (xVar 19) xNil))) [19]) xNil))))) (zRet (xC (.bl false))) zNop)) (is.map fun i => PV.fr (.int (i : Nat))) [o0, o1, o2, o3, o4, o5, o6, o7, o8, o9, o10, o11, o12, o13, some (.fr (.lst (R.map fun r => LI r))), some (.fr (.lst (R.map SP))), o16, o17, none, none, none, none, none] hp = some (.next [o0, o1, o2, o3, o4, o5, o6, o7, o8, o9, o10, o11, o12, o13, some (.fr (.lst (R.map fun r => LI r))), some (.fr (.lst (R.map SP))), q16, q17, none, none, none, none, none] hp)
  | [], o16, o17, _ => ⟨o16, o17, loopI_nil rfl⟩
  | i :: is, o16, o17, hi => by
    have hl : i < R.length := by rw [hR]; exact hi i List.mem_cons_self
    let B := R.map fun r => (fin R[i] r).all id
    obtain ⟨q16, q17, e⟩ := finers n hn R hR hr hp o0 o1 o2 o3 o4 o5 o6 o7 o8 o9 o10 o11 o12 o13 is (some (.fr (.int (i : Nat)))) (some (.fr (.lst (B.map .bl)))) fun j hj => hi j (List.mem_cons_of_mem _ hj)
    refine ⟨q16, q17, ?_⟩
    obtain ⟨h1, h2⟩ := hr R[i] (List.getElem_mem hl)
    have g1 : gIx hp (.fr (.lst (R.map SP))) (.fr (.int (i : Nat))) = some (.fr (SP R[i]), hp) := gIx_lst hp (R.map SP) i (SP R[i]) (by rw [List.getElem?_map, List.getElem?_eq_getElem hl]; rfl)
    have g2 : gIx hp (.fr (.lst (R.map fun r => LI r))) (.fr (.int (i : Nat))) = some (.fr (LI R[i]), hp) := gIx_lst hp (R.map fun r => LI r) i (LI R[i]) (by rw [List.getElem?_map, List.getElem?_eq_getElem hl]; rfl)
    have hB : R.map (fun r => D.bl ((fin R[i] r).all id)) = B.map .bl := by show _ = (R.map _).map _; rw [List.map_map]; rfl
    have e1 := xLc_all (xi := xiSeq (xVar 15)) (g := xgName 18) (x := xMeth0 33 24 f_Split_finer (xOp gIx (xVar 15) (xVar 16)) (xCons (xVar 18) xNil)) (vs := [18]) (en := [o0, o1, o2, o3, o4, o5, o6, o7, o8, o9, o10, o11, o12, o13, some (.fr (.lst (R.map fun r => LI r))), some (.fr (.lst (R.map SP))), some (.fr (.int (i : Nat))), o17, none, none, none, none, none]) (hp := hp) (γ := List Int) (fun r => .fr (SP r)) (fun r => .bl ((fin R[i] r).all id)) R (ck := fun _ => true)
      (by simp only [xiSeq, xVar, List.getElem?_cons_succ, List.getElem?_cons_zero, xb_ok, vseq_lst, ckP, List.map_map]; rfl) rfl (by omega) fun r hr' => ⟨_, rfl, by
        obtain ⟨k1, k2⟩ := hr r hr'
        have c := call2 (hp := hp) (finer_ok (x := R[i]) (y := r) (by omega) (by omega) (own_of h2))
        simp only [xMeth0, xOp, wipeE, List.set_cons_succ, List.set_cons_zero, xVar, List.getElem?_cons_succ, List.getElem?_cons_zero, xb_ok, g1, lf_some', recv, insOf, xCons, xNil, decide_true, Bool.true_and, show decide (24 ∉ [1, 33]) = true from rfl, if_true, c, nox_ok]⟩
    have e2 := xLc_all (xi := xiSeq (xVar 14)) (g := xgName 19) (x := xCall0 f__law_finer (xCons (xOp gIx (xVar 14) (xVar 16)) (xCons (xVar 19) xNil))) (vs := [19]) (en := [o0, o1, o2, o3, o4, o5, o6, o7, o8, o9, o10, o11, o12, o13, some (.fr (.lst (R.map fun r => LI r))), some (.fr (.lst (R.map SP))), some (.fr (.int (i : Nat))), some (.fr (.lst (B.map .bl))), none, none, none, none, none]) (hp := hp) (γ := List Int) (fun r => .fr (LI r)) (fun r => .bl ((fin R[i] r).all id)) R (ck := fun _ => true)
      (by simp only [xiSeq, xVar, List.getElem?_cons_succ, List.getElem?_cons_zero, xb_ok, vseq_lst, ckP, List.map_map]; rfl) rfl (by omega) fun r hr' => ⟨_, rfl, by
        obtain ⟨k1, k2⟩ := hr r hr'
        have c := call2 (hp := hp) (law_finer_ok (x := R[i]) (y := r) (by omega) (by omega) (own_of h2))
        simp only [xCall0, xOp, wipeE, List.set_cons_succ, List.set_cons_zero, xVar, List.getElem?_cons_succ, List.getElem?_cons_zero, xb_ok, g2, lf_some', xCons, xNil, c, nox_ok]⟩
    rw [hB] at e1 e2
    have c := sameC (.lst (B.map .bl)) (pl_LB 2 B (by show (R.map _).length ≤ 1000; rw [List.length_map]; omega)) hp
    rw [List.map_cons, loopI_next rfl (en1 := [o0, o1, o2, o3, o4, o5, o6, o7, o8, o9, o10, o11, o12, o13, some (.fr (.lst (R.map fun r => LI r))), some (.fr (.lst (R.map SP))), some (.fr (.int (i : Nat))), o17, none, none, none, none, none]) (en2 := [o0, o1, o2, o3, o4, o5, o6, o7, o8, o9, o10, o11, o12, o13, some (.fr (.lst (R.map fun r => LI r))), some (.fr (.lst (R.map SP))), some (.fr (.int (i : Nat))), some (.fr (.lst (B.map .bl))), none, none, none, none, none]) (hp2 := hp) rfl ?_]
    · exact e
    · refine eq_of_w (w_step (en1 := [o0, o1, o2, o3, o4, o5, o6, o7, o8, o9, o10, o11, o12, o13, some (.fr (.lst (R.map fun r => LI r))), some (.fr (.lst (R.map SP))), some (.fr (.int (i : Nat))), some (.fr (.lst (B.map .bl))), none, none, none, none, none]) (hp1 := hp) ?_ (w_of (x := .next [o0, o1, o2, o3, o4, o5, o6, o7, o8, o9, o10, o11, o12, o13, some (.fr (.lst (R.map fun r => LI r))), some (.fr (.lst (R.map SP))), some (.fr (.int (i : Nat))), some (.fr (.lst (B.map .bl))), none, none, none, none, none] hp) ?_ rfl))
      · unfold zAsg; rw [e1]; rfl
      · simp only [zIf, xNot, xTest, xCall0, xCons, xVar, List.getElem?_cons_succ, List.getElem?_cons_zero, xb_ok, e2, xNil, c, nox_ok, Bool.not_true, if_false, Bool.false_eq_true, xs_ok, zNop]
end K


namespace K
open PySem ML
theorem mod_ne (n : Nat) (h1 : 1 ≤ n) (h2 : n ≤ 12) (d : Int) (h3 : 0 ≤ d) (h4 : d < 11) : ∃ w : Nat, 1 + ((n : Int) + d) % 12 = (w : Int) ∧ 1 ≤ w ∧ w ≤ 12 ∧ n ≠ w := by
  refine ⟨(1 + ((n : Int) + d) % 12).toNat, ?_, ?_, ?_, ?_⟩ <;> omega


theorem law_spec (l : List Int) : f_law [.fr (.rol (l.map .int))] [] = some (.ret (.fr (.bl true)) []) := by
  obtain ⟨b0, e0⟩ := startC l
  obtain ⟨d1, b1, -, e1, d10, d11⟩ := takeC b0 12 (by decide) (lg_small (by decide))
  obtain ⟨d2, b2, -, e2, d20, d21⟩ := takeC b1 6 (by decide) (lg_small (by decide))
  obtain ⟨n, hn, n1, n2⟩ : ∃ n : Nat, (if d2 = 5 then 12 else 1 + d1) = (n : Int) ∧ 1 ≤ n ∧ n ≤ 12 := by
    refine ⟨(if d2 = 5 then 12 else 1 + d1).toNat, ?_⟩
    split <;> omega
  obtain ⟨L1, b3, -, e3, l1⟩ := marksC b2 n (by omega) (by omega)
  obtain ⟨L2, b4, -, e4, l2⟩ := marksC b3 n (by omega) (by omega)
  obtain ⟨L3, b5, e5, l3⟩ := thirdC b4 L1 L2 (by omega) (by omega) (by omega)
  obtain ⟨d6, b6, -, e6, d60, d61⟩ := takeC b5 11 (by decide) (lg_small (by decide))
  obtain ⟨w, hw, w1, w2, nw⟩ := mod_ne n n1 n2 d6 d60 d61
  obtain ⟨L4, b7, -, e7, l4⟩ := marksC b6 w (by omega) (by omega)
  have i1 := initC L1 (by omega) (by omega) (bagH b5)
  have i2 := initC L2 (by omega) (by omega) (bagH b5)
  have i3 := initC L3 (by omega) (by omega) (bagH b5)
  have i4 := initC L4 (by omega) (by omega) (bagH b7)
  have w1' := call1 (hp := bagH b7) (law_low_ok L1 (by omega))
  have w2' := call1 (hp := bagH b7) (law_low_ok L2 (by omega))
  have w3' := call1 (hp := bagH b7) (law_low_ok L3 (by omega))
  have m1 : callF f__law_meet [.fr (LI L1), .fr (LI L2)] (bagH b7) = some (.ok (.fr (LI (meetL L1 L2))) (bagH b7)) := call2 (law_meet_ok L1 L2 (by omega) (by omega))
  have j1 : callF f__law_join [.fr (LI L1), .fr (LI L2)] (bagH b7) = some (.ok (.fr (LI (joinL L1 L2))) (bagH b7)) := call2 (law_join_ok L1 L2 L1.length rfl (by omega) (by omega))
  have h21 : L2.length = L1.length := by omega
  -- what stands for the three lists
  have kM := meet_low h21
  have kM2 : meetL (low L2) (low L1) = meetL L1 L2 := by rw [meet_low (by omega), meet_comm h21]
  have kJ := join_lows h21
  have kJ2 : joinL (low L2) (low L1) = joinL L1 L2 := by rw [join_lows (by omega), join_comm h21]
  have kMc : low (meetL L1 L2) = meetL L1 L2 := low_low _ (0, 0)
  have kJc : low (joinL L1 L2) = joinL L1 L2 := join_canon h21
  have kMl : (meetL L1 L2).length = n := by rw [meetL_len h21, l1]
  have kJl : (joinL L1 L2).length = n := by rw [joinL_len h21, l1]
  have ka : low (low L1) = low L1 := low_low L1 0
  have kb : low (low L2) = low L2 := low_low L2 0
  have kc : low (low L3) = low L3 := low_low L3 0
  have la : (low L1).length = n := by rw [low_len, l1]
  have lb : (low L2).length = n := by rw [low_len, l2]
  have lc : (low L3).length = n := by rw [low_len]; omega
  have ld : (low L4).length = w := by rw [low_len, l4]
  have ms1 := meet_self L1
  have js2 := join_self L2
  generalize hM : meetL L1 L2 = M at *
  generalize hJ : joinL L1 L2 = J at *
  generalize hA : low L1 = A at *
  generalize hB : low L2 = B at *
  generalize hC : low L3 = C at *
  generalize hD : low L4 = E at *
  have rl := rg_len n
  have rp : (List.replicate n (0 : Int)).length = n := List.length_replicate
  have iz := initC (List.replicate n 0) (by omega) (by omega) (bagH b7)
  have ir := initC (rg n) (by omega) (by omega) (bagH b7)
  rw [low_rep0] at iz
  rw [low_rg] at ir
  have a1 := andC (x := A) (y := B) (by omega) (by omega) (by omega) (bagH b7)
  have a2 := andC (x := B) (y := A) (by omega) (by omega) (by omega) (bagH b7)
  have o1 := orC (x := A) (y := B) (by omega) (by omega) (by omega) kb (bagH b7)
  have o2 := orC (x := B) (y := A) (by omega) (by omega) (by omega) ka (bagH b7)
  rw [kM] at a1
  rw [kM2] at a2
  rw [kJ] at o1
  rw [kJ2] at o2
  have o3 := orC (x := M) (y := C) (by omega) (by omega) (by omega) kc (bagH b7)
  have a3 := andC (x := J) (y := C) (by omega) (by omega) (by omega) (bagH b7)
  have a4 := andC (x := C) (y := M) (by omega) (by omega) (by omega) (bagH b7)
  have o4 := orC (x := C) (y := J) (by omega) (by omega) (by omega) kJc (bagH b7)
  have a5 := andC (x := A) (y := A) rfl (by omega) (by omega) (bagH b7)
  have o5 := orC (x := B) (y := B) rfl (by omega) (by omega) kb (bagH b7)
  rw [ms1] at a5
  rw [js2] at o5
  have q1 : callF f__law_join [.fr (LI M), .fr (LI C)] (bagH b7) = some (.ok (.fr (LI (joinL M C))) (bagH b7)) := call2 (law_join_ok M C M.length rfl (by omega) (by omega))
  have q2 : callF f__law_meet [.fr (LI J), .fr (LI C)] (bagH b7) = some (.ok (.fr (LI (meetL J C))) (bagH b7)) := call2 (law_meet_ok J C (by omega) (by omega))
  have q3 : callF f__law_meet [.fr (LI C), .fr (LI M)] (bagH b7) = some (.ok (.fr (LI (meetL C M))) (bagH b7)) := call2 (law_meet_ok C M (by omega) (by omega))
  have q4 : callF f__law_join [.fr (LI C), .fr (LI J)] (bagH b7) = some (.ok (.fr (LI (joinL C J))) (bagH b7)) := call2 (law_join_ok C J C.length rfl (by omega) (by omega))
  let R : List (List Int) := [A, B, C, M, J, List.replicate n 0, rg n, M, J]
  have hR : ∀ r ∈ R, r.length = n ∧ low r = r := by
    intro r hr
    simp only [R, List.mem_cons, List.not_mem_nil, or_false] at hr
    rcases hr with rfl | rfl | rfl | rfl | rfl | rfl | rfl | rfl | rfl
    · exact ⟨la, ka⟩
    · exact ⟨lb, kb⟩
    · exact ⟨lc, kc⟩
    · exact ⟨kMl, kMc⟩
    · exact ⟨kJl, kJc⟩
    · exact ⟨rp, low_rep0 n⟩
    · exact ⟨rl, low_rg n⟩
    · exact ⟨kMl, kMc⟩
    · exact ⟨kJl, kJc⟩
  have s1 : callF f__law_shown [.fr (.lst [SP A, SP B, SP C, SP M, SP J, SP (List.replicate n 0), SP (rg n), SP M, SP J]), .fr (.lst [LI A, LI B, LI C, LI M, LI J, LI (List.replicate n 0), LI (rg n), LI M, LI J])] (bagH b7) = some (.ok (.fr (.bl true)) (bagH b7)) := call2 (shown_ok R (by simp [R]) fun r hr => by have := (hR r hr).1; omega)
  have s2 : callF f__law_shown [.fr (.lst [SP (joinL M C), SP (meetL J C), SP (meetL C M), SP (joinL C J), SP A, SP B]), .fr (.lst [LI (joinL M C), LI (meetL J C), LI (meetL C M), LI (joinL C J), LI A, LI B])] (bagH b7) = some (.ok (.fr (.bl true)) (bagH b7)) := call2 (shown_ok [joinL M C, meetL J C, meetL C M, joinL C J, A, B] (by simp) fun r hr => by
    simp only [List.mem_cons, List.not_mem_nil, or_false] at hr
    rcases hr with rfl | rfl | rfl | rfl | rfl | rfl
    · rw [joinL_len (by omega)]; omega
    · rw [meetL_len (by omega)]; omega
    · rw [meetL_len (by omega)]; omega
    · rw [joinL_len (by omega)]; omega
    · omega
    · omega)
  have rf : callF f__law_refused [.fr (SP A), .fr (SP E), .fr (.int n), .fr (.int w)] (bagH b7) = some (.ok (.fr (.bl true)) (bagH b7)) := by
    have := refused_ok (x := A) (y := E) (by omega) (by omega) (by omega)
    rw [la, ld] at this
    exact call4 this
  have c22 := sameC (.lst [.bl true, .bl true, .bl (decide (M = J))]) (by simp [pl]) (bagH b7)
  have gm : gAdd true (bagH b7) (.fr (.int n)) (.fr (.int d6)) = some (.fr (.int (n + d6)), bagH b7) := rfl
  refine fn_of_w ?_
  unfold b_law
  refine w_step (en1 := [some (.fr (.rol (l.map .int))), some (.rf 0), none, none, none, none, none, none, none, none, none, none, none, none, none, none, none, none, none, none, none, none, none]) (hp1 := bagH b0) (by simp [zAsg, zDrop, zRet, zIf, zNop, zSet, xs_ok, xb_ok, xVar, xC, xCons, xNil, xOp, xUn, xCB, xBM, lf_some', nox_ok, xTest, xNot, xAnd, xOr, xIf, xAndV, gI, ML.gSub, gMod, gFdv, gPow, cPow, gLt, gLe, gGt, gGe, gAdd, gMul, gInt, xgName, xCall0, e0]) ?_
  refine w_step (en1 := [some (.fr (.rol (l.map .int))), some (.rf 0), some (.fr (.int (1 + d1))), none, none, none, none, none, none, none, none, none, none, none, none, none, none, none, none, none, none, none, none]) (hp1 := bagH b1) (by simp [zAsg, zDrop, zRet, zIf, zNop, zSet, xs_ok, xb_ok, xVar, xC, xCons, xNil, xOp, xUn, xCB, xBM, lf_some', nox_ok, xTest, xNot, xAnd, xOr, xIf, xAndV, gI, ML.gSub, gMod, gFdv, gPow, cPow, gLt, gLe, gGt, gGe, gAdd, gMul, gInt, xgName, xCall0, e1]) ?_
  refine w_step (en1 := [some (.fr (.rol (l.map .int))), some (.rf 0), some (.fr (.int n)), none, none, none, none, none, none, none, none, none, none, none, none, none, none, none, none, none, none, none, none]) (hp1 := bagH b2) ?_ ?_
  · by_cases z : d2 = 5
    · subst z
      simp [zAsg, zDrop, zRet, zIf, zNop, zSet, xs_ok, xb_ok, xVar, xC, xCons, xNil, xOp, xUn, xCB, xBM, lf_some', nox_ok, xTest, xNot, xAnd, xOr, xIf, xAndV, gI, ML.gSub, gMod, gFdv, gPow, cPow, gLt, gLe, gGt, gGe, gAdd, gMul, gInt, xgName, xCall0, e2, gEqD, pvD, okD_int, eqPy_int, ← hn]
    · rw [if_neg z] at hn
      simp [zAsg, zDrop, zRet, zIf, zNop, zSet, xs_ok, xb_ok, xVar, xC, xCons, xNil, xOp, xUn, xCB, xBM, lf_some', nox_ok, xTest, xNot, xAnd, xOr, xIf, xAndV, gI, ML.gSub, gMod, gFdv, gPow, cPow, gLt, gLe, gGt, gGe, gAdd, gMul, gInt, xgName, xCall0, e2, gEqD, pvD, okD_int, eqPy_int, z, ← hn]
  refine w_step (en1 := [some (.fr (.rol (l.map .int))), some (.rf 0), some (.fr (.int n)), some (.fr (LI L1)), none, none, none, none, none, none, none, none, none, none, none, none, none, none, none, none, none, none, none]) (hp1 := bagH b3) (by simp [zAsg, zDrop, zRet, zIf, zNop, zSet, xs_ok, xb_ok, xVar, xC, xCons, xNil, xOp, xUn, xCB, xBM, lf_some', nox_ok, xTest, xNot, xAnd, xOr, xIf, xAndV, gI, ML.gSub, gMod, gFdv, gPow, cPow, gLt, gLe, gGt, gGe, gAdd, gMul, gInt, xgName, xCall0, e3]) ?_
  refine w_step (en1 := [some (.fr (.rol (l.map .int))), some (.rf 0), some (.fr (.int n)), some (.fr (LI L1)), some (.fr (LI L2)), none, none, none, none, none, none, none, none, none, none, none, none, none, none, none, none, none, none]) (hp1 := bagH b4) (by simp [zAsg, zDrop, zRet, zIf, zNop, zSet, xs_ok, xb_ok, xVar, xC, xCons, xNil, xOp, xUn, xCB, xBM, lf_some', nox_ok, xTest, xNot, xAnd, xOr, xIf, xAndV, gI, ML.gSub, gMod, gFdv, gPow, cPow, gLt, gLe, gGt, gGe, gAdd, gMul, gInt, xgName, xCall0, e4]) ?_
  refine w_step (en1 := [some (.fr (.rol (l.map .int))), some (.rf 0), some (.fr (.int n)), some (.fr (LI L1)), some (.fr (LI L2)), some (.fr (LI L3)), none, none, none, none, none, none, none, none, none, none, none, none, none, none, none, none, none]) (hp1 := bagH b5) (by simp [zAsg, zDrop, zRet, zIf, zNop, zSet, xs_ok, xb_ok, xVar, xC, xCons, xNil, xOp, xUn, xCB, xBM, lf_some', nox_ok, xTest, xNot, xAnd, xOr, xIf, xAndV, gI, ML.gSub, gMod, gFdv, gPow, cPow, gLt, gLe, gGt, gGe, gAdd, gMul, gInt, xgName, xCall0, e5]) ?_
  refine w_step (en1 := [some (.fr (.rol (l.map .int))), some (.rf 0), some (.fr (.int n)), some (.fr (LI L1)), some (.fr (LI L2)), some (.fr (LI L3)), some (.fr (SP A)), none, none, none, none, none, none, none, none, none, none, none, none, none, none, none, none]) (hp1 := bagH b5) (by simp [zAsg, zDrop, zRet, zIf, zNop, zSet, xs_ok, xb_ok, xVar, xC, xCons, xNil, xOp, xUn, xCB, xBM, lf_some', nox_ok, xTest, xNot, xAnd, xOr, xIf, xAndV, gI, ML.gSub, gMod, gFdv, gPow, cPow, gLt, gLe, gGt, gGe, gAdd, gMul, gInt, xgName, xCall0, gList, vseq_lst, mkL_map', ML.fresh, toD, i1]) ?_
  refine w_step (en1 := [some (.fr (.rol (l.map .int))), some (.rf 0), some (.fr (.int n)), some (.fr (LI L1)), some (.fr (LI L2)), some (.fr (LI L3)), some (.fr (SP A)), some (.fr (SP B)), none, none, none, none, none, none, none, none, none, none, none, none, none, none, none]) (hp1 := bagH b5) (by simp [zAsg, zDrop, zRet, zIf, zNop, zSet, xs_ok, xb_ok, xVar, xC, xCons, xNil, xOp, xUn, xCB, xBM, lf_some', nox_ok, xTest, xNot, xAnd, xOr, xIf, xAndV, gI, ML.gSub, gMod, gFdv, gPow, cPow, gLt, gLe, gGt, gGe, gAdd, gMul, gInt, xgName, xCall0, gList, vseq_lst, mkL_map', ML.fresh, toD, i2]) ?_
  refine w_step (en1 := [some (.fr (.rol (l.map .int))), some (.rf 0), some (.fr (.int n)), some (.fr (LI L1)), some (.fr (LI L2)), some (.fr (LI L3)), some (.fr (SP A)), some (.fr (SP B)), some (.fr (SP C)), none, none, none, none, none, none, none, none, none, none, none, none, none, none]) (hp1 := bagH b5) (by simp [zAsg, zDrop, zRet, zIf, zNop, zSet, xs_ok, xb_ok, xVar, xC, xCons, xNil, xOp, xUn, xCB, xBM, lf_some', nox_ok, xTest, xNot, xAnd, xOr, xIf, xAndV, gI, ML.gSub, gMod, gFdv, gPow, cPow, gLt, gLe, gGt, gGe, gAdd, gMul, gInt, xgName, xCall0, gList, vseq_lst, mkL_map', ML.fresh, toD, i3]) ?_
  refine w_step (en1 := [some (.fr (.rol (l.map .int))), some (.rf 0), some (.fr (.int n)), some (.fr (LI L1)), some (.fr (LI L2)), some (.fr (LI L3)), some (.fr (SP A)), some (.fr (SP B)), some (.fr (SP C)), some (.fr (.int w)), none, none, none, none, none, none, none, none, none, none, none, none, none]) (hp1 := bagH b6) (by simp [zAsg, zDrop, zRet, zIf, zNop, zSet, xs_ok, xb_ok, xVar, xC, xCons, xNil, xOp, xUn, xCB, xBM, lf_some', nox_ok, xTest, xNot, xAnd, xOr, xIf, xAndV, gI, ML.gSub, gMod, gFdv, gPow, cPow, gLt, gLe, gGt, gGe, gAdd, gMul, gInt, xgName, xCall0, e6, ← hw]) ?_
  refine w_step (en1 := [some (.fr (.rol (l.map .int))), some (.rf 0), some (.fr (.int n)), some (.fr (LI L1)), some (.fr (LI L2)), some (.fr (LI L3)), some (.fr (SP A)), some (.fr (SP B)), some (.fr (SP C)), some (.fr (.int w)), some (.fr (SP E)), none, none, none, none, none, none, none, none, none, none, none, none]) (hp1 := bagH b7) (by simp [zAsg, zDrop, zRet, zIf, zNop, zSet, xs_ok, xb_ok, xVar, xC, xCons, xNil, xOp, xUn, xCB, xBM, lf_some', nox_ok, xTest, xNot, xAnd, xOr, xIf, xAndV, gI, ML.gSub, gMod, gFdv, gPow, cPow, gLt, gLe, gGt, gGe, gAdd, gMul, gInt, xgName, xCall0, e7, i4]) ?_
  refine w_step (en1 := [some (.fr (.rol (l.map .int))), some (.rf 0), some (.fr (.int n)), some (.fr (LI L1)), some (.fr (LI L2)), some (.fr (LI L3)), some (.fr (SP A)), some (.fr (SP B)), some (.fr (SP C)), some (.fr (.int w)), some (.fr (SP E)), some (.fr (.lst [LI A, LI B, LI C])), none, none, none, none, none, none, none, none, none, none, none]) (hp1 := bagH b7) (by simp [zAsg, zDrop, zRet, zIf, zNop, zSet, xs_ok, xb_ok, xVar, xC, xCons, xNil, xOp, xUn, xCB, xBM, lf_some', nox_ok, xTest, xNot, xAnd, xOr, xIf, xAndV, gI, ML.gSub, gMod, gFdv, gPow, cPow, gLt, gLe, gGt, gGe, gAdd, gMul, gInt, xgName, xCall0, w1', w2', w3', xLst, sz, mkL, unfr, ML.fresh, toD]) ?_
  refine w_step (en1 := [some (.fr (.rol (l.map .int))), some (.rf 0), some (.fr (.int n)), some (.fr (LI L1)), some (.fr (LI L2)), some (.fr (LI L3)), some (.fr (SP A)), some (.fr (SP B)), some (.fr (SP C)), some (.fr (.int w)), some (.fr (SP E)), some (.fr (.lst [LI A, LI B, LI C])), some (.fr (LI M)), none, none, none, none, none, none, none, none, none, none]) (hp1 := bagH b7) (by simp [zAsg, zDrop, zRet, zIf, zNop, zSet, xs_ok, xb_ok, xVar, xC, xCons, xNil, xOp, xUn, xCB, xBM, lf_some', nox_ok, xTest, xNot, xAnd, xOr, xIf, xAndV, gI, ML.gSub, gMod, gFdv, gPow, cPow, gLt, gLe, gGt, gGe, gAdd, gMul, gInt, xgName, xCall0, m1]) ?_
  refine w_step (en1 := [some (.fr (.rol (l.map .int))), some (.rf 0), some (.fr (.int n)), some (.fr (LI L1)), some (.fr (LI L2)), some (.fr (LI L3)), some (.fr (SP A)), some (.fr (SP B)), some (.fr (SP C)), some (.fr (.int w)), some (.fr (SP E)), some (.fr (.lst [LI A, LI B, LI C])), some (.fr (LI M)), some (.fr (LI J)), none, none, none, none, none, none, none, none, none]) (hp1 := bagH b7) (by simp [zAsg, zDrop, zRet, zIf, zNop, zSet, xs_ok, xb_ok, xVar, xC, xCons, xNil, xOp, xUn, xCB, xBM, lf_some', nox_ok, xTest, xNot, xAnd, xOr, xIf, xAndV, gI, ML.gSub, gMod, gFdv, gPow, cPow, gLt, gLe, gGt, gGe, gAdd, gMul, gInt, xgName, xCall0, j1]) ?_
  have hr0 := rep0 n (by omega) (en := [some (.fr (.rol (l.map .int))), some (.rf 0), some (.fr (.int n)), some (.fr (LI L1)), some (.fr (LI L2)), some (.fr (LI L3)), some (.fr (SP A)), some (.fr (SP B)), some (.fr (SP C)), some (.fr (.int w)), some (.fr (SP E)), some (.fr (.lst [LI A, LI B, LI C])), some (.fr (LI M)), some (.fr (LI J)), none, none, none, none, none, none, none, none, none]) (hp := bagH b7) rfl
  have hrg : (xListR1 true (xVar 2)) [some (.fr (.rol (l.map .int))), some (.rf 0), some (.fr (.int n)), some (.fr (LI L1)), some (.fr (LI L2)), some (.fr (LI L3)), some (.fr (SP A)), some (.fr (SP B)), some (.fr (SP C)), some (.fr (.int w)), some (.fr (SP E)), some (.fr (.lst [LI A, LI B, LI C])), some (.fr (LI M)), some (.fr (LI J)), none, none, none, none, none, none, none, none, none] (bagH b7) = some (.ok (.fr (LI (rg n))) (bagH b7)) := by
    simp [xListR1, zAsg, zDrop, zRet, zIf, zNop, zSet, xs_ok, xb_ok, xVar, xC, xCons, xNil, xOp, xUn, xCB, xBM, lf_some', nox_ok, xTest, xNot, xAnd, xOr, xIf, xAndV, gI, ML.gSub, gMod, gFdv, gPow, cPow, gLt, gLe, gGt, gGe, gAdd, gMul, gInt, xgName, smI_small (show n ≤ 1000 by omega), ML.fresh, toD, upto, rg]
  have t14 : (xLst true (xCons (xVar 12) (xCons (xVar 13) (xCons (xOp (gMul true) (xLst true (xCons (xC (.int 0)) xNil)) (xVar 2)) (xCons (xListR1 true (xVar 2)) (xCons (xVar 12) (xCons (xVar 13) xNil))))))) [some (.fr (.rol (l.map .int))), some (.rf 0), some (.fr (.int n)), some (.fr (LI L1)), some (.fr (LI L2)), some (.fr (LI L3)), some (.fr (SP A)), some (.fr (SP B)), some (.fr (SP C)), some (.fr (.int w)), some (.fr (SP E)), some (.fr (.lst [LI A, LI B, LI C])), some (.fr (LI M)), some (.fr (LI J)), none, none, none, none, none, none, none, none, none] (bagH b7) = some (.ok (.fr (.lst [LI M, LI J, LI (List.replicate n 0), LI (rg n), LI M, LI J])) (bagH b7)) := by
    simp only [xLst, xCons, hr0, hrg, xVar, List.getElem?_cons_succ, List.getElem?_cons_zero, xb_ok, xNil]
    simp [sz, mkL, unfr, ML.fresh, toD, lf_some']
  refine w_step (en1 := [some (.fr (.rol (l.map .int))), some (.rf 0), some (.fr (.int n)), some (.fr (LI L1)), some (.fr (LI L2)), some (.fr (LI L3)), some (.fr (SP A)), some (.fr (SP B)), some (.fr (SP C)), some (.fr (.int w)), some (.fr (SP E)), some (.fr (.lst [LI A, LI B, LI C])), some (.fr (LI M)), some (.fr (LI J)), some (.fr (.lst [LI A, LI B, LI C, LI M, LI J, LI (List.replicate n 0), LI (rg n), LI M, LI J])), none, none, none, none, none, none, none, none]) (hp1 := bagH b7) ?_ ?_
  · unfold zAsg
    rw [xOp_of (p := .fr (.lst [LI A, LI B, LI C])) (hp1 := bagH b7) rfl t14]
    simp [zAsg, zDrop, zRet, zIf, zNop, zSet, xs_ok, xb_ok, xVar, xC, xCons, xNil, xOp, xUn, xCB, xBM, lf_some', nox_ok, xTest, xNot, xAnd, xOr, xIf, xAndV, gI, ML.gSub, gMod, gFdv, gPow, cPow, gLt, gLe, gGt, gGe, gAdd, gMul, gInt, xgName, isLst, sz, mkL, unfr, ML.fresh, toD]
  have hr1 := rep0 n (by omega) (en := [some (.fr (.rol (l.map .int))), some (.rf 0), some (.fr (.int n)), some (.fr (LI L1)), some (.fr (LI L2)), some (.fr (LI L3)), some (.fr (SP A)), some (.fr (SP B)), some (.fr (SP C)), some (.fr (.int w)), some (.fr (SP E)), some (.fr (.lst [LI A, LI B, LI C])), some (.fr (LI M)), some (.fr (LI J)), some (.fr (.lst [LI A, LI B, LI C, LI M, LI J, LI (List.replicate n 0), LI (rg n), LI M, LI J])), none, none, none, none, none, none, none, none]) (hp := bagH b7) rfl
  have hrg1 : (xListR1 true (xVar 2)) [some (.fr (.rol (l.map .int))), some (.rf 0), some (.fr (.int n)), some (.fr (LI L1)), some (.fr (LI L2)), some (.fr (LI L3)), some (.fr (SP A)), some (.fr (SP B)), some (.fr (SP C)), some (.fr (.int w)), some (.fr (SP E)), some (.fr (.lst [LI A, LI B, LI C])), some (.fr (LI M)), some (.fr (LI J)), some (.fr (.lst [LI A, LI B, LI C, LI M, LI J, LI (List.replicate n 0), LI (rg n), LI M, LI J])), none, none, none, none, none, none, none, none] (bagH b7) = some (.ok (.fr (LI (rg n))) (bagH b7)) := by
    simp [xListR1, zAsg, zDrop, zRet, zIf, zNop, zSet, xs_ok, xb_ok, xVar, xC, xCons, xNil, xOp, xUn, xCB, xBM, lf_some', nox_ok, xTest, xNot, xAnd, xOr, xIf, xAndV, gI, ML.gSub, gMod, gFdv, gPow, cPow, gLt, gLe, gGt, gGe, gAdd, gMul, gInt, xgName, smI_small (show n ≤ 1000 by omega), ML.fresh, toD, upto, rg]
  have t15 : (xLst true (xCons (xVar 6) (xCons (xVar 7) (xCons (xVar 8) (xCons (xOpR (gOBin0 33 f_Split___and__) (xVar 6) (xVar 7)) (xCons (xOpR (gOBin0 33 f_Split___or__) (xVar 6) (xVar 7)) (xCons (xCall0 (mkF true 33 f_Split___init__) (xCons (xOp (gMul true) (xLst true (xCons (xC (.int 0)) xNil)) (xVar 2)) xNil)) (xCons (xCall0 (mkF true 33 f_Split___init__) (xCons (xListR1 true (xVar 2)) xNil)) xNil)))))))) [some (.fr (.rol (l.map .int))), some (.rf 0), some (.fr (.int n)), some (.fr (LI L1)), some (.fr (LI L2)), some (.fr (LI L3)), some (.fr (SP A)), some (.fr (SP B)), some (.fr (SP C)), some (.fr (.int w)), some (.fr (SP E)), some (.fr (.lst [LI A, LI B, LI C])), some (.fr (LI M)), some (.fr (LI J)), some (.fr (.lst [LI A, LI B, LI C, LI M, LI J, LI (List.replicate n 0), LI (rg n), LI M, LI J])), none, none, none, none, none, none, none, none] (bagH b7) = some (.ok (.fr (.lst [SP A, SP B, SP C, SP M, SP J, SP (List.replicate n 0), SP (rg n)])) (bagH b7)) := by
    simp only [xLst, xCons, xOpR, xCall0, hr1, hrg1, xVar, List.getElem?_cons_succ, List.getElem?_cons_zero, xb_ok, xNil, a1, o1, iz, ir, nox_ok]
    simp [sz, mkL, unfr, ML.fresh, toD, lf_some']
  refine w_step (en1 := [some (.fr (.rol (l.map .int))), some (.rf 0), some (.fr (.int n)), some (.fr (LI L1)), some (.fr (LI L2)), some (.fr (LI L3)), some (.fr (SP A)), some (.fr (SP B)), some (.fr (SP C)), some (.fr (.int w)), some (.fr (SP E)), some (.fr (.lst [LI A, LI B, LI C])), some (.fr (LI M)), some (.fr (LI J)), some (.fr (.lst [LI A, LI B, LI C, LI M, LI J, LI (List.replicate n 0), LI (rg n), LI M, LI J])), some (.fr (.lst [SP A, SP B, SP C, SP M, SP J, SP (List.replicate n 0), SP (rg n)])), none, none, none, none, none, none, none]) (hp1 := bagH b7) ?_ ?_
  · unfold zAsg
    rw [t15]
    rfl
  have t16 : (xLst true (xCons (xOpR (gOBin0 33 f_Split___and__) (xVar 7) (xVar 6)) (xCons (xOpR (gOBin0 33 f_Split___or__) (xVar 7) (xVar 6)) xNil))) [some (.fr (.rol (l.map .int))), some (.rf 0), some (.fr (.int n)), some (.fr (LI L1)), some (.fr (LI L2)), some (.fr (LI L3)), some (.fr (SP A)), some (.fr (SP B)), some (.fr (SP C)), some (.fr (.int w)), some (.fr (SP E)), some (.fr (.lst [LI A, LI B, LI C])), some (.fr (LI M)), some (.fr (LI J)), some (.fr (.lst [LI A, LI B, LI C, LI M, LI J, LI (List.replicate n 0), LI (rg n), LI M, LI J])), some (.fr (.lst [SP A, SP B, SP C, SP M, SP J, SP (List.replicate n 0), SP (rg n)])), none, none, none, none, none, none, none] (bagH b7) = some (.ok (.fr (.lst [SP M, SP J])) (bagH b7)) := by
    simp only [xLst, xCons, xOpR, xVar, List.getElem?_cons_succ, List.getElem?_cons_zero, xb_ok, xNil, a2, o2]
    simp [sz, mkL, unfr, ML.fresh, toD, lf_some']
  have t16b : (xOp (gAdd true) (xVar 15) (xLst true (xCons (xOpR (gOBin0 33 f_Split___and__) (xVar 7) (xVar 6)) (xCons (xOpR (gOBin0 33 f_Split___or__) (xVar 7) (xVar 6)) xNil)))) [some (.fr (.rol (l.map .int))), some (.rf 0), some (.fr (.int n)), some (.fr (LI L1)), some (.fr (LI L2)), some (.fr (LI L3)), some (.fr (SP A)), some (.fr (SP B)), some (.fr (SP C)), some (.fr (.int w)), some (.fr (SP E)), some (.fr (.lst [LI A, LI B, LI C])), some (.fr (LI M)), some (.fr (LI J)), some (.fr (.lst [LI A, LI B, LI C, LI M, LI J, LI (List.replicate n 0), LI (rg n), LI M, LI J])), some (.fr (.lst [SP A, SP B, SP C, SP M, SP J, SP (List.replicate n 0), SP (rg n)])), none, none, none, none, none, none, none] (bagH b7) = some (.ok (.fr (.lst [SP A, SP B, SP C, SP M, SP J, SP (List.replicate n 0), SP (rg n), SP M, SP J])) (bagH b7)) := by
    rw [xOp_of (p := .fr (.lst [SP A, SP B, SP C, SP M, SP J, SP (List.replicate n 0), SP (rg n)])) (hp1 := bagH b7) rfl t16]
    simp only [gAdd, isLst]
    simp [sz, mkL, unfr, ML.fresh, toD, lf_some']
  refine w_step (en1 := [some (.fr (.rol (l.map .int))), some (.rf 0), some (.fr (.int n)), some (.fr (LI L1)), some (.fr (LI L2)), some (.fr (LI L3)), some (.fr (SP A)), some (.fr (SP B)), some (.fr (SP C)), some (.fr (.int w)), some (.fr (SP E)), some (.fr (.lst [LI A, LI B, LI C])), some (.fr (LI M)), some (.fr (LI J)), some (.fr (.lst [LI A, LI B, LI C, LI M, LI J, LI (List.replicate n 0), LI (rg n), LI M, LI J])), some (.fr (.lst [SP A, SP B, SP C, SP M, SP J, SP (List.replicate n 0), SP (rg n), SP M, SP J])), none, none, none, none, none, none, none]) (hp1 := bagH b7) (by unfold zAsg; rw [t16b]; rfl) ?_
  refine w_step (en1 := [some (.fr (.rol (l.map .int))), some (.rf 0), some (.fr (.int n)), some (.fr (LI L1)), some (.fr (LI L2)), some (.fr (LI L3)), some (.fr (SP A)), some (.fr (SP B)), some (.fr (SP C)), some (.fr (.int w)), some (.fr (SP E)), some (.fr (.lst [LI A, LI B, LI C])), some (.fr (LI M)), some (.fr (LI J)), some (.fr (.lst [LI A, LI B, LI C, LI M, LI J, LI (List.replicate n 0), LI (rg n), LI M, LI J])), some (.fr (.lst [SP A, SP B, SP C, SP M, SP J, SP (List.replicate n 0), SP (rg n), SP M, SP J])), none, none, none, none, none, none, none]) (hp1 := bagH b7) ?_ ?_
  · simp only [zIf, xNot, xTest, xCall0, xCons, xVar, List.getElem?_cons_succ, List.getElem?_cons_zero, xb_ok, xNil, s1, nox_ok, Bool.not_true, if_false, Bool.false_eq_true, xs_ok, zNop]
  obtain ⟨q16, q17, ef⟩ := finers n (by omega) R rfl hR (bagH b7) (some (.fr (.rol (l.map .int)))) (some (.rf 0)) (some (.fr (.int n))) (some (.fr (LI L1))) (some (.fr (LI L2))) (some (.fr (LI L3))) (some (.fr (SP A))) (some (.fr (SP B))) (some (.fr (SP C))) (some (.fr (.int w))) (some (.fr (SP E))) (some (.fr (.lst [LI A, LI B, LI C]))) (some (.fr (LI M))) (some (.fr (LI J))) (List.range 9) none none fun i hi => List.mem_range.mp hi
  refine w_step (en1 := [some (.fr (.rol (l.map .int))), some (.rf 0), some (.fr (.int n)), some (.fr (LI L1)), some (.fr (LI L2)), some (.fr (LI L3)), some (.fr (SP A)), some (.fr (SP B)), some (.fr (SP C)), some (.fr (.int w)), some (.fr (SP E)), some (.fr (.lst [LI A, LI B, LI C])), some (.fr (LI M)), some (.fr (LI J)), some (.fr (.lst [LI A, LI B, LI C, LI M, LI J, LI (List.replicate n 0), LI (rg n), LI M, LI J])), some (.fr (.lst [SP A, SP B, SP C, SP M, SP J, SP (List.replicate n 0), SP (rg n), SP M, SP J])), q16, q17, none, none, none, none, none]) (hp1 := bagH b7) ?_ ?_
  · unfold zFor
    have e9 : ∀ en hp, xiR1 (xCons (xC (.int 9)) xNil) en hp = some (.ok ((List.range 9).map (fun i => PV.fr (.int (i : Nat))), fun _ => true) hp) := fun en hp => by
      have : rangeP 0 9 = _ := rangeP_map 9
      simp only [xiR1, xCons, xC, xb_ok, xNil]
      rw [if_pos (by decide)]
      rw [show ((9 : Int)).toNat = 9 from rfl, this]
    rw [e9, xs_ok]
    exact ef
  clear ef
  have t20 : (xLst true (xCons (xOpR (gOBin0 33 f_Split___or__) (xOpR (gOBin0 33 f_Split___and__) (xVar 6) (xVar 7)) (xVar 8)) (xCons (xOpR (gOBin0 33 f_Split___and__) (xOpR (gOBin0 33 f_Split___or__) (xVar 6) (xVar 7)) (xVar 8)) (xCons (xOpR (gOBin0 33 f_Split___and__) (xVar 8) (xOpR (gOBin0 33 f_Split___and__) (xVar 6) (xVar 7))) (xCons (xOpR (gOBin0 33 f_Split___or__) (xVar 8) (xOpR (gOBin0 33 f_Split___or__) (xVar 7) (xVar 6))) xNil))))) [some (.fr (.rol (l.map .int))), some (.rf 0), some (.fr (.int n)), some (.fr (LI L1)), some (.fr (LI L2)), some (.fr (LI L3)), some (.fr (SP A)), some (.fr (SP B)), some (.fr (SP C)), some (.fr (.int w)), some (.fr (SP E)), some (.fr (.lst [LI A, LI B, LI C])), some (.fr (LI M)), some (.fr (LI J)), some (.fr (.lst [LI A, LI B, LI C, LI M, LI J, LI (List.replicate n 0), LI (rg n), LI M, LI J])), some (.fr (.lst [SP A, SP B, SP C, SP M, SP J, SP (List.replicate n 0), SP (rg n), SP M, SP J])), q16, q17, none, none, none, none, none] (bagH b7) = some (.ok (.fr (.lst [SP (joinL M C), SP (meetL J C), SP (meetL C M), SP (joinL C J)])) (bagH b7)) := by
    simp only [xLst, xCons, xOpR, xVar, List.getElem?_cons_succ, List.getElem?_cons_zero, xb_ok, xNil, a1, o1, o2, o3, o4, a3, a4]
    simp [sz, mkL, unfr, ML.fresh, toD, lf_some']
  refine w_step (en1 := [some (.fr (.rol (l.map .int))), some (.rf 0), some (.fr (.int n)), some (.fr (LI L1)), some (.fr (LI L2)), some (.fr (LI L3)), some (.fr (SP A)), some (.fr (SP B)), some (.fr (SP C)), some (.fr (.int w)), some (.fr (SP E)), some (.fr (.lst [LI A, LI B, LI C])), some (.fr (LI M)), some (.fr (LI J)), some (.fr (.lst [LI A, LI B, LI C, LI M, LI J, LI (List.replicate n 0), LI (rg n), LI M, LI J])), some (.fr (.lst [SP A, SP B, SP C, SP M, SP J, SP (List.replicate n 0), SP (rg n), SP M, SP J])), q16, q17, none, none, some (.fr (.lst [SP (joinL M C), SP (meetL J C), SP (meetL C M), SP (joinL C J)])), none, none]) (hp1 := bagH b7) (by unfold zAsg; rw [t20]; rfl) ?_
  have t20b : (xOp (gAdd true) (xVar 20) (xLst true (xCons (xOpR (gOBin0 33 f_Split___and__) (xVar 6) (xVar 6)) (xCons (xOpR (gOBin0 33 f_Split___or__) (xVar 7) (xVar 7)) xNil)))) [some (.fr (.rol (l.map .int))), some (.rf 0), some (.fr (.int n)), some (.fr (LI L1)), some (.fr (LI L2)), some (.fr (LI L3)), some (.fr (SP A)), some (.fr (SP B)), some (.fr (SP C)), some (.fr (.int w)), some (.fr (SP E)), some (.fr (.lst [LI A, LI B, LI C])), some (.fr (LI M)), some (.fr (LI J)), some (.fr (.lst [LI A, LI B, LI C, LI M, LI J, LI (List.replicate n 0), LI (rg n), LI M, LI J])), some (.fr (.lst [SP A, SP B, SP C, SP M, SP J, SP (List.replicate n 0), SP (rg n), SP M, SP J])), q16, q17, none, none, some (.fr (.lst [SP (joinL M C), SP (meetL J C), SP (meetL C M), SP (joinL C J)])), none, none] (bagH b7) = some (.ok (.fr (.lst [SP (joinL M C), SP (meetL J C), SP (meetL C M), SP (joinL C J), SP A, SP B])) (bagH b7)) := by
    have t : (xLst true (xCons (xOpR (gOBin0 33 f_Split___and__) (xVar 6) (xVar 6)) (xCons (xOpR (gOBin0 33 f_Split___or__) (xVar 7) (xVar 7)) xNil))) [some (.fr (.rol (l.map .int))), some (.rf 0), some (.fr (.int n)), some (.fr (LI L1)), some (.fr (LI L2)), some (.fr (LI L3)), some (.fr (SP A)), some (.fr (SP B)), some (.fr (SP C)), some (.fr (.int w)), some (.fr (SP E)), some (.fr (.lst [LI A, LI B, LI C])), some (.fr (LI M)), some (.fr (LI J)), some (.fr (.lst [LI A, LI B, LI C, LI M, LI J, LI (List.replicate n 0), LI (rg n), LI M, LI J])), some (.fr (.lst [SP A, SP B, SP C, SP M, SP J, SP (List.replicate n 0), SP (rg n), SP M, SP J])), q16, q17, none, none, some (.fr (.lst [SP (joinL M C), SP (meetL J C), SP (meetL C M), SP (joinL C J)])), none, none] (bagH b7) = some (.ok (.fr (.lst [SP A, SP B])) (bagH b7)) := by
      simp only [xLst, xCons, xOpR, xVar, List.getElem?_cons_succ, List.getElem?_cons_zero, xb_ok, xNil, a5, o5]
      simp [sz, mkL, unfr, ML.fresh, toD, lf_some']
    rw [xOp_of (p := .fr (.lst [SP (joinL M C), SP (meetL J C), SP (meetL C M), SP (joinL C J)])) (hp1 := bagH b7) rfl t]
    simp only [gAdd, isLst]
    simp [sz, mkL, unfr, ML.fresh, toD, lf_some']
  refine w_step (en1 := [some (.fr (.rol (l.map .int))), some (.rf 0), some (.fr (.int n)), some (.fr (LI L1)), some (.fr (LI L2)), some (.fr (LI L3)), some (.fr (SP A)), some (.fr (SP B)), some (.fr (SP C)), some (.fr (.int w)), some (.fr (SP E)), some (.fr (.lst [LI A, LI B, LI C])), some (.fr (LI M)), some (.fr (LI J)), some (.fr (.lst [LI A, LI B, LI C, LI M, LI J, LI (List.replicate n 0), LI (rg n), LI M, LI J])), some (.fr (.lst [SP A, SP B, SP C, SP M, SP J, SP (List.replicate n 0), SP (rg n), SP M, SP J])), q16, q17, none, none, some (.fr (.lst [SP (joinL M C), SP (meetL J C), SP (meetL C M), SP (joinL C J), SP A, SP B])), none, none]) (hp1 := bagH b7) (by unfold zAsg; rw [t20b]; rfl) ?_
  have g2 : gIx (bagH b7) (.fr (.lst [LI A, LI B, LI C])) (.fr (.int 2)) = some (.fr (LI C), bagH b7) := rfl
  have g0 : gIx (bagH b7) (.fr (.lst [LI A, LI B, LI C])) (.fr (.int 0)) = some (.fr (LI A), bagH b7) := rfl
  have g1 : gIx (bagH b7) (.fr (.lst [LI A, LI B, LI C])) (.fr (.int 1)) = some (.fr (LI B), bagH b7) := rfl
  have t21 : (xLst true (xCons (xCall0 f__law_join (xCons (xVar 12) (xCons (xOp gIx (xVar 11) (xC (.int 2))) xNil))) (xCons (xCall0 f__law_meet (xCons (xVar 13) (xCons (xOp gIx (xVar 11) (xC (.int 2))) xNil))) (xCons (xCall0 f__law_meet (xCons (xOp gIx (xVar 11) (xC (.int 2))) (xCons (xVar 12) xNil))) (xCons (xCall0 f__law_join (xCons (xOp gIx (xVar 11) (xC (.int 2))) (xCons (xVar 13) xNil))) xNil))))) [some (.fr (.rol (l.map .int))), some (.rf 0), some (.fr (.int n)), some (.fr (LI L1)), some (.fr (LI L2)), some (.fr (LI L3)), some (.fr (SP A)), some (.fr (SP B)), some (.fr (SP C)), some (.fr (.int w)), some (.fr (SP E)), some (.fr (.lst [LI A, LI B, LI C])), some (.fr (LI M)), some (.fr (LI J)), some (.fr (.lst [LI A, LI B, LI C, LI M, LI J, LI (List.replicate n 0), LI (rg n), LI M, LI J])), some (.fr (.lst [SP A, SP B, SP C, SP M, SP J, SP (List.replicate n 0), SP (rg n), SP M, SP J])), q16, q17, none, none, some (.fr (.lst [SP (joinL M C), SP (meetL J C), SP (meetL C M), SP (joinL C J), SP A, SP B])), none, none] (bagH b7) = some (.ok (.fr (.lst [LI (joinL M C), LI (meetL J C), LI (meetL C M), LI (joinL C J)])) (bagH b7)) := by
    simp only [xLst, xCons, xOp, xC, xCall0, xVar, List.getElem?_cons_succ, List.getElem?_cons_zero, xb_ok, xNil, g2, lf_some', q1, q2, q3, q4, nox_ok]
    simp [sz, mkL, unfr, ML.fresh, toD, lf_some']
  refine w_step (en1 := [some (.fr (.rol (l.map .int))), some (.rf 0), some (.fr (.int n)), some (.fr (LI L1)), some (.fr (LI L2)), some (.fr (LI L3)), some (.fr (SP A)), some (.fr (SP B)), some (.fr (SP C)), some (.fr (.int w)), some (.fr (SP E)), some (.fr (.lst [LI A, LI B, LI C])), some (.fr (LI M)), some (.fr (LI J)), some (.fr (.lst [LI A, LI B, LI C, LI M, LI J, LI (List.replicate n 0), LI (rg n), LI M, LI J])), some (.fr (.lst [SP A, SP B, SP C, SP M, SP J, SP (List.replicate n 0), SP (rg n), SP M, SP J])), q16, q17, none, none, some (.fr (.lst [SP (joinL M C), SP (meetL J C), SP (meetL C M), SP (joinL C J), SP A, SP B])), some (.fr (.lst [LI (joinL M C), LI (meetL J C), LI (meetL C M), LI (joinL C J)])), none]) (hp1 := bagH b7) (by unfold zAsg; rw [t21]; rfl) ?_
  have t21b : (xOp (gAdd true) (xVar 21) (xLst true (xCons (xOp gIx (xVar 11) (xC (.int 0))) (xCons (xOp gIx (xVar 11) (xC (.int 1))) xNil)))) [some (.fr (.rol (l.map .int))), some (.rf 0), some (.fr (.int n)), some (.fr (LI L1)), some (.fr (LI L2)), some (.fr (LI L3)), some (.fr (SP A)), some (.fr (SP B)), some (.fr (SP C)), some (.fr (.int w)), some (.fr (SP E)), some (.fr (.lst [LI A, LI B, LI C])), some (.fr (LI M)), some (.fr (LI J)), some (.fr (.lst [LI A, LI B, LI C, LI M, LI J, LI (List.replicate n 0), LI (rg n), LI M, LI J])), some (.fr (.lst [SP A, SP B, SP C, SP M, SP J, SP (List.replicate n 0), SP (rg n), SP M, SP J])), q16, q17, none, none, some (.fr (.lst [SP (joinL M C), SP (meetL J C), SP (meetL C M), SP (joinL C J), SP A, SP B])), some (.fr (.lst [LI (joinL M C), LI (meetL J C), LI (meetL C M), LI (joinL C J)])), none] (bagH b7) = some (.ok (.fr (.lst [LI (joinL M C), LI (meetL J C), LI (meetL C M), LI (joinL C J), LI A, LI B])) (bagH b7)) := by
    have t : (xLst true (xCons (xOp gIx (xVar 11) (xC (.int 0))) (xCons (xOp gIx (xVar 11) (xC (.int 1))) xNil))) [some (.fr (.rol (l.map .int))), some (.rf 0), some (.fr (.int n)), some (.fr (LI L1)), some (.fr (LI L2)), some (.fr (LI L3)), some (.fr (SP A)), some (.fr (SP B)), some (.fr (SP C)), some (.fr (.int w)), some (.fr (SP E)), some (.fr (.lst [LI A, LI B, LI C])), some (.fr (LI M)), some (.fr (LI J)), some (.fr (.lst [LI A, LI B, LI C, LI M, LI J, LI (List.replicate n 0), LI (rg n), LI M, LI J])), some (.fr (.lst [SP A, SP B, SP C, SP M, SP J, SP (List.replicate n 0), SP (rg n), SP M, SP J])), q16, q17, none, none, some (.fr (.lst [SP (joinL M C), SP (meetL J C), SP (meetL C M), SP (joinL C J), SP A, SP B])), some (.fr (.lst [LI (joinL M C), LI (meetL J C), LI (meetL C M), LI (joinL C J)])), none] (bagH b7) = some (.ok (.fr (.lst [LI A, LI B])) (bagH b7)) := by
      simp only [xLst, xCons, xOp, xC, xVar, List.getElem?_cons_succ, List.getElem?_cons_zero, xb_ok, xNil, g0, g1, lf_some']
      simp [sz, mkL, unfr, ML.fresh, toD, lf_some']
    rw [xOp_of (p := .fr (.lst [LI (joinL M C), LI (meetL J C), LI (meetL C M), LI (joinL C J)])) (hp1 := bagH b7) rfl t]
    simp only [gAdd, isLst]
    simp [sz, mkL, unfr, ML.fresh, toD, lf_some']
  refine w_step (en1 := [some (.fr (.rol (l.map .int))), some (.rf 0), some (.fr (.int n)), some (.fr (LI L1)), some (.fr (LI L2)), some (.fr (LI L3)), some (.fr (SP A)), some (.fr (SP B)), some (.fr (SP C)), some (.fr (.int w)), some (.fr (SP E)), some (.fr (.lst [LI A, LI B, LI C])), some (.fr (LI M)), some (.fr (LI J)), some (.fr (.lst [LI A, LI B, LI C, LI M, LI J, LI (List.replicate n 0), LI (rg n), LI M, LI J])), some (.fr (.lst [SP A, SP B, SP C, SP M, SP J, SP (List.replicate n 0), SP (rg n), SP M, SP J])), q16, q17, none, none, some (.fr (.lst [SP (joinL M C), SP (meetL J C), SP (meetL C M), SP (joinL C J), SP A, SP B])), some (.fr (.lst [LI (joinL M C), LI (meetL J C), LI (meetL C M), LI (joinL C J)])), none]) (hp1 := bagH b7) ?_ ?_
  · simp only [zIf, xNot, xTest, xCall0]
    rw [xCons_of (p := .fr (.lst [SP (joinL M C), SP (meetL J C), SP (meetL C M), SP (joinL C J), SP A, SP B])) (hp1 := bagH b7) rfl (xCons_of t21b rfl)]
    simp only [ List.getElem?_cons_succ, List.getElem?_cons_zero, xb_ok, xNil, s2, nox_ok, Bool.not_true, if_false, Bool.false_eq_true, xs_ok, zNop]
  have x3 : gIx (bagH b7) (.fr (.lst [SP A, SP B, SP C, SP M, SP J, SP (List.replicate n 0), SP (rg n), SP M, SP J])) (.fr (.int 3)) = some (.fr (SP M), bagH b7) := rfl
  have x7 : gIx (bagH b7) (.fr (.lst [SP A, SP B, SP C, SP M, SP J, SP (List.replicate n 0), SP (rg n), SP M, SP J])) (.fr (.int 7)) = some (.fr (SP M), bagH b7) := rfl
  have x4 : gIx (bagH b7) (.fr (.lst [SP A, SP B, SP C, SP M, SP J, SP (List.replicate n 0), SP (rg n), SP M, SP J])) (.fr (.int 4)) = some (.fr (SP J), bagH b7) := rfl
  have x8 : gIx (bagH b7) (.fr (.lst [SP A, SP B, SP C, SP M, SP J, SP (List.replicate n 0), SP (rg n), SP M, SP J])) (.fr (.int 8)) = some (.fr (SP J), bagH b7) := rfl
  have y1 := eqC M M (bagH b7)
  have y2 := eqC J J (bagH b7)
  have y3 := eqC M J (bagH b7)
  rw [decide_eq_true rfl] at y1 y2
  have t22 : (xLst true (xCons (xOpR (gOEq 33 NFL_Split f_Split___eq__ false) (xOp gIx (xVar 15) (xC (.int 3))) (xOp gIx (xVar 15) (xC (.int 7)))) (xCons (xOpR (gOEq 33 NFL_Split f_Split___eq__ false) (xOp gIx (xVar 15) (xC (.int 4))) (xOp gIx (xVar 15) (xC (.int 8)))) (xCons (xOpR (gOEq 33 NFL_Split f_Split___eq__ false) (xOp gIx (xVar 15) (xC (.int 3))) (xOp gIx (xVar 15) (xC (.int 4)))) xNil)))) [some (.fr (.rol (l.map .int))), some (.rf 0), some (.fr (.int n)), some (.fr (LI L1)), some (.fr (LI L2)), some (.fr (LI L3)), some (.fr (SP A)), some (.fr (SP B)), some (.fr (SP C)), some (.fr (.int w)), some (.fr (SP E)), some (.fr (.lst [LI A, LI B, LI C])), some (.fr (LI M)), some (.fr (LI J)), some (.fr (.lst [LI A, LI B, LI C, LI M, LI J, LI (List.replicate n 0), LI (rg n), LI M, LI J])), some (.fr (.lst [SP A, SP B, SP C, SP M, SP J, SP (List.replicate n 0), SP (rg n), SP M, SP J])), q16, q17, none, none, some (.fr (.lst [SP (joinL M C), SP (meetL J C), SP (meetL C M), SP (joinL C J), SP A, SP B])), some (.fr (.lst [LI (joinL M C), LI (meetL J C), LI (meetL C M), LI (joinL C J)])), none] (bagH b7) = some (.ok (.fr (.lst [.bl true, .bl true, .bl (decide (M = J))])) (bagH b7)) := by
    simp only [xLst, xCons, xOpR, xOp, xC, xVar, List.getElem?_cons_succ, List.getElem?_cons_zero, xb_ok, xNil, x3, x4, x7, x8, lf_some', y1, y2, y3]
    simp [sz, mkL, unfr, ML.fresh, toD, lf_some']
  refine w_step (en1 := [some (.fr (.rol (l.map .int))), some (.rf 0), some (.fr (.int n)), some (.fr (LI L1)), some (.fr (LI L2)), some (.fr (LI L3)), some (.fr (SP A)), some (.fr (SP B)), some (.fr (SP C)), some (.fr (.int w)), some (.fr (SP E)), some (.fr (.lst [LI A, LI B, LI C])), some (.fr (LI M)), some (.fr (LI J)), some (.fr (.lst [LI A, LI B, LI C, LI M, LI J, LI (List.replicate n 0), LI (rg n), LI M, LI J])), some (.fr (.lst [SP A, SP B, SP C, SP M, SP J, SP (List.replicate n 0), SP (rg n), SP M, SP J])), q16, q17, none, none, some (.fr (.lst [SP (joinL M C), SP (meetL J C), SP (meetL C M), SP (joinL C J), SP A, SP B])), some (.fr (.lst [LI (joinL M C), LI (meetL J C), LI (meetL C M), LI (joinL C J)])), some (.fr (.lst [.bl true, .bl true, .bl (decide (M = J))]))]) (hp1 := bagH b7) (by unfold zAsg; rw [t22]; rfl) ?_
  have t23 : (xLst true (xCons (xC (.bl true)) (xCons (xC (.bl true)) (xCons (xOp (gEqD false) (xVar 12) (xVar 13)) xNil)))) [some (.fr (.rol (l.map .int))), some (.rf 0), some (.fr (.int n)), some (.fr (LI L1)), some (.fr (LI L2)), some (.fr (LI L3)), some (.fr (SP A)), some (.fr (SP B)), some (.fr (SP C)), some (.fr (.int w)), some (.fr (SP E)), some (.fr (.lst [LI A, LI B, LI C])), some (.fr (LI M)), some (.fr (LI J)), some (.fr (.lst [LI A, LI B, LI C, LI M, LI J, LI (List.replicate n 0), LI (rg n), LI M, LI J])), some (.fr (.lst [SP A, SP B, SP C, SP M, SP J, SP (List.replicate n 0), SP (rg n), SP M, SP J])), q16, q17, none, none, some (.fr (.lst [SP (joinL M C), SP (meetL J C), SP (meetL C M), SP (joinL C J), SP A, SP B])), some (.fr (.lst [LI (joinL M C), LI (meetL J C), LI (meetL C M), LI (joinL C J)])), some (.fr (.lst [.bl true, .bl true, .bl (decide (M = J))]))] (bagH b7) = some (.ok (.fr (.lst [.bl true, .bl true, .bl (decide (M = J))])) (bagH b7)) := by
    simp only [xLst, xCons, xOp, xC, xVar, List.getElem?_cons_succ, List.getElem?_cons_zero, xb_ok, xNil, gEqD, pvD, okD_LI, Bool.and_self, if_true, eqPy_lst, lf_some']
    simp [sz, mkL, unfr, ML.fresh, toD, lf_some']
  refine w_step (en1 := [some (.fr (.rol (l.map .int))), some (.rf 0), some (.fr (.int n)), some (.fr (LI L1)), some (.fr (LI L2)), some (.fr (LI L3)), some (.fr (SP A)), some (.fr (SP B)), some (.fr (SP C)), some (.fr (.int w)), some (.fr (SP E)), some (.fr (.lst [LI A, LI B, LI C])), some (.fr (LI M)), some (.fr (LI J)), some (.fr (.lst [LI A, LI B, LI C, LI M, LI J, LI (List.replicate n 0), LI (rg n), LI M, LI J])), some (.fr (.lst [SP A, SP B, SP C, SP M, SP J, SP (List.replicate n 0), SP (rg n), SP M, SP J])), q16, q17, none, none, some (.fr (.lst [SP (joinL M C), SP (meetL J C), SP (meetL C M), SP (joinL C J), SP A, SP B])), some (.fr (.lst [LI (joinL M C), LI (meetL J C), LI (meetL C M), LI (joinL C J)])), some (.fr (.lst [.bl true, .bl true, .bl (decide (M = J))]))]) (hp1 := bagH b7) ?_ ?_
  · simp only [zIf, xNot, xTest, xCall0]
    rw [xCons_of (p := .fr (.lst [.bl true, .bl true, .bl (decide (M = J))])) (hp1 := bagH b7) rfl (xCons_of t23 rfl)]
    simp only [ List.getElem?_cons_succ, List.getElem?_cons_zero, xb_ok, xNil, c22, nox_ok, Bool.not_true, if_false, Bool.false_eq_true, xs_ok, zNop]
  refine w_of (x := .ret (.fr (.bl true)) (bagH b7)) ?_ (outR0 _ (bagH b7))
  simp only [zRet, xAndV, xCall0, xCons, xVar, List.getElem?_cons_succ, List.getElem?_cons_zero, xb_ok, xNil, rf, s1, nox_ok, if_true, xs_ok]
end K

open PySem PySem.W PyProof.Rows in
set_option maxRecDepth 100000 in
set_option maxHeartbeats 0 in
theorem PySem.Challenge.cw_thinwall_k01_meet_join_and_finer_holds : PySem.Challenge.rw_thinwall_k01_meet_join_and_finer.Holds := by
  w_on; o_law; k_head; (case hw => w_witness2)
  k_fill
  refine LamX.walk_ofTs (l := PySem.Challenge.rw_thinwall_k01_meet_join_and_finer) (n := 63) (k := 10) (x := "script") (CX := fun _ => L2.CX0) rfl (by decide) rfl ⟨rfl, by decide, by decide⟩ (fun w h Y => PySem.W.km_in_of Y) ?F (fun _ _ _ _ _ z => z)
  case F =>
    intro w mg fa h Y KX G hmg
    refine' K.all_mk K.law_spec KX G hmg ?gThinwallError ?gBadSize ?gUnknownCase ?gSizeMismatch ?gSplit ?a1 ?l1 ?cq1 ?k1 ?a2 ?l2 ?cq2 ?k2 ?a3 ?i3 ?l3 ?cq3 ?k3 ?a4 ?l4 ?cq4 ?k4 ?a5 ?l5 ?cq5 ?k5 ?a6 ?i6 ?l6 ?cq6 ?k6 ?a7 ?i7 ?l7 ?cq7 ?k7 ?a8 ?i8 ?l8 ?cq8 ?k8 ?a9 ?l9 ?cq9 ?k9 ?a10 ?i10 ?l10 ?cq10 ?k10 ?a11 ?l11 ?cq11 ?k11 ?a12 ?i12 ?l12 ?cq12 ?k12 ?a13 ?l13 ?cq13 ?k13 ?a14 ?l14 ?cq14 ?k14 ?a15 ?l15 ?cq15 ?k15 ?a16 ?l16 ?cq16 ?k16 ?a17 ?l17 ?cq17 ?k17 ?a18 ?l18 ?cq18 ?k18 ?a19 ?l19 ?cq19 ?k19 ?a20 ?l20 ?cq20 ?k20 ?a21 ?l21 ?cq21 ?k21 ?a22 ?l22 ?cq22 ?k22 ?a23 ?i23 ?l23 ?cq23 ?k23 ?a24 ?l24 ?cq24 ?k24 ?a25 ?l25 ?cq25 ?k25 ?a26 ?l26 ?cq26 ?k26 ?b_ValueError ?b_all ?b_bool ?b_enumerate ?b_int ?b_isinstance ?b_len ?b_list ?b_min ?b_range ?b_str ?b_tuple ?b_zip ?b_super ?pgSplit ?hdSplit ?poSplit ?saSplit ?mkSplit ?kcSplit ?claSplit ?clmSplit ?naSplit_size ?naSplit__marks ?eqnSplit ?sfSplit ?cln ?clt ?rdSplit ?mgaSplit ?conSplitMOST ?y0_1 ?y1_1 ?y2_1 ?y3_1 ?y4_1 ?y5_1 ?y133_1 ?y0_2 ?y1_2 ?y2_2 ?y3_2 ?y4_2 ?y5_2 ?y133_2 ?y0_3 ?y1_3 ?y2_3 ?y3_3 ?y4_3 ?y5_3 ?y133_3 ?y0_4 ?y1_4 ?y2_4 ?y3_4 ?y4_4 ?y5_4 ?y133_4 ?y0_5 ?y1_5 ?y2_5 ?y3_5 ?y4_5 ?y5_5 ?y133_5 ?y0_133 ?y1_133 ?y2_133 ?y3_133 ?y4_133 ?y5_133 ?y133_133 ?yx103_8 ?yx103_100 ?yx103_101 ?e101_103 ?e101_100 ?e102_103 ?e102_100 ?e103_103 ?e103_100 ?nSplit_0 ?nSplit_1 ?nSplit_2 ?nSplit_3 ?nSplit_4 ?nSplit_5 ?nSplit_133 ?xBadSize ?saBadSize ?gaBadSize ?ggBadSize ?nfBadSize_size ?inBadSize ?tiBadSize ?exBadSize ?veBadSize ?tyBadSize ?keBadSize ?hdBadSize ?isBadSize ?suBadSize ?moBadSize ?acBadSize ?siBadSize ?lfBadSize ?cdBadSize ?ceBadSize ?coBadSize ?cfBadSize ?cgBadSize ?xUnknownCase ?saUnknownCase ?gaUnknownCase ?ggUnknownCase ?nfUnknownCase_case ?inUnknownCase ?tiUnknownCase ?exUnknownCase ?veUnknownCase ?tyUnknownCase ?keUnknownCase ?hdUnknownCase ?isUnknownCase ?suUnknownCase ?moUnknownCase ?acUnknownCase ?siUnknownCase ?lfUnknownCase ?cdUnknownCase ?ceUnknownCase ?coUnknownCase ?cfUnknownCase ?cgUnknownCase ?xSizeMismatch ?saSizeMismatch ?gaSizeMismatch ?ggSizeMismatch ?nfSizeMismatch_first ?nfSizeMismatch_second ?inSizeMismatch ?tiSizeMismatch ?exSizeMismatch ?veSizeMismatch ?tySizeMismatch ?keSizeMismatch ?hdSizeMismatch ?isSizeMismatch ?suSizeMismatch ?moSizeMismatch ?acSizeMismatch ?siSizeMismatch ?lfSizeMismatch ?cdSizeMismatch ?ceSizeMismatch ?coSizeMismatch ?cfSizeMismatch ?cgSizeMismatch ?tp ?ht ?tb22 ?tp222 ?ch22 ?np22 ?hT22
    (case gThinwallError => k_is)
    (case gBadSize => k_is)
    (case gUnknownCase => k_is)
    (case gSizeMismatch => k_is)
    (case gSplit => k_is)
    (case a1 => k_is)
    (case l1 => k_is)
    (case cq1 => k_is)
    (case k1 => k_is)
    (case a2 => k_is)
    (case l2 => k_is)
    (case cq2 => k_is)
    (case k2 => k_is)
    (case a3 => k_is)
    (case i3 => k_is)
    (case l3 => k_is)
    (case cq3 => k_is)
    (case k3 => k_is)
    (case a4 => k_is)
    (case l4 => k_is)
    (case cq4 => k_is)
    (case k4 => k_is)
    (case a5 => k_is)
    (case l5 => k_is)
    (case cq5 => k_is)
    (case k5 => k_is)
    (case a6 => k_is)
    (case i6 => k_is)
    (case l6 => k_is)
    (case cq6 => k_is)
    (case k6 => k_is)
    (case a7 => k_is)
    (case i7 => k_is)
    (case l7 => k_is)
    (case cq7 => k_is)
    (case k7 => k_is)
    (case a8 => k_is)
    (case i8 => k_is)
    (case l8 => k_is)
    (case cq8 => k_is)
    (case k8 => k_is)
    (case a9 => k_is)
    (case l9 => k_is)
    (case cq9 => k_is)
    (case k9 => k_is)
    (case a10 => k_is)
    (case i10 => k_is)
    (case l10 => k_is)
    (case cq10 => k_is)
    (case k10 => k_is)
    (case a11 => k_is)
    (case l11 => k_is)
    (case cq11 => k_is)
    (case k11 => k_is)
    (case a12 => k_is)
    (case i12 => k_is)
    (case l12 => k_is)
    (case cq12 => k_is)
    (case k12 => k_is)
    (case a13 => k_is)
    (case l13 => k_is)
    (case cq13 => k_is)
    (case k13 => k_is)
    (case a14 => k_is)
    (case l14 => k_is)
    (case cq14 => k_is)
    (case k14 => k_is)
    (case a15 => k_is)
    (case l15 => k_is)
    (case cq15 => k_is)
    (case k15 => k_is)
    (case a16 => k_is)
    (case l16 => k_is)
    (case cq16 => k_is)
    (case k16 => k_is)
    (case a17 => k_is)
    (case l17 => k_is)
    (case cq17 => k_is)
    (case k17 => k_is)
    (case a18 => k_is)
    (case l18 => k_is)
    (case cq18 => k_is)
    (case k18 => k_is)
    (case a19 => k_is)
    (case l19 => k_is)
    (case cq19 => k_is)
    (case k19 => k_is)
    (case a20 => k_is)
    (case l20 => k_is)
    (case cq20 => k_is)
    (case k20 => k_is)
    (case a21 => k_is)
    (case l21 => k_is)
    (case cq21 => k_is)
    (case k21 => k_is)
    (case a22 => k_is)
    (case l22 => k_is)
    (case cq22 => k_is)
    (case k22 => k_is)
    (case a23 => k_is)
    (case i23 => k_is)
    (case l23 => k_is)
    (case cq23 => k_is)
    (case k23 => k_is)
    (case a24 => k_is)
    (case l24 => k_is)
    (case cq24 => k_is)
    (case k24 => k_is)
    (case a25 => k_is)
    (case l25 => k_is)
    (case cq25 => k_is)
    (case k25 => k_is)
    (case a26 => k_is)
    (case l26 => k_is)
    (case cq26 => k_is)
    (case k26 => k_is)
    (case b_ValueError => k_is)
    (case b_all => k_is)
    (case b_bool => k_is)
    (case b_enumerate => k_is)
    (case b_int => k_is)
    (case b_isinstance => k_is)
    (case b_len => k_is)
    (case b_list => k_is)
    (case b_min => k_is)
    (case b_range => k_is)
    (case b_str => k_is)
    (case b_tuple => k_is)
    (case b_zip => k_is)
    (case b_super => k_is)
    (case pgSplit => k_is)
    (case hdSplit => k_is)
    (case poSplit => k_is)
    (case saSplit => k_is)
    (case mkSplit => k_is)
    (case kcSplit => k_is)
    (case claSplit => k_is)
    (case clmSplit => k_is)
    (case naSplit_size => k_is)
    (case naSplit__marks => k_is)
    (case eqnSplit => k_is)
    (case sfSplit => first | kernel_rfl | decide +kernel | rfl)
    (case cln => k_is)
    (case clt => k_is)
    (case rdSplit => k_is)
    (case mgaSplit => k_is)
    (case conSplitMOST => k_is)
    (case y0_1 => first | kernel_rfl | decide +kernel | rfl)
    (case y1_1 => first | kernel_rfl | decide +kernel | rfl)
    (case y2_1 => first | kernel_rfl | decide +kernel | rfl)
    (case y3_1 => first | kernel_rfl | decide +kernel | rfl)
    (case y4_1 => first | kernel_rfl | decide +kernel | rfl)
    (case y5_1 => first | kernel_rfl | decide +kernel | rfl)
    (case y133_1 => first | kernel_rfl | decide +kernel | rfl)
    (case y0_2 => first | kernel_rfl | decide +kernel | rfl)
    (case y1_2 => first | kernel_rfl | decide +kernel | rfl)
    (case y2_2 => first | kernel_rfl | decide +kernel | rfl)
    (case y3_2 => first | kernel_rfl | decide +kernel | rfl)
    (case y4_2 => first | kernel_rfl | decide +kernel | rfl)
    (case y5_2 => first | kernel_rfl | decide +kernel | rfl)
    (case y133_2 => first | kernel_rfl | decide +kernel | rfl)
    (case y0_3 => first | kernel_rfl | decide +kernel | rfl)
    (case y1_3 => first | kernel_rfl | decide +kernel | rfl)
    (case y2_3 => first | kernel_rfl | decide +kernel | rfl)
    (case y3_3 => first | kernel_rfl | decide +kernel | rfl)
    (case y4_3 => first | kernel_rfl | decide +kernel | rfl)
    (case y5_3 => first | kernel_rfl | decide +kernel | rfl)
    (case y133_3 => first | kernel_rfl | decide +kernel | rfl)
    (case y0_4 => first | kernel_rfl | decide +kernel | rfl)
    (case y1_4 => first | kernel_rfl | decide +kernel | rfl)
    (case y2_4 => first | kernel_rfl | decide +kernel | rfl)
    (case y3_4 => first | kernel_rfl | decide +kernel | rfl)
    (case y4_4 => first | kernel_rfl | decide +kernel | rfl)
    (case y5_4 => first | kernel_rfl | decide +kernel | rfl)
    (case y133_4 => first | kernel_rfl | decide +kernel | rfl)
    (case y0_5 => first | kernel_rfl | decide +kernel | rfl)
    (case y1_5 => first | kernel_rfl | decide +kernel | rfl)
    (case y2_5 => first | kernel_rfl | decide +kernel | rfl)
    (case y3_5 => first | kernel_rfl | decide +kernel | rfl)
    (case y4_5 => first | kernel_rfl | decide +kernel | rfl)
    (case y5_5 => first | kernel_rfl | decide +kernel | rfl)
    (case y133_5 => first | kernel_rfl | decide +kernel | rfl)
    (case y0_133 => first | kernel_rfl | decide +kernel | rfl)
    (case y1_133 => first | kernel_rfl | decide +kernel | rfl)
    (case y2_133 => first | kernel_rfl | decide +kernel | rfl)
    (case y3_133 => first | kernel_rfl | decide +kernel | rfl)
    (case y4_133 => first | kernel_rfl | decide +kernel | rfl)
    (case y5_133 => first | kernel_rfl | decide +kernel | rfl)
    (case y133_133 => first | kernel_rfl | decide +kernel | rfl)
    (case yx103_8 => first | kernel_rfl | decide +kernel | rfl)
    (case yx103_100 => first | kernel_rfl | decide +kernel | rfl)
    (case yx103_101 => first | kernel_rfl | decide +kernel | rfl)
    (case e101_103 => first | kernel_rfl | decide +kernel | rfl)
    (case e101_100 => first | kernel_rfl | decide +kernel | rfl)
    (case e102_103 => first | kernel_rfl | decide +kernel | rfl)
    (case e102_100 => first | kernel_rfl | decide +kernel | rfl)
    (case e103_103 => first | kernel_rfl | decide +kernel | rfl)
    (case e103_100 => first | kernel_rfl | decide +kernel | rfl)
    (case nSplit_0 => first | kernel_rfl | decide +kernel | rfl)
    (case nSplit_1 => first | kernel_rfl | decide +kernel | rfl)
    (case nSplit_2 => first | kernel_rfl | decide +kernel | rfl)
    (case nSplit_3 => first | kernel_rfl | decide +kernel | rfl)
    (case nSplit_4 => first | kernel_rfl | decide +kernel | rfl)
    (case nSplit_5 => first | kernel_rfl | decide +kernel | rfl)
    (case nSplit_133 => first | kernel_rfl | decide +kernel | rfl)
    (case xBadSize => k_is)
    (case saBadSize => k_is)
    (case gaBadSize => k_is)
    (case ggBadSize => k_is)
    (case nfBadSize_size => k_is)
    (case inBadSize => k_is)
    (case tiBadSize => k_is)
    (case exBadSize => k_is)
    (case veBadSize => k_is)
    (case tyBadSize => k_is)
    (case keBadSize => k_is)
    (case hdBadSize => k_is)
    (case isBadSize => first | kernel_rfl | decide +kernel | rfl)
    (case suBadSize => k_is)
    (case moBadSize => k_is)
    (case acBadSize => k_is)
    (case siBadSize => first | kernel_rfl | decide +kernel | rfl)
    (case lfBadSize => k_is)
    (case cdBadSize => k_is)
    (case ceBadSize => k_is)
    (case coBadSize => k_is)
    (case cfBadSize => rfl)
    (case cgBadSize => first | rfl | decide +kernel | kernel_rfl)
    (case xUnknownCase => k_is)
    (case saUnknownCase => k_is)
    (case gaUnknownCase => k_is)
    (case ggUnknownCase => k_is)
    (case nfUnknownCase_case => k_is)
    (case inUnknownCase => k_is)
    (case tiUnknownCase => k_is)
    (case exUnknownCase => k_is)
    (case veUnknownCase => k_is)
    (case tyUnknownCase => k_is)
    (case keUnknownCase => k_is)
    (case hdUnknownCase => k_is)
    (case isUnknownCase => first | kernel_rfl | decide +kernel | rfl)
    (case suUnknownCase => k_is)
    (case moUnknownCase => k_is)
    (case acUnknownCase => k_is)
    (case siUnknownCase => first | kernel_rfl | decide +kernel | rfl)
    (case lfUnknownCase => k_is)
    (case cdUnknownCase => k_is)
    (case ceUnknownCase => k_is)
    (case coUnknownCase => k_is)
    (case cfUnknownCase => rfl)
    (case cgUnknownCase => first | rfl | decide +kernel | kernel_rfl)
    (case xSizeMismatch => k_is)
    (case saSizeMismatch => k_is)
    (case gaSizeMismatch => k_is)
    (case ggSizeMismatch => k_is)
    (case nfSizeMismatch_first => k_is)
    (case nfSizeMismatch_second => k_is)
    (case inSizeMismatch => k_is)
    (case tiSizeMismatch => k_is)
    (case exSizeMismatch => k_is)
    (case veSizeMismatch => k_is)
    (case tySizeMismatch => k_is)
    (case keSizeMismatch => k_is)
    (case hdSizeMismatch => k_is)
    (case isSizeMismatch => first | kernel_rfl | decide +kernel | rfl)
    (case suSizeMismatch => k_is)
    (case moSizeMismatch => k_is)
    (case acSizeMismatch => k_is)
    (case siSizeMismatch => first | kernel_rfl | decide +kernel | rfl)
    (case lfSizeMismatch => k_is)
    (case cdSizeMismatch => k_is)
    (case ceSizeMismatch => k_is)
    (case coSizeMismatch => k_is)
    (case cfSizeMismatch => rfl)
    (case cgSizeMismatch => first | rfl | decide +kernel | kernel_rfl)
    (case tp => k_is)
    (case ht => first | rfl | decide +kernel | kernel_rfl)
    (case tb22 => k_is)
    (case tp222 => rfl)
    (case ch22 => kernel_rfl)
    (case np22 => first | kernel_rfl | rfl | decide +kernel)
    (case hT22 => exact PySem.W.km_tabs_of Y _ (by first | k_mem | simp))
