import PyProof.Rows.All
import Wide.All
import OpenK.AllK
import Wide.FinOn
import HandS.ForMost
import HandS.Flow
import HandS.IsInst
import HandS.Deep
import HandS.Wide
import HandS.TupAny
import HandS.Zip
import HandS.WordsDict
import PyProof.P3In
import KE.KDictZip
import KE.KDictItemsList
import KE.KTurns
import HandS.SortInts
import HandS.More
import KE.KEqDict
import PyProof.P3Eq
import PyProof.FString5
import HandS.DictComp
import KE.SortData
import KE.DataCmp
import PyProof.Rows.SortWalk
import PySem.Challenge.RW_exactkinds_k02_trees_in_their_order
set_option Elab.async false
set_option linter.all false
set_option autoImplicit false
set_option maxRecDepth 100000
namespace Px
open PySem L2

inductive PV where
  | non | bl (b : Bool) | int (i : Int) | str (s : Str) | tup (xs : List PV) | lst (xs : List PV) | dic (ks : List Key) (vs : List PV) | scr (ns : List Int) | ty (n : String)

def sOk (s : Str) : Bool := PyData.strOk s
def keyOk : Key → Bool
  | .inl _ => true
  | .inr s => sOk s

/-- a list of the written part -/
def KLst (K : PySem.W.Frag) (a : Addr) (xs : List V) : Prop := ∃ (o : Obj) (its : Array Value) (n : Nat), K.lookup a = some o ∧ o.cls = .type "list" ∧ o.dict = none ∧ o.data = .seq its n ∧ its.size ≤ sizeLine ∧ Vals xs its.toList
mutual
def Is (K : PySem.W.Frag) (H : Hp) (W : Addr → Prop) : PV → V → Prop
  | .non, v => v = .non
  | .bl b, v => v = .bl b
  | .int i, v => v = .int i
  | .ty n, v => v = .ty n
  | .str s, v => v = .str s ∧ sOk s = true
  | .tup ps, v => ∃ a vs, v = .ref a ∧ H a = some (.tup vs) ∧ Iss K H W ps vs
  | .lst ps, v => ∃ a vs, v = .ref a ∧ ¬ W a ∧ H a = some (.lst vs) ∧ Iss K H W ps vs
  | .dic ks ps, v => ∃ a vs, v = .ref a ∧ ¬ W a ∧ Rd H a (.dK (ks.zip vs)) ∧ ks.length = vs.length ∧ ks.all keyOk = true ∧ Iss K H W ps vs
  | .scr ns, v => ∃ a, v = .ref a ∧ ((∃ o, H a = some (.frz o (.lst (ns.map V.int)))) ∨ KLst K a (ns.map V.int))
def Iss (K : PySem.W.Frag) (H : Hp) (W : Addr → Prop) : List PV → List V → Prop
  | [], vs => vs = []
  | p :: ps, vs => ∃ v r, vs = v :: r ∧ Is K H W p v ∧ Iss K H W ps r
end

/-- what may be written -/
abbrev MutT (H : Hp) (W : Addr → Prop) : Prop := ∀ b, W b → Mut (H b)
theorem mut_tup {H : Hp} {b : Addr} {xs : List V} {o : Obj} : (H b = some (.tup xs) → ¬ Mut (H b)) ∧ (∀ u, H b = some (.frz o u) → ¬ Mut (H b)) :=
  ⟨fun e m => by rw [e] at m; exact m, fun u e m => by rw [e] at m; exact m⟩
theorem rd_keep {H H' : Hp} {W : Addr → Prop} {a : Addr} {u : HO} (k : ∀ b o, H b = some o → ¬ W b → H' b = some o) (n : ¬ W a) (r : Rd H a u) : Rd H' a u := by
  rcases r with r | ⟨o, r⟩
  · exact .inl (k a _ r n)
  · exact .inr ⟨o, k a _ r n⟩
theorem rd_tup {H H' : Hp} {W : Addr → Prop} {a : Addr} {xs : List V} (k : ∀ b o, H b = some o → ¬ W b → H' b = some o) (m : MutT H W) (r : Rd H a (.tup xs)) : Rd H' a (.tup xs) := by
  refine rd_keep k (fun z => ?_) r
  have q := m a z
  rcases r with r | ⟨o, r⟩
  · rw [r] at q; exact q
  · rw [r] at q; exact q
mutual
/-- moved to another heap, another set of what may be written -/
theorem Is.move {K : PySem.W.Frag} {H H' : Hp} {W W' : Addr → Prop} (k : ∀ b o, H b = some o → ¬ W b → H' b = some o) (m : MutT H W) (s : ∀ b, (∃ o, H b = some o) → W' b → W b) : ∀ (p : PV) (v : V), Is K H W p v → Is K H' W' p v
  | .non, _, h => h
  | .bl _, _, h => h
  | .int _, _, h => h
  | .ty _, _, h => h
  | .str _, _, h => h
  | .tup ps, v, h => by
    obtain ⟨a, vs, e, r, q⟩ := h
    exact ⟨a, vs, e, k a _ r fun z => by { have q := m a z; rw [r] at q; exact q }, Iss.move k m s ps vs q⟩
  | .lst ps, v, h => by
    obtain ⟨a, vs, e, n, r, q⟩ := h
    exact ⟨a, vs, e, fun z => n (s a ⟨_, r⟩ z), k a _ r n, Iss.move k m s ps vs q⟩
  | .dic ks ps, v, h => by
    obtain ⟨a, vs, e, n, r, l, kk, q⟩ := h
    have t : ∃ o, H a = some o := by rcases r with r | ⟨o, r⟩ <;> exact ⟨_, r⟩
    exact ⟨a, vs, e, fun z => n (s a t z), rd_keep k n r, l, kk, Iss.move k m s ps vs q⟩
  | .scr ns, v, h => by
    obtain ⟨a, e, q⟩ := h
    rcases q with ⟨o, q⟩ | q
    · exact ⟨a, e, .inl ⟨o, k a _ q fun w => by have z := m a w; rw [q] at z; exact z⟩⟩
    · exact ⟨a, e, .inr q⟩
theorem Iss.move {K : PySem.W.Frag} {H H' : Hp} {W W' : Addr → Prop} (k : ∀ b o, H b = some o → ¬ W b → H' b = some o) (m : MutT H W) (s : ∀ b, (∃ o, H b = some o) → W' b → W b) : ∀ (ps : List PV) (vs : List V), Iss K H W ps vs → Iss K H' W' ps vs
  | [], _, h => h
  | p :: ps, vs, h => by
    obtain ⟨v, r, e, h1, h2⟩ := h
    exact ⟨v, r, e, Is.move k m s p v h1, Iss.move k m s ps r h2⟩
end
mutual
/-- fewer may be written -/
theorem Is.anti {K : PySem.W.Frag} {H : Hp} {W W' : Addr → Prop} (s : ∀ b, W' b → W b) : ∀ (p : PV) (v : V), Is K H W p v → Is K H W' p v
  | .non, _, h => h
  | .bl _, _, h => h
  | .int _, _, h => h
  | .ty _, _, h => h
  | .str _, _, h => h
  | .tup ps, v, h => by
    obtain ⟨a, vs, e, r, q⟩ := h
    exact ⟨a, vs, e, r, Iss.anti s ps vs q⟩
  | .lst ps, v, h => by
    obtain ⟨a, vs, e, n, r, q⟩ := h
    exact ⟨a, vs, e, fun z => n (s a z), r, Iss.anti s ps vs q⟩
  | .dic ks ps, v, h => by
    obtain ⟨a, vs, e, n, r, l, kk, q⟩ := h
    exact ⟨a, vs, e, fun z => n (s a z), r, l, kk, Iss.anti s ps vs q⟩
  | .scr ns, v, h => h
theorem Iss.anti {K : PySem.W.Frag} {H : Hp} {W W' : Addr → Prop} (s : ∀ b, W' b → W b) : ∀ (ps : List PV) (vs : List V), Iss K H W ps vs → Iss K H W' ps vs
  | [], _, h => h
  | p :: ps, vs, h => by
    obtain ⟨v, r, e, h1, h2⟩ := h
    exact ⟨v, r, e, Is.anti s p v h1, Iss.anti s ps r h2⟩
end
mutual
/-- a value without lists and dicts -/
def imm : PV → Bool
  | .lst _ => false
  | .dic _ _ => false
  | .scr _ => true
  | .tup ps => imms ps
  | .non => true | .bl _ => true | .int _ => true | .str _ => true | .ty _ => true
def imms : List PV → Bool
  | [] => true
  | p :: ps => imm p && imms ps
end
mutual
theorem Is.imm {K : PySem.W.Frag} {H : Hp} {W W' : Addr → Prop} : ∀ (p : PV) (v : V), imm p = true → Is K H W p v → Is K H W' p v
  | .non, _, _, h => h
  | .bl _, _, _, h => h
  | .int _, _, _, h => h
  | .ty _, _, _, h => h
  | .str _, _, _, h => h
  | .tup ps, v, i, h => by
    obtain ⟨a, vs, e, r, q⟩ := h
    exact ⟨a, vs, e, r, Iss.imm ps vs (by rw [imm] at i; exact i) q⟩
  | .lst ps, v, i, h => by simp [Px.imm] at i
  | .dic ks ps, v, i, h => by simp [Px.imm] at i
  | .scr _, _, _, h => h
theorem Iss.imm {K : PySem.W.Frag} {H : Hp} {W W' : Addr → Prop} : ∀ (ps : List PV) (vs : List V), imms ps = true → Iss K H W ps vs → Iss K H W' ps vs
  | [], _, _, h => h
  | p :: ps, vs, i, h => by
    obtain ⟨v, r, e, h1, h2⟩ := h
    rw [imms, Bool.and_eq_true] at i
    exact ⟨v, r, e, Is.imm p v i.1 h1, Iss.imm ps r i.2 h2⟩
end
theorem Iss.length {K : PySem.W.Frag} {H : Hp} {W : Addr → Prop} : ∀ {ps : List PV} {vs : List V}, Iss K H W ps vs → ps.length = vs.length
  | [], _, h => by cases (show _ = [] from h); rfl
  | p :: ps, vs, h => by
    obtain ⟨v, r, e, h1, h2⟩ := h
    subst e
    simp [Iss.length h2]
theorem Iss.get {K : PySem.W.Frag} {H : Hp} {W : Addr → Prop} : ∀ {ps : List PV} {vs : List V}, Iss K H W ps vs → ∀ {i : Nat} {v : V}, vs[i]? = some v → ∃ p, ps[i]? = some p ∧ Is K H W p v
  | [], _, h, i, v, e => by cases (show _ = [] from h); simp at e
  | p :: ps, vs, h, i, v, e => by
    obtain ⟨w, r, e1, h1, h2⟩ := h
    subst e1
    cases i with
    | zero => simp at e; subst e; exact ⟨p, rfl, h1⟩
    | succ i =>
      obtain ⟨q, e2, h3⟩ := Iss.get h2 (i := i) (v := v) (by simpa using e)
      exact ⟨q, by simpa using e2, h3⟩
theorem Iss.getP {K : PySem.W.Frag} {H : Hp} {W : Addr → Prop} : ∀ {ps : List PV} {vs : List V}, Iss K H W ps vs → ∀ {i : Nat} {p : PV}, ps[i]? = some p → ∃ v, vs[i]? = some v ∧ Is K H W p v
  | [], _, h, i, v, e => by simp at e
  | p :: ps, vs, h, i, q, e => by
    obtain ⟨w, r, e1, h1, h2⟩ := h
    subst e1
    cases i with
    | zero => simp at e; subst e; exact ⟨w, rfl, h1⟩
    | succ i =>
      obtain ⟨q, e2, h3⟩ := Iss.getP h2 (i := i) (p := q) (by simpa using e)
      exact ⟨q, by simpa using e2, h3⟩
theorem Iss.append {K : PySem.W.Frag} {H : Hp} {W : Addr → Prop} : ∀ {ps qs : List PV} {vs us : List V}, Iss K H W ps vs → Iss K H W qs us → Iss K H W (ps ++ qs) (vs ++ us)
  | [], _, _, _, h, g => by cases (show _ = [] from h); exact g
  | p :: ps, qs, vs, us, h, g => by
    obtain ⟨w, r, e1, h1, h2⟩ := h
    subst e1
    exact ⟨w, r ++ us, rfl, h1, Iss.append h2 g⟩
theorem Iss.drop {K : PySem.W.Frag} {H : Hp} {W : Addr → Prop} : ∀ {ps : List PV} {vs : List V} (n : Nat), Iss K H W ps vs → Iss K H W (ps.drop n) (vs.drop n)
  | _, _, 0, h => h
  | [], _, n + 1, h => by cases (show _ = [] from h); exact rfl
  | p :: ps, vs, n + 1, h => by
    obtain ⟨w, r, e1, h1, h2⟩ := h
    subst e1
    exact Iss.drop n h2
theorem Iss.take {K : PySem.W.Frag} {H : Hp} {W : Addr → Prop} : ∀ {ps : List PV} {vs : List V} (n : Nat), Iss K H W ps vs → Iss K H W (ps.take n) (vs.take n)
  | _, _, 0, h => by simp [Iss]
  | [], _, n + 1, h => by cases (show _ = [] from h); exact rfl
  | p :: ps, vs, n + 1, h => by
    obtain ⟨w, r, e1, h1, h2⟩ := h
    subst e1
    exact ⟨w, r.take n, rfl, h1, Iss.take n h2⟩
theorem Iss.set {K : PySem.W.Frag} {H : Hp} {W : Addr → Prop} {p : PV} {v : V} (h0 : Is K H W p v) : ∀ {ps : List PV} {vs : List V} (n : Nat), Iss K H W ps vs → Iss K H W (ps.set n p) (vs.set n v)
  | [], _, n, h => by cases (show _ = [] from h); cases n <;> exact rfl
  | q :: ps, vs, 0, h => by
    obtain ⟨w, r, e1, h1, h2⟩ := h
    subst e1
    exact ⟨v, r, rfl, h0, h2⟩
  | q :: ps, vs, n + 1, h => by
    obtain ⟨w, r, e1, h1, h2⟩ := h
    subst e1
    exact ⟨w, r.set n v, rfl, h1, Iss.set h0 n h2⟩


theorem Iss.nil {K : PySem.W.Frag} {H : Hp} {W : Addr → Prop} : Iss K H W [] [] := rfl
theorem Iss.cons {K : PySem.W.Frag} {H : Hp} {W : Addr → Prop} {p : PV} {v : V} {ps : List PV} {vs : List V} (h : Is K H W p v) (r : Iss K H W ps vs) : Iss K H W (p :: ps) (v :: vs) := ⟨v, vs, rfl, h, r⟩
theorem Iss.ints {K : PySem.W.Frag} {H : Hp} {W : Addr → Prop} : ∀ ns : List Int, Iss K H W (ns.map PV.int) (ns.map V.int)
  | [] => rfl
  | n :: ns => ⟨_, _, rfl, rfl, Iss.ints ns⟩

/-! ### the frame: slots with values, slots that own an object (true: a parameter that the caller owns) -/
inductive Sl where
  | un | val (p : PV) | own (io : Bool) (p : PV)
abbrev En := List Sl
abbrev Pds := List (PV × V)
structure Gd where
  keep : Hp
  ex : Addr → Prop
  io : Nat → Addr → Prop
def Gd.add (G : Gd) (a : Addr) (o : HO) : Gd := ⟨upd G.keep a o, fun b => b = a ∨ G.ex b, G.io⟩
def WS (G : Gd) (σ : L2.St) (ρ : En) (a : Addr) : Prop := G.ex a ∨ ∃ (i : Nat) (b : Bool) (p : PV), ρ[i]? = some (Sl.own b p) ∧ σ[i]? = some (some (V.ref a))
def OwnO (K : PySem.W.Frag) (H : Hp) (W : Addr → Prop) : PV → HO → Prop
  | .lst ps, .lst vs => Iss K H W ps vs
  | .dic ks ps, .dK kvs => ∃ vs, kvs = ks.zip vs ∧ ks.length = vs.length ∧ ks.all keyOk = true ∧ Iss K H W ps vs
  | _, _ => False
def Own (K : PySem.W.Frag) (H : Hp) (W : Addr → Prop) (p : PV) (a : Addr) : Prop := ∃ o, H a = some o ∧ OwnO K H W p o
theorem OwnO.mut {K : PySem.W.Frag} {H : Hp} {W : Addr → Prop} {p : PV} {o : HO} (h : OwnO K H W p o) : Mut (some o) := by
  cases p <;> cases o <;> first | exact h.elim | trivial
theorem OwnO.move {K : PySem.W.Frag} {H H' : Hp} {W W' : Addr → Prop} (k : ∀ b o, H b = some o → ¬ W b → H' b = some o) (m : MutT H W) (s : ∀ b, (∃ o, H b = some o) → W' b → W b) {p : PV} {o : HO} (h : OwnO K H W p o) : OwnO K H' W' p o := by
  cases p <;> cases o <;> first
    | exact h.elim
    | exact Iss.move k m s _ _ h
    | (obtain ⟨vs, e, l, kk, q⟩ := h; exact ⟨vs, e, l, kk, Iss.move k m s _ _ q⟩)
theorem OwnO.anti {K : PySem.W.Frag} {H : Hp} {W W' : Addr → Prop} (s : ∀ b, W' b → W b) {p : PV} {o : HO} (h : OwnO K H W p o) : OwnO K H W' p o := by
  cases p <;> cases o <;> first
    | exact h.elim
    | exact Iss.anti s _ _ h
    | (obtain ⟨vs, e, l, kk, q⟩ := h; exact ⟨vs, e, l, kk, Iss.anti s _ _ q⟩)
theorem OwnO.is {K : PySem.W.Frag} {H : Hp} {W W' : Addr → Prop} {p : PV} {o : HO} {a : Addr} (h : OwnO K H W p o) (e : H a = some o) (s : ∀ b, W' b → W b) (n : ¬ W' a) : Is K H W' p (.ref a) := by
  cases p <;> cases o <;> first
    | exact h.elim
    | exact ⟨a, _, rfl, n, e, Iss.anti s _ _ h⟩
    | (obtain ⟨vs, e1, l, kk, q⟩ := h; subst e1; exact ⟨a, vs, rfl, n, .inl e, l, kk, Iss.anti s _ _ q⟩)

structure RE (K : PySem.W.Frag) (G : Gd) (H : Hp) (σ : L2.St) (ρ : En) (pd : Pds) : Prop where
  len : ρ.length = σ.length
  val : ∀ (i : Nat) (p : PV), ρ[i]? = some (Sl.val p) → ∃ v, σ[i]? = some (some v) ∧ Is K H (WS G σ ρ) p v
  own : ∀ (i : Nat) (b : Bool) (p : PV), ρ[i]? = some (Sl.own b p) → ∃ a, σ[i]? = some (some (V.ref a)) ∧ G.keep a = none ∧ Own K H (WS G σ ρ) p a
  inj : ∀ (i j : Nat) (b c : Bool) (p q : PV) (a : Addr), ρ[i]? = some (Sl.own b p) → ρ[j]? = some (Sl.own c q) → σ[i]? = some (some (V.ref a)) → σ[j]? = some (some (V.ref a)) → i = j
  io : ∀ (i : Nat) (a : Addr), G.io i a → σ[i]? = some (some (V.ref a)) ∧ ∃ p, ρ[i]? = some (Sl.own true p)
  keep : ∀ b o, G.keep b = some o → H b = some o
  exk : ∀ b, G.ex b → ∃ o, G.keep b = some o ∧ Mut (some o)
  pd : ∀ x ∈ pd, Is K H (WS G σ ρ) x.1 x.2

section
variable {K : PySem.W.Frag} {G : Gd} {H H' : Hp} {σ : L2.St} {ρ : En} {pd pd' : Pds}
theorem RE.mut (R : RE K G H σ ρ pd) : MutT H (WS G σ ρ) := fun b w => by
  rcases w with w | ⟨i, c, p, e1, e2⟩
  · obtain ⟨o, e, m⟩ := R.exk b w
    rw [R.keep b o e]; exact m
  · obtain ⟨a, e3, _, o, e4, q⟩ := R.own i c p e1
    rw [e2] at e3; cases e3
    rw [e4]; exact q.mut
theorem RE.there (R : RE K G H σ ρ pd) {b : Addr} (w : WS G σ ρ b) : ∃ o, H b = some o := by
  have m := R.mut b w
  cases e : H b with
  | none => rw [e] at m; exact m.elim
  | some o => exact ⟨o, rfl⟩
theorem RE.pds (R : RE K G H σ ρ pd) (s : ∀ x ∈ pd', x ∈ pd) : RE K G H σ ρ pd' := ⟨R.len, R.val, R.own, R.inj, R.io, R.keep, R.exk, fun x hx => R.pd x (s x hx)⟩
theorem RE.tl {x : PV × V} (R : RE K G H σ ρ (x :: pd)) : RE K G H σ ρ pd := R.pds fun y hy => List.mem_cons_of_mem _ hy
theorem RE.push {p : PV} {v : V} (R : RE K G H σ ρ pd) (h : Is K H (WS G σ ρ) p v) : RE K G H σ ρ ((p, v) :: pd) := ⟨R.len, R.val, R.own, R.inj, R.io, R.keep, R.exk, fun x hx => by
  rcases List.mem_cons.mp hx with e | hx
  · rw [e]; exact h
  · exact R.pd x hx⟩
theorem RE.pushs (R : RE K G H σ ρ pd) (h : ∀ x ∈ pd', Is K H (WS G σ ρ) x.1 x.2) : RE K G H σ ρ (pd' ++ pd) := ⟨R.len, R.val, R.own, R.inj, R.io, R.keep, R.exk, fun x hx => by
  rcases List.mem_append.mp hx with e | hx
  · exact h x e
  · exact R.pd x hx⟩
/-- everything that is tracked stays -/
theorem RE.same (R : RE K G H σ ρ pd) (s : Same H H') : RE K G H' σ ρ pd := by
  have mv : ∀ p v, Is K H (WS G σ ρ) p v → Is K H' (WS G σ ρ) p v := fun p v h => Is.move (fun b o e _ => s b o e) R.mut (fun _ _ w => w) p v h
  refine ⟨R.len, fun i p e => ?_, fun i c p e => ?_, R.inj, R.io, fun b o e => s b o (R.keep b o e), R.exk, fun x hx => mv _ _ (R.pd x hx)⟩
  · obtain ⟨v, e1, h⟩ := R.val i p e
    exact ⟨v, e1, mv p v h⟩
  · obtain ⟨a, e1, n, o, e2, h⟩ := R.own i c p e
    exact ⟨a, e1, n, o, s a o e2, h.move (fun b o e _ => s b o e) R.mut fun _ _ w => w⟩
/-- a new object, private -/
theorem RE.add {a : Addr} {o : HO} (R : RE K G H σ ρ pd) (n : H a = none) (s : Same H H') (e : H' a = some o) (m : Mut (some o)) : RE K (G.add a o) H' σ ρ pd := by
  have sub : ∀ b, (∃ o, H b = some o) → WS (G.add a o) σ ρ b → WS G σ ρ b := fun b t w => by
    rcases w with (w | w) | w
    · obtain ⟨u, t⟩ := t; rw [w, n] at t; cases t
    · exact .inl w
    · exact .inr w
  have mv : ∀ p v, Is K H (WS G σ ρ) p v → Is K H' (WS (G.add a o) σ ρ) p v := fun p v h => Is.move (fun b o e _ => s b o e) R.mut sub p v h
  have kn : G.keep a = none := by
    cases q : G.keep a with
    | none => rfl
    | some u => rw [R.keep a u q] at n; cases n
  refine ⟨R.len, fun i p e => ?_, fun i d p e1 => ?_, R.inj, R.io, fun b u e1 => ?_, fun b w => ?_, fun x hx => mv _ _ (R.pd x hx)⟩
  · obtain ⟨v, e1, h⟩ := R.val i p e
    exact ⟨v, e1, mv p v h⟩
  · obtain ⟨c, e2, k, u, e3, h⟩ := R.own i d p e1
    have ne : c ≠ a := fun z => by rw [z, n] at e3; cases e3
    exact ⟨c, e2, by show upd G.keep a o c = none; rw [upd_ne ne]; exact k, u, s c u e3, h.move (fun b o e _ => s b o e) R.mut sub⟩
  · by_cases q : b = a
    · rw [q] at e1
      have e2 : upd G.keep a o a = some u := e1
      rw [upd_same] at e2; cases e2
      rw [q]; exact e
    · have e2 : upd G.keep a o b = some u := e1
      rw [upd_ne q] at e2
      exact s b u (R.keep b u e2)
  · rcases w with w | w
    · rw [w]; exact ⟨o, upd_same, m⟩
    · obtain ⟨u, e1, m1⟩ := R.exk b w
      have ne : b ≠ a := fun z => by rw [z, kn] at e1; cases e1
      exact ⟨u, by show upd G.keep a o b = some u; rw [upd_ne ne]; exact e1, m1⟩
/-- the private one forgotten -/
theorem RE.unadd {a : Addr} {o : HO} (R : RE K (G.add a o) H σ ρ pd) (n : G.keep a = none) (kx : ∀ b, G.ex b → ∃ o, G.keep b = some o ∧ Mut (some o)) : RE K G H σ ρ pd ∧ ¬ WS G σ ρ a ∧ H a = some o := by
  have sub : ∀ b, WS G σ ρ b → WS (G.add a o) σ ρ b := fun b w => w.elim (fun w => .inl (.inr w)) .inr
  have Ha : H a = some o := R.keep a o upd_same
  refine ⟨⟨R.len, fun i p e => ?_, fun i b p e => ?_, R.inj, R.io, fun b u e => ?_, kx, fun x hx => Is.anti sub _ _ (R.pd x hx)⟩, ?_, Ha⟩
  · obtain ⟨v, e1, h⟩ := R.val i p e
    exact ⟨v, e1, Is.anti sub p v h⟩
  · obtain ⟨c, e1, k, u, e2, h⟩ := R.own i b p e
    refine ⟨c, e1, ?_, u, e2, h.anti sub⟩
    have k' : upd G.keep a o c = none := k
    by_cases z : c = a
    · rw [z, upd_same] at k'; cases k'
    · rw [upd_ne z] at k'; exact k'
  · refine R.keep b u ?_
    have ne : b ≠ a := fun z => by rw [z, n] at e; cases e
    show upd G.keep a o b = some u
    rw [upd_ne ne]; exact e
  · rintro (w | ⟨i, b, p, e1, e2⟩)
    · obtain ⟨u, e, _⟩ := kx a w
      rw [n] at e; cases e
    · obtain ⟨c, e3, k, _⟩ := R.own i b p e1
      rw [e2] at e3; cases e3
      have k' : upd G.keep a o a = none := k
      rw [upd_same] at k'; cases k'

def notIo (ρ : En) (i : Nat) : Bool := match ρ[i]? with
  | some (Sl.own true _) => false
  | _ => true
theorem ix_set {α : Type} {l : List α} {i j : Nat} {x y : α} (h : (l.set i x)[j]? = some y) : (i = j ∧ y = x ∧ i < l.length) ∨ (i ≠ j ∧ l[j]? = some y) := by
  by_cases e : i = j
  · subst e
    rw [List.getElem?_set] at h
    by_cases l' : i < l.length
    · simp [l'] at h; exact .inl ⟨rfl, h.symm, l'⟩
    · simp [l'] at h
  · rw [List.getElem?_set_ne e] at h; exact .inr ⟨e, h⟩
theorem ix_ne {α : Type} {l : List α} {i j : Nat} {x : α} (e : i ≠ j) : (l.set i x)[j]? = l[j]? := List.getElem?_set_ne e
theorem RE.io_ne (R : RE K G H σ ρ pd) {i : Nat} (n : notIo ρ i = true) : ∀ j a, G.io j a → i ≠ j := fun x a hx z => by
  obtain ⟨_, p, e⟩ := R.io x a hx
  unfold notIo at n
  rw [z, e] at n; simp at n
/-- a slot gets a value -/
theorem RE.set {i : Nat} {p : PV} {v : V} (R : RE K G H σ ρ ((p, v) :: pd)) (n : notIo ρ i = true) : RE K G H (σ.set i (some v)) (ρ.set i (Sl.val p)) pd := by
  have sub : ∀ b, WS G (σ.set i (some v)) (ρ.set i (Sl.val p)) b → WS G σ ρ b := fun b w => by
    rcases w with w | ⟨j, c, q, e1, e2⟩
    · exact .inl w
    · rcases ix_set e1 with ⟨_, z, _⟩ | ⟨ne, e1⟩
      · cases z
      · rw [ix_ne ne] at e2; exact .inr ⟨j, c, q, e1, e2⟩
  refine ⟨by simp [R.len], fun j q e => ?_, fun j c q e => ?_, fun j k b c q r a e1 e2 e3 e4 => ?_, fun x ax hx => ?_, R.keep, R.exk, fun x hx => Is.anti sub _ _ (R.pd x (List.mem_cons_of_mem _ hx))⟩
  · rcases ix_set e with ⟨rfl, z, l⟩ | ⟨ne, e⟩
    · cases z
      refine ⟨v, ?_, Is.anti sub _ _ (R.pd (p, v) List.mem_cons_self)⟩
      rw [List.getElem?_set_self (by rw [← R.len]; exact l)]
    · obtain ⟨w, e1, h⟩ := R.val j q e
      exact ⟨w, by rw [ix_ne ne]; exact e1, Is.anti sub _ _ h⟩
  · rcases ix_set e with ⟨_, z, _⟩ | ⟨ne, e⟩
    · cases z
    · obtain ⟨a, e1, k, o, e2, h⟩ := R.own j c q e
      exact ⟨a, by rw [ix_ne ne]; exact e1, k, o, e2, h.anti sub⟩
  · rcases ix_set e1 with ⟨_, z, _⟩ | ⟨n1, e1⟩
    · cases z
    rcases ix_set e2 with ⟨_, z, _⟩ | ⟨n2, e2⟩
    · cases z
    rw [ix_ne n1] at e3
    rw [ix_ne n2] at e4
    exact R.inj j k b c q r a e1 e2 e3 e4
  · obtain ⟨e, q, e1⟩ := R.io x ax hx
    have ne := R.io_ne n x ax hx
    exact ⟨by rw [ix_ne ne]; exact e, q, by rw [ix_ne ne]; exact e1⟩
/-- a slot forgets -/
theorem RE.clear {i : Nat} (R : RE K G H σ ρ pd) (n : notIo ρ i = true) : RE K G H (σ.set i none) (ρ.set i Sl.un) pd := by
  have sub : ∀ b, WS G (σ.set i none) (ρ.set i Sl.un) b → WS G σ ρ b := fun b w => by
    rcases w with w | ⟨j, c, q, e1, e2⟩
    · exact .inl w
    · rcases ix_set e1 with ⟨_, z, _⟩ | ⟨ne, e1⟩
      · cases z
      · rw [ix_ne ne] at e2; exact .inr ⟨j, c, q, e1, e2⟩
  refine ⟨by simp [R.len], fun j q e => ?_, fun j c q e => ?_, fun j k b c q r a e1 e2 e3 e4 => ?_, fun x ax hx => ?_, R.keep, R.exk, fun x hx => Is.anti sub _ _ (R.pd x hx)⟩
  · rcases ix_set e with ⟨_, z, _⟩ | ⟨ne, e⟩
    · cases z
    · obtain ⟨w, e1, h⟩ := R.val j q e
      exact ⟨w, by rw [ix_ne ne]; exact e1, Is.anti sub _ _ h⟩
  · rcases ix_set e with ⟨_, z, _⟩ | ⟨ne, e⟩
    · cases z
    · obtain ⟨a, e1, k, o, e2, h⟩ := R.own j c q e
      exact ⟨a, by rw [ix_ne ne]; exact e1, k, o, e2, h.anti sub⟩
  · rcases ix_set e1 with ⟨_, z, _⟩ | ⟨n1, e1⟩
    · cases z
    rcases ix_set e2 with ⟨_, z, _⟩ | ⟨n2, e2⟩
    · cases z
    rw [ix_ne n1] at e3
    rw [ix_ne n2] at e4
    exact R.inj j k b c q r a e1 e2 e3 e4
  · obtain ⟨e, q, e1⟩ := R.io x ax hx
    have ne := R.io_ne n x ax hx
    exact ⟨by rw [ix_ne ne]; exact e, q, by rw [ix_ne ne]; exact e1⟩
/-- a slot takes a new object as its own -/
theorem RE.setOwn {i : Nat} {p : PV} {a : Addr} {o : HO} (R : RE K (G.add a o) H σ ρ pd) (n : notIo ρ i = true) (l : i < ρ.length) (k : G.keep a = none) (kx : ∀ b, G.ex b → ∃ o, G.keep b = some o ∧ Mut (some o)) (w : OwnO K H (WS (G.add a o) σ ρ) p o) :
    RE K G H (σ.set i (some (.ref a))) (ρ.set i (Sl.own false p)) pd := by
  have lσ : i < σ.length := by rw [← R.len]; exact l
  have Ha : H a = some o := R.keep a o upd_same
  have sub : ∀ b, WS G (σ.set i (some (.ref a))) (ρ.set i (Sl.own false p)) b → WS (G.add a o) σ ρ b := fun b w => by
    rcases w with w | ⟨j, c, q, e1, e2⟩
    · exact .inl (.inr w)
    · rcases ix_set e1 with ⟨rfl, z, _⟩ | ⟨ne, e1⟩
      · rw [List.getElem?_set_self lσ] at e2; cases e2; exact .inl (.inl rfl)
      · rw [ix_ne ne] at e2; exact .inr ⟨j, c, q, e1, e2⟩
  have kne : ∀ c, (G.add a o).keep c = none → c ≠ a ∧ G.keep c = none := fun c e => by
    have e' : upd G.keep a o c = none := e
    by_cases z : c = a
    · rw [z, upd_same] at e'; cases e'
    · rw [upd_ne z] at e'; exact ⟨z, e'⟩
  refine ⟨by simp [R.len], fun j q e => ?_, fun j c q e => ?_, fun j m b c q r d e1 e2 e3 e4 => ?_, fun x ax hx => ?_, fun b u e => ?_, kx, fun x hx => Is.anti sub _ _ (R.pd x hx)⟩
  · rcases ix_set e with ⟨_, z, _⟩ | ⟨ne, e⟩
    · cases z
    · obtain ⟨w, e1, h⟩ := R.val j q e
      exact ⟨w, by rw [ix_ne ne]; exact e1, Is.anti sub _ _ h⟩
  · rcases ix_set e with ⟨rfl, z, _⟩ | ⟨ne, e⟩
    · cases z
      exact ⟨a, List.getElem?_set_self lσ, k, o, Ha, w.anti sub⟩
    · obtain ⟨d, e1, k1, u, e2, h⟩ := R.own j c q e
      exact ⟨d, by rw [ix_ne ne]; exact e1, (kne d k1).2, u, e2, h.anti sub⟩
  · rcases ix_set e1 with ⟨rfl, z, _⟩ | ⟨n1, e1⟩
    · rw [List.getElem?_set_self lσ] at e3; cases e3
      rcases ix_set e2 with ⟨rfl, z2, _⟩ | ⟨n2, e2⟩
      · rfl
      · rw [ix_ne n2] at e4
        obtain ⟨d, e5, k1, _⟩ := R.own m c r e2
        rw [e4] at e5; cases e5
        exact absurd rfl (kne _ k1).1
    · rw [ix_ne n1] at e3
      rcases ix_set e2 with ⟨rfl, z2, _⟩ | ⟨n2, e2⟩
      · rw [List.getElem?_set_self lσ] at e4; cases e4
        obtain ⟨d, e5, k1, _⟩ := R.own j b q e1
        rw [e3] at e5; cases e5
        exact absurd rfl (kne _ k1).1
      · rw [ix_ne n2] at e4
        exact R.inj j m b c q r d e1 e2 e3 e4
  · obtain ⟨e, q, e1⟩ := R.io x ax hx
    have ne := R.io_ne n x ax hx
    exact ⟨by rw [ix_ne ne]; exact e, q, by rw [ix_ne ne]; exact e1⟩
  · refine R.keep b u ?_
    have ne : b ≠ a := fun z => by rw [z, k] at e; cases e
    show upd G.keep a o b = some u
    rw [upd_ne ne]; exact e
/-- a slot's own object is from now on a value like others -/
theorem RE.freeze {i : Nat} {p : PV} (R : RE K G H σ ρ pd) (e : ρ[i]? = some (Sl.own false p)) : RE K G H σ (ρ.set i (Sl.val p)) pd := by
  obtain ⟨a, ea, k, o, Ha, w⟩ := R.own i false p e
  have sub : ∀ b, WS G σ (ρ.set i (Sl.val p)) b → WS G σ ρ b := fun b w => by
    rcases w with w | ⟨j, c, q, e1, e2⟩
    · exact .inl w
    · rcases ix_set e1 with ⟨_, z, _⟩ | ⟨ne, e1⟩
      · cases z
      · exact .inr ⟨j, c, q, e1, e2⟩
  have na : ¬ WS G σ (ρ.set i (Sl.val p)) a := by
    rintro (w | ⟨j, c, q, e1, e2⟩)
    · obtain ⟨u, e3, _⟩ := R.exk a w
      rw [k] at e3; cases e3
    · rcases ix_set e1 with ⟨_, z, _⟩ | ⟨ne, e1⟩
      · cases z
      · exact ne (R.inj i j _ _ _ _ a e e1 ea e2)
  refine ⟨by simp [R.len], fun j q e1 => ?_, fun j c q e1 => ?_, fun j k b c q r a e1 e2 e3 e4 => ?_, fun x ax hx => ?_, R.keep, R.exk, fun x hx => Is.anti sub _ _ (R.pd x hx)⟩
  · rcases ix_set e1 with ⟨rfl, z, l⟩ | ⟨ne, e1⟩
    · cases z
      exact ⟨_, ea, w.is Ha sub na⟩
    · obtain ⟨w, e2, h⟩ := R.val j q e1
      exact ⟨w, e2, Is.anti sub _ _ h⟩
  · rcases ix_set e1 with ⟨_, z, _⟩ | ⟨ne, e1⟩
    · cases z
    · obtain ⟨a, e2, k, o, e3, h⟩ := R.own j c q e1
      exact ⟨a, e2, k, o, e3, h.anti sub⟩
  · rcases ix_set e1 with ⟨_, z, _⟩ | ⟨n1, e1⟩
    · cases z
    rcases ix_set e2 with ⟨_, z, _⟩ | ⟨n2, e2⟩
    · cases z
    exact R.inj j k b c q r a e1 e2 e3 e4
  · obtain ⟨e1, q, e2⟩ := R.io x ax hx
    have ne : i ≠ x := fun z => by rw [z, e2] at e; cases e
    exact ⟨e1, q, by rw [ix_ne ne]; exact e2⟩
/-- a slot's own object is changed -/
theorem RE.mutate {i : Nat} {b : Bool} {p p' : PV} {a : Addr} {o' : HO} (R : RE K G H σ ρ pd) (e : ρ[i]? = some (Sl.own b p)) (ea : σ[i]? = some (some (V.ref a))) (w : OwnO K H (WS G σ ρ) p' o') : RE K G (upd H a o') σ (ρ.set i (Sl.own b p')) pd := by
  obtain ⟨a1, ea1, k, o, Ha, _⟩ := R.own i b p e
  rw [ea] at ea1; cases ea1
  have Wa : WS G σ ρ a := .inr ⟨i, b, p, e, ea⟩
  have kp : ∀ c u, H c = some u → ¬ WS G σ ρ c → upd H a o' c = some u := fun c u h n => by
    have ne : c ≠ a := fun z => n (by rw [z]; exact Wa)
    rw [upd_ne ne]; exact h
  have sub : ∀ c, (∃ o, H c = some o) → WS G σ (ρ.set i (Sl.own b p')) c → WS G σ ρ c := fun c _ w => by
    rcases w with w | ⟨j, d, q, e1, e2⟩
    · exact .inl w
    · rcases ix_set e1 with ⟨rfl, z, _⟩ | ⟨ne, e1⟩
      · exact .inr ⟨i, b, p, e, e2⟩
      · exact .inr ⟨j, d, q, e1, e2⟩
  have mv := fun p v h => Is.move (K := K) kp R.mut sub p v h
  refine ⟨by simp [R.len], fun j q e1 => ?_, fun j c q e1 => ?_, fun j k b1 c1 q r a1 e1 e2 e3 e4 => ?_, fun x ax hx => ?_, fun c u h => ?_, R.exk, fun x hx => mv _ _ (R.pd x hx)⟩
  · rcases ix_set e1 with ⟨_, z, _⟩ | ⟨ne, e1⟩
    · cases z
    · obtain ⟨w, e2, h⟩ := R.val j q e1
      exact ⟨w, e2, mv _ _ h⟩
  · rcases ix_set e1 with ⟨rfl, z, _⟩ | ⟨ne, e1⟩
    · cases z
      exact ⟨a, ea, k, o', upd_same, w.move kp R.mut sub⟩
    · obtain ⟨d, e2, k1, u, e3, h⟩ := R.own j c q e1
      have nd : d ≠ a := fun z => ne (R.inj i j _ _ _ _ a e e1 ea (by rw [← z]; exact e2))
      exact ⟨d, e2, k1, u, by rw [upd_ne nd]; exact e3, h.move kp R.mut sub⟩
  · have q1 : ∀ {m : Nat} {c : Bool} {q : PV}, (ρ.set i (Sl.own b p'))[m]? = some (Sl.own c q) → ∃ c' q', ρ[m]? = some (Sl.own c' q') := fun {m c q} h => by
      rcases ix_set h with ⟨rfl, _, _⟩ | ⟨_, h⟩
      · exact ⟨_, _, e⟩
      · exact ⟨_, _, h⟩
    obtain ⟨_, _, f1⟩ := q1 e1
    obtain ⟨_, _, f2⟩ := q1 e2
    exact R.inj j k _ _ _ _ a1 f1 f2 e3 e4
  · obtain ⟨e1, q, e2⟩ := R.io x ax hx
    refine ⟨e1, ?_⟩
    by_cases z : i = x
    · rw [← z] at e2
      rw [e] at e2; cases e2
      refine ⟨p', ?_⟩
      rw [← z, List.getElem?_set_self (List.getElem?_eq_some_iff.mp e).1]
    · exact ⟨q, by rw [ix_ne z]; exact e2⟩
  · have ne : c ≠ a := fun z => by rw [z, k] at h; cases h
    rw [upd_ne ne]; exact R.keep c u h

/-- the same slots own; what they own, and what is tracked, may have changed -/
def Alike (ρ ρ2 : En) : Prop := ρ2.length = ρ.length ∧ ∀ i : Nat, ρ2[i]? = ρ[i]? ∨ ∃ (b : Bool) (p q : PV), ρ[i]? = some (Sl.own b p) ∧ ρ2[i]? = some (Sl.own b q)
theorem Alike.back {ρ ρ2 : En} (A : Alike ρ ρ2) {i : Nat} {b : Bool} {q : PV} (e : ρ2[i]? = some (Sl.own b q)) : ∃ p, ρ[i]? = some (Sl.own b p) := by
  rcases A.2 i with z | ⟨c, p, r, e1, e2⟩
  · rw [z] at e; exact ⟨q, e⟩
  · rw [e] at e2; cases e2; exact ⟨p, e1⟩
theorem Alike.fwd {ρ ρ2 : En} (A : Alike ρ ρ2) {i : Nat} {b : Bool} {p : PV} (e : ρ[i]? = some (Sl.own b p)) : ∃ q, ρ2[i]? = some (Sl.own b q) := by
  rcases A.2 i with z | ⟨c, p', r, e1, e2⟩
  · rw [e] at z; exact ⟨p, z⟩
  · rw [e] at e1; cases e1; exact ⟨r, e2⟩
theorem RE.swap {ρ2 : En} (R : RE K G H σ ρ pd) (A : Alike ρ ρ2) (k : ∀ b o, H b = some o → ¬ WS G σ ρ b → H' b = some o) (kp : ∀ b o, G.keep b = some o → H' b = some o)
    (ow : ∀ (i : Nat) (b : Bool) (q : PV) (a : Addr), ρ2[i]? = some (Sl.own b q) → σ[i]? = some (some (V.ref a)) → Own K H' (WS G σ ρ) q a) : RE K G H' σ ρ2 pd := by
  have sub : ∀ b, WS G σ ρ2 b → WS G σ ρ b := fun b w => by
    rcases w with w | ⟨i, c, q, e1, e2⟩
    · exact .inl w
    · obtain ⟨p, e⟩ := A.back e1
      exact .inr ⟨i, c, p, e, e2⟩
  have mv := fun p v h => Is.move (K := K) k R.mut (fun b _ w => sub b w) p v h
  refine ⟨by rw [A.1, R.len], fun i p e => ?_, fun i b q e => ?_, fun i j b c p q a e1 e2 e3 e4 => ?_, fun i a h => ?_, kp, R.exk, fun x hx => mv _ _ (R.pd x hx)⟩
  · rcases A.2 i with z | ⟨c, p', r, _, e2⟩
    · rw [z] at e
      obtain ⟨v, e1, h⟩ := R.val i p e
      exact ⟨v, e1, mv _ _ h⟩
    · rw [e] at e2; cases e2
  · obtain ⟨p, e1⟩ := A.back e
    obtain ⟨a, e2, n, _⟩ := R.own i b p e1
    obtain ⟨o, e3, h⟩ := ow i b q a e e2
    exact ⟨a, e2, n, o, e3, h.anti sub⟩
  · obtain ⟨p1, f1⟩ := A.back e1
    obtain ⟨p2, f2⟩ := A.back e2
    exact R.inj i j b c p1 p2 a f1 f2 e3 e4
  · obtain ⟨e, p, e1⟩ := R.io i a h
    obtain ⟨q, e2⟩ := A.fwd e1
    exact ⟨e, q, e2⟩
/-- a slot's own object given away -/
theorem RE.release {i : Nat} {p : PV} (R : RE K G H σ ρ pd) (e : ρ[i]? = some (Sl.own false p)) : ∃ a o, σ[i]? = some (some (V.ref a)) ∧ G.keep a = none ∧ RE K (G.add a o) H σ (ρ.set i Sl.un) pd ∧ OwnO K H (WS (G.add a o) σ (ρ.set i Sl.un)) p o := by
  obtain ⟨a, ea, k, o, Ha, w⟩ := R.own i false p e
  have sub : ∀ b, WS (G.add a o) σ (ρ.set i Sl.un) b → WS G σ ρ b := fun b w => by
    rcases w with (w | w) | ⟨j, c, q, e1, e2⟩
    · rw [w]; exact .inr ⟨i, false, p, e, ea⟩
    · exact .inl w
    · rcases ix_set e1 with ⟨_, z, _⟩ | ⟨ne, e1⟩
      · cases z
      · exact .inr ⟨j, c, q, e1, e2⟩
  refine ⟨a, o, ea, k, ⟨by simp [R.len], fun j q e1 => ?_, fun j c q e1 => ?_, fun j k b c q r a e1 e2 e3 e4 => ?_, fun x ax hx => ?_, fun b u e1 => ?_, fun b w => ?_, fun x hx => Is.anti sub _ _ (R.pd x hx)⟩, w.anti sub⟩
  · rcases ix_set e1 with ⟨_, z, _⟩ | ⟨ne, e1⟩
    · cases z
    · obtain ⟨w, e2, h⟩ := R.val j q e1
      exact ⟨w, e2, Is.anti sub _ _ h⟩
  · rcases ix_set e1 with ⟨_, z, _⟩ | ⟨ne, e1⟩
    · cases z
    · obtain ⟨d, e2, k1, u, e3, h⟩ := R.own j c q e1
      have nd : d ≠ a := fun z => ne (R.inj i j _ _ _ _ a e e1 ea (by rw [← z]; exact e2))
      exact ⟨d, e2, by show upd G.keep a o d = none; rw [upd_ne nd]; exact k1, u, e3, h.anti sub⟩
  · rcases ix_set e1 with ⟨_, z, _⟩ | ⟨n1, e1⟩
    · cases z
    rcases ix_set e2 with ⟨_, z, _⟩ | ⟨n2, e2⟩
    · cases z
    exact R.inj j k b c q r a e1 e2 e3 e4
  · obtain ⟨e1, q, e2⟩ := R.io x ax hx
    have ne : i ≠ x := fun z => by rw [z, e2] at e; cases e
    exact ⟨e1, q, by rw [ix_ne ne]; exact e2⟩
  · by_cases q : b = a
    · rw [q] at e1
      have e2 : upd G.keep a o a = some u := e1
      rw [upd_same] at e2; cases e2
      rw [q]; exact Ha
    · have e2 : upd G.keep a o b = some u := e1
      rw [upd_ne q] at e2
      exact R.keep b u e2
  · rcases w with w' | w'
    · rw [w']; exact ⟨o, upd_same, w.mut⟩
    · obtain ⟨u, e1, m1⟩ := R.exk b w'
      have ne : b ≠ a := fun z => by rw [z, k] at e1; cases e1
      exact ⟨u, by show upd G.keep a o b = some u; rw [upd_ne ne]; exact e1, m1⟩
end
end Px
set_option Elab.async false
set_option linter.all false
set_option maxRecDepth 100000
namespace Px
open PySem L2 PySem.AutoSeq1 PySem.Spec PyProof.Rows
set_option maxRecDepth 8000 in
theorem list_extend_tuple (l : Addr) (items : Array Value) (n : Nat) (b : Addr) (items2 : Array Value) (n2 : Nat) (dd : Option Addr) (sl : Array (Option Value)) (hs0 : ¬(!items.isEmpty && Builtin.List.listTooLong (items.size + items2.size)) = true) (hs1 : items.size ≤ sizeLine) (hs2 : items.size + items2.size ≤ sizeLine + 1) :
    Meets (Builtin.«list.extend» ⟨[.ref l, .ref b], []⟩) (fun _ R s => s.heap.get? l = some { cls := .type "list", dict := none, data := .seq items n, slots := #[] } ∧ s.heap.get? b = some { cls := .type "tuple", dict := dd, data := .seq items2 n2, slots := sl } ∧ R (.ok (.ret Value.none)) { s with heap := s.heap.update l (Obj.mapSeq fun x => x ++ items2), toks := s.toks }) :=
  .of_wp fun prog w A R s h => by
    obtain ⟨hp, g, d, tk, os⟩ := s; obtain ⟨hl, hb, h⟩ := h; have f1 := AutoSeq1.idx_int; have f2 := AutoSeq1.sub_tuple_tuple; have f3 := AutoSeq1.sub_list_list; have f4 := AutoSeq1.sub_tuple_list; have f5 := AutoSeq1.sub_list_tuple;
    have hz' : (items ++ items2).size ≤ sizeLine + 1 := by rw [Array.size_append]; exact hs2
    wp_walk using (wpAny_updateSeq hl rfl (hz := hs1) (_hz' := hz')), wpAny_loadPart' hl, wpAny_loadPart' hb; exact ⟨_, rfl, h⟩
def rExtT (K : PySem.W.Frag) : V → List V → Hp → VK → Prop := fun x vs H Q => ∃ l b xs zs, x = .ref l ∧ vs = [.ref b] ∧ H l = some (.lst xs) ∧ SqT K H b zs ∧ xs.length + zs.length ≤ sizeLine ∧ Q .non (upd H l (.lst (xs ++ zs)))
theorem mt_extT {X : Cx} : MtR X "list.extend" (rExtT X.K) := by
  intro pins s σ H x vs v us Q I rx rv h
  obtain ⟨l, b, xs, zs, rfl, rfl, hH, hB, hz, q⟩ := h
  cases rx
  obtain ⟨u, rfl, ru⟩ := rv.one
  cases ru
  obtain ⟨z, its, n, r, hl, e⟩ := I.lstM hH
  obtain ⟨its2, r2, ⟨⟨cls, dd, data, sl⟩, e2, c2, n2, d2⟩, z2⟩ := I.tuple hB
  simp only at c2 d2
  subst c2 d2
  have hl2 : its2.length = zs.length := r2.length.symm
  have hsz : its.toArray.size + its2.toArray.size ≤ sizeLine := by rw [List.size_toArray, List.size_toArray]; omega
  have hlong : ¬ (!its.toArray.isEmpty && Builtin.List.listTooLong (its.toArray.size + its2.toArray.size)) = true := by
    rw [notLongL hsz, Bool.and_false]
    exact Bool.false_ne_true
  refine call_meets F.slot_list_extend ⟨_, e, rfl⟩ F.entry_list_extend (F.args_list_extend_2 _ _)
    (list_extend_tuple l its.toArray n b its2.toArray n2 dd sl hlong (by rw [List.size_toArray]; omega) (by omega)) ⟨e, e2, ?_⟩
  refine ⟨.non, _, I.lset (its' := its ++ its2) hH e (by simp) (r.append r2) ?_, rfl, q⟩
  rw [List.length_append]
  omega
end Px
namespace Px
open PySem L2

/-! ### what an expression gives: a value; a slot that owns (looked at, not taken); a new object of its own -/
inductive R where
  | pv (p : PV) | sl (i : Nat) | fr (p : PV)
abbrev exkOk (G : Gd) : Prop := ∀ b, G.ex b → ∃ o, G.keep b = some o ∧ Mut (some o)
def Res (K : PySem.W.Frag) (G : Gd) (H : Hp) (σ : L2.St) (ρ : En) (pd : Pds) : R → V → Prop
  | .pv p, v => RE K G H σ ρ ((p, v) :: pd)
  | .sl i, v => RE K G H σ ρ pd ∧ σ[i]? = some (some v) ∧ ∃ b p, ρ[i]? = some (Sl.own b p)
  | .fr p, v => ∃ a o, v = .ref a ∧ G.keep a = none ∧ exkOk G ∧ RE K (G.add a o) H σ ρ pd ∧ OwnO K H (WS (G.add a o) σ ρ) p o
def R.wk : R → R
  | .fr p => .pv p
  | r => r
def R.look (ρ : En) : R → Option PV
  | .pv p => some p
  | .fr p => some p
  | .sl i => match ρ[i]? with
    | some (Sl.own _ p) => some p
    | _ => none
def ArgR (σ : L2.St) (pd : Pds) : R → V → Prop
  | .pv p, v => (p, v) ∈ pd
  | .sl i, v => σ[i]? = some (some v)
  | .fr _, _ => False
theorem look_wk (ρ : En) (r : R) : r.wk.look ρ = r.look ρ := by cases r <;> rfl
section
variable {K : PySem.W.Frag} {G : Gd} {H H' : Hp} {σ : L2.St} {ρ : En} {pd pd' : Pds} {r : R} {v : V}
theorem Res.weak {p : PV} (h : Res K G H σ ρ pd (.fr p) v) : Res K G H σ ρ pd (.pv p) v := by
  obtain ⟨a, o, rfl, n, kx, R1, q⟩ := h
  obtain ⟨R2, nW, Ha⟩ := R1.unadd n kx
  exact R2.push (q.is Ha (fun b w => w.elim (fun w => .inl (.inr w)) .inr) nW)
theorem Res.wk (h : Res K G H σ ρ pd r v) : Res K G H σ ρ pd r.wk v := by
  cases r with
  | fr p => exact h.weak
  | _ => exact h
theorem Res.arg (h : Res K G H σ ρ pd r v) : ∃ pd', (∀ x ∈ pd, x ∈ pd') ∧ RE K G H σ ρ pd' ∧ ArgR σ pd' r.wk v := by
  cases r with
  | pv p => exact ⟨_, fun x hx => List.mem_cons_of_mem _ hx, h, List.mem_cons_self⟩
  | fr p => exact ⟨_, fun x hx => List.mem_cons_of_mem _ hx, h.weak, List.mem_cons_self⟩
  | sl i => exact ⟨pd, fun _ hx => hx, h.1, h.2.1⟩
theorem ArgR.mono (s : ∀ x ∈ pd, x ∈ pd') (h : ArgR σ pd r v) : ArgR σ pd' r v := by
  cases r with
  | pv p => exact s _ h
  | fr p => exact h
  | sl i => exact h
/-- a value as it is looked at (it may be a slot's own) -/
def Lk (K : PySem.W.Frag) (H : Hp) (W : Addr → Prop) : PV → V → Prop
  | .lst ps, v => ∃ a vs, v = .ref a ∧ H a = some (.lst vs) ∧ Iss K H W ps vs
  | .dic ks ps, v => ∃ a vs, v = .ref a ∧ Rd H a (.dK (ks.zip vs)) ∧ ks.length = vs.length ∧ ks.all keyOk = true ∧ Iss K H W ps vs
  | p, v => Is K H W p v
theorem Is.lk {W : Addr → Prop} {p : PV} (h : Is K H W p v) : Lk K H W p v := by
  cases p with
  | lst ps => obtain ⟨a, vs, e, _, q⟩ := h; exact ⟨a, vs, e, q⟩
  | dic ks ps => obtain ⟨a, vs, e, _, q⟩ := h; exact ⟨a, vs, e, q⟩
  | _ => exact h
theorem OwnO.lk {W : Addr → Prop} {p : PV} {o : HO} {a : Addr} (h : OwnO K H W p o) (e : H a = some o) : Lk K H W p (.ref a) := by
  cases p <;> cases o <;> first
    | exact h.elim
    | exact ⟨a, _, rfl, e, h⟩
    | (obtain ⟨vs, e1, l, kk, q⟩ := h; subst e1; exact ⟨a, vs, rfl, .inl e, l, kk, q⟩)
theorem ArgR.lk {p : PV} (R1 : RE K G H σ ρ pd) (h : ArgR σ pd r v) (l : r.look ρ = some p) : Lk K H (WS G σ ρ) p v := by
  cases r with
  | pv q => cases l; exact (R1.pd _ h).lk
  | fr q => exact h.elim
  | sl i =>
    simp only [R.look] at l
    cases e : ρ[i]? with
    | none => rw [e] at l; cases l
    | some s =>
      rw [e] at l
      cases s with
      | un => cases l
      | val q => cases l
      | own b q =>
        cases l
        obtain ⟨a, e1, _, o, e2, q1⟩ := R1.own i b _ e
        have e3 : σ[i]? = some (some v) := h
        rw [e3] at e1; cases e1
        exact q1.lk e2
end

abbrev PK1 := R → En → Prop
/-- keeps simp out of what it is of -/
inductive Dum {α : Type} (a : α) : Type where | mk
abbrev QT := En → PK1 → Prop
/-- the reading te does what t says -/
def Rz (K : PySem.W.Frag) (te : TE) (t : QT) : Prop := ∀ (G : Gd) (H : Hp) (σ : L2.St) (ρ : En) (pd : Pds) (Q : PK1) (F : VK), RE K G H σ ρ pd → t ρ Q → (∀ r ρ' v H', Res K G H' σ ρ' pd r v → Q r ρ' → F v H') → te σ H F
structure QE (X : Cx) (e : Expr) (t : QT) : Prop where
  ex : ∃ te, PE X e te ∧ Rz X.K te t
abbrev QTT := En → (Bool → En → Prop) → Prop
def RzT (K : PySem.W.Frag) (tt : TT) (t : QTT) : Prop := ∀ (G : Gd) (H : Hp) (σ : L2.St) (ρ : En) (pd : Pds) (Q : Bool → En → Prop) (F : Bool → Hp → Prop), RE K G H σ ρ pd → t ρ Q → (∀ b ρ' H', RE K G H' σ ρ' pd → Q b ρ' → F b H') → tt σ H F
structure QC (X : Cx) (e : Expr) (t : QTT) : Prop where
  ex : ∃ tt, PT X e tt ∧ RzT X.K tt t
structure QW (X : Cx) (e : Expr) (t : QTT) : Prop where
  ex : ∃ tt, PW X e tt ∧ RzT X.K tt t
/-- arguments -/
abbrev QTA := En → (List R → En → Prop) → Prop
inductive ArgsR (σ : L2.St) (pd : Pds) : List R → List V → Prop where
  | nil : ArgsR σ pd [] []
  | cons {r : R} {v : V} {rs : List R} {vs : List V} (h : ArgR σ pd r v) (t : ArgsR σ pd rs vs) : ArgsR σ pd (r :: rs) (v :: vs)
theorem ArgsR.mono {σ : L2.St} {pd pd' : Pds} {rs : List R} {vs : List V} (s : ∀ x ∈ pd, x ∈ pd') (h : ArgsR σ pd rs vs) : ArgsR σ pd' rs vs := by
  induction h with
  | nil => exact .nil
  | cons h _ ih => exact .cons (h.mono s) ih
def RzA (K : PySem.W.Frag) (ta : TA) (t : QTA) : Prop := ∀ (G : Gd) (H : Hp) (σ : L2.St) (ρ : En) (pd : Pds) (Q : List R → En → Prop) (F : List V → Hp → Prop), RE K G H σ ρ pd → t ρ Q →
  (∀ rs ρ' pd' vs H', (∀ x ∈ pd, x ∈ pd') → RE K G H' σ ρ' pd' → ArgsR σ pd' rs vs → Q rs ρ' → F vs H') → ta σ H F
structure QA (X : Cx) (es : List Expr) (t : QTA) : Prop where
  ex : ∃ ta, PA X es ta ∧ RzA X.K ta t
def looks (ρ : En) : List R → Option (List PV)
  | [] => some []
  | r :: rs => match r.look ρ, looks ρ rs with
    | some p, some ps => some (p :: ps)
    | _, _ => none
inductive Lks (K : PySem.W.Frag) (H : Hp) (W : Addr → Prop) : List PV → List V → Prop where
  | nil : Lks K H W [] []
  | cons {p : PV} {v : V} {ps : List PV} {vs : List V} (h : Lk K H W p v) (t : Lks K H W ps vs) : Lks K H W (p :: ps) (v :: vs)
theorem ArgsR.lks {K : PySem.W.Frag} {G : Gd} {H : Hp} {σ : L2.St} {ρ : En} {pd : Pds} (R1 : RE K G H σ ρ pd) : ∀ {rs : List R} {vs : List V} {ps : List PV}, ArgsR σ pd rs vs → looks ρ rs = some ps → Lks K H (WS G σ ρ) ps vs
  | _, _, _, .nil, l => by cases l; exact .nil
  | r :: rs, _, _, .cons h t, l => by
    unfold looks at l
    cases e1 : r.look ρ with
    | none => rw [e1] at l; simp at l
    | some p =>
      cases e2 : looks ρ rs with
      | none => rw [e1, e2] at l; simp at l
      | some qs =>
        rw [e1, e2] at l
        cases l
        exact .cons (h.lk R1 e1) (ArgsR.lks R1 t e2)

/-! ### operations by values -/
def ResV (K : PySem.W.Frag) (H : Hp) (W : Addr → Prop) (H' : Hp) : R → V → Prop
  | .pv z, v => Is K H' W z v
  | .fr z, v => ∃ a o, v = .ref a ∧ H a = none ∧ H' a = some o ∧ OwnO K H' (fun b => b = a ∨ W b) z o
  | .sl _, _ => False
theorem res_of {K : PySem.W.Frag} {G : Gd} {H H' : Hp} {σ : L2.St} {ρ : En} {pd : Pds} {z : R} {v : V} (R1 : RE K G H σ ρ pd) (s : Same H H') (h : ResV K H (WS G σ ρ) H' z v) : Res K G H' σ ρ pd z v := by
  cases z with
  | pv z => exact (R1.same s).push h
  | sl i => exact h.elim
  | fr z =>
    obtain ⟨a, o, rfl, n, e, w⟩ := h
    have kn : G.keep a = none := by
      cases q : G.keep a with
      | none => rfl
      | some u => rw [R1.keep a u q] at n; cases n
    exact ⟨a, o, rfl, kn, R1.exk, R1.add n s e w.mut, w.anti fun b w => by rcases w with (w | w) | w; exact .inl w; exact .inr (.inl w); exact .inr (.inr w)⟩
abbrev G2 := PV → PV → (R → Prop) → Prop
def Real2 (K : PySem.W.Frag) (r : R2) (g : G2) : Prop := ∀ (H : Hp) (W : Addr → Prop) (p q : PV) (x y : V) (Q : R → Prop) (F : VK), MutT H W → Lk K H W p x → Lk K H W q y → g p q Q → (∀ v H' z, Same H H' → ResV K H W H' z v → Q z → F v H') → r x y H F
abbrev GL := List PV → (R → Prop) → Prop
def RealL (K : PySem.W.Frag) (r : List V → Hp → VK → Prop) (g : GL) : Prop := ∀ (H : Hp) (W : Addr → Prop) (ps : List PV) (xs : List V) (Q : R → Prop) (F : VK), MutT H W → Lks K H W ps xs → g ps Q → (∀ v H' z, Same H H' → ResV K H W H' z v → Q z → F v H') → r xs H F
theorem Real2.or {K : PySem.W.Frag} {r r' : R2} {g g' : G2} (h : Real2 K r g) (h' : Real2 K r' g') : Real2 K (fun x y H Q => r x y H Q ∨ r' x y H Q) (fun p q Q => g p q Q ∨ g' p q Q) := fun H W p q x y Q F m l1 l2 z f => z.elim (fun z => .inl (h H W p q x y Q F m l1 l2 z f)) (fun z => .inr (h' H W p q x y Q F m l1 l2 z f))
def OpP (X : Cx) (f : Value → Value → Sem Value) (g : G2) : Prop := ∃ r, OpR X f r ∧ Real2 X.K r g
def CallP (X : Cx) (f : Value) (g : GL) : Prop := ∃ r, CallR X f r ∧ RealL X.K r g
def IxP (X : Cx) (g : G2) : Prop := ∃ r, IxR X r ∧ Real2 X.K r g

def qOp2 (g : G2) (ta tb : QT) (ρ : En) (Q : PK1) : Prop := ta ρ fun r1 ρ1 => tb ρ1 fun r2 ρ2 => match r1.look ρ2, r2.look ρ2 with
  | some p, some q => g p q fun z => Q z ρ2
  | _, _ => False
theorem rz_op2 {K : PySem.W.Frag} {r : R2} {g : G2} {ta tb : TE} {qa qb : QT} (hr : Real2 K r g) (ha : Rz K ta qa) (hb : Rz K tb qb) : Rz K (tOp r ta tb) (qOp2 g qa qb) := by
  intro G H σ ρ pd Q F R1 h f
  refine ha G H σ ρ pd _ _ R1 h fun r1 ρ1 x H1 s1 h1 => ?_
  obtain ⟨pd1, sb1, R2, a1⟩ := s1.arg
  refine hb G H1 σ ρ1 pd1 _ _ R2 h1 fun r2 ρ2 y H2 s2 h2 => ?_
  obtain ⟨pd2, sb2, R3, a2⟩ := s2.arg
  cases e1 : r1.look ρ2 with
  | none => rw [e1] at h2; exact h2.elim
  | some p =>
    cases e2 : r2.look ρ2 with
    | none => rw [e1, e2] at h2; exact h2.elim
    | some q =>
      rw [e1, e2] at h2
      refine hr H2 _ p q x y _ F R3.mut ((a1.mono sb2).lk R3 (by rw [look_wk]; exact e1)) (a2.lk R3 (by rw [look_wk]; exact e2)) h2 fun v H' z sm rv hq => ?_
      refine f z ρ2 v H' ?_ hq
      exact res_of (R3.pds fun x hx => sb2 x (sb1 x hx)) sm rv

section
variable {X : Cx} {a b c e : Expr} {es : List Expr} {ta tb tc te : QT} {tt tu : QTT} {tr : QTA} {pos : Pos}
theorem qe_op {op : Operator} {g : G2} (ho : OpP X (binaryOp op) g) (ha : QE X a ta) (hb : QE X b tb) : QE X (.BinOp a op b pos) (qOp2 g ta tb) := by
  obtain ⟨r, h1, h2⟩ := ho
  obtain ⟨t1, p1, q1⟩ := ha.ex
  obtain ⟨t2, p2, q2⟩ := hb.ex
  exact ⟨_, pe_op h1 p1 p2, rz_op2 h2 q1 q2⟩
theorem qe_cmp {op : CmpOp} {g : G2} (ho : OpP X (compareOp op) g) (ha : QE X a ta) (hb : QE X b tb) (hm : behindInMarks op b = false := by first | exact nomark _ (by decide) (by decide) | rfl) : QE X (.Compare a [op] [b] pos) (qOp2 g ta tb) := by
  obtain ⟨r, h1, h2⟩ := ho
  obtain ⟨t1, p1, q1⟩ := ha.ex
  obtain ⟨t2, p2, q2⟩ := hb.ex
  exact ⟨_, pe_cmpR h1 p1 p2 hm, rz_op2 h2 q1 q2⟩
theorem qe_ix {g : G2} (ho : IxP X g) (ha : QE X a ta) (hb : QE X b tb) (hs : PlainIx b := by intro _ _; rfl) : QE X (.Subscript a b pos) (qOp2 g ta tb) := by
  obtain ⟨r, h1, h2⟩ := ho
  obtain ⟨t1, p1, q1⟩ := ha.ex
  obtain ⟨t2, p2, q2⟩ := hb.ex
  exact ⟨_, pe_ix h1 p1 p2 hs, rz_op2 h2 q1 q2⟩
/-- a test that is a comparison -/
def qB (t : QT) (ρ : En) (Q : Bool → En → Prop) : Prop := t ρ fun r ρ1 => match r with
  | .pv (.bl k) => Q k ρ1
  | _ => False
theorem qc_cmp {op : CmpOp} {g : G2} (ho : OpP X (compareOp op) g) (ha : QE X a ta) (hb : QE X b tb) (hm : behindInMarks op b = false := by first | exact nomark _ (by decide) (by decide) | rfl) : QC X (.Compare a [op] [b] pos) (qB (qOp2 g ta tb)) := by
  obtain ⟨r, h1, h2⟩ := ho
  obtain ⟨t1, p1, q1⟩ := ha.ex
  obtain ⟨t2, p2, q2⟩ := hb.ex
  refine ⟨_, pt_cmpR h1 p1 p2 hm, fun G H σ ρ pd Q F R1 h f => ?_⟩
  refine rz_op2 h2 q1 q2 G H σ ρ pd _ _ R1 h fun r ρ' v H' s hq => ?_
  cases r with
  | pv p =>
    cases p with
    | bl k =>
      have e : v = .bl k := s.pd (.bl k, v) List.mem_cons_self
      exact ⟨k, e, f k ρ' H' s.tl hq⟩
    | _ => exact hq.elim
  | _ => exact hq.elim

/-! ### names, constants -/
def qVar (i : Nat) (ρ : En) (Q : PK1) : Prop := match ρ[i]? with
  | some (.val p) => Q (.pv p) ρ
  | some (.own _ _) => Q (.sl i) ρ
  | _ => False
theorem rz_var {K : PySem.W.Frag} {i : Nat} : Rz K (tVar i) (qVar i) := by
  intro G H σ ρ pd Q F R1 h f
  unfold qVar at h
  cases e : ρ[i]? with
  | none => rw [e] at h; exact h.elim
  | some s =>
    rw [e] at h
    cases s with
    | un => exact h.elim
    | val p =>
      obtain ⟨v, e1, q⟩ := R1.val i p e
      exact ⟨v, e1, f (.pv p) ρ v H (R1.push q) h⟩
    | own b p =>
      obtain ⟨a, e1, _⟩ := R1.own i b p e
      exact ⟨.ref a, e1, f (.sl i) ρ (.ref a) H ⟨R1, e1, b, p, e⟩ h⟩
theorem qv (i : Nat) {x : Str} {pos : Pos} (hN : X.N[i]? = some x := by rfl) (hv : Vis X.env.scope x := by first | exact Or.inl rfl | exact Or.inr (Or.inl rfl) | exact Or.inr (Or.inr rfl)) (hd : (x == ("__debug__" : Str)) = false := by decide)
    (hcd : (x == ("__classdict__" : Str)) = false := by decide) : QE X (.Name x pos) (qVar i) := ⟨_, pe_var hN hv hd hcd, rz_var⟩
def qK (p : PV) (ρ : En) (Q : PK1) : Prop := Q (.pv p) ρ
theorem rz_c {K : PySem.W.Frag} {p : PV} {v : V} (h : ∀ H W, Is K H W p v) : Rz K (tC v) (qK p) := by
  intro G H σ ρ pd Q F R1 hq f
  exact f (.pv p) ρ v H (R1.push (h _ _)) hq
theorem qe_int {i : Int} {j : Nat} : QE X (.Constant (.int i) j pos) (qK (.int i)) := ⟨_, pe_int, rz_c fun _ _ => rfl⟩
theorem qe_bl {i : Bool} {j : Nat} : QE X (.Constant (.bool i) j pos) (qK (.bl i)) := ⟨_, pe_bl, rz_c fun _ _ => rfl⟩
theorem qe_non {j : Nat} : QE X (.Constant .none j pos) (qK .non) := ⟨_, pe_non, rz_c fun _ _ => rfl⟩
theorem qe_str {s : Str} {j : Nat} (h : sOk s = true := by decide +kernel) : QE X (.Constant (.str s) j pos) (qK (.str s)) := ⟨_, pe_str, rz_c fun _ _ => ⟨rfl, h⟩⟩

/-! ### arguments, displays -/
def qNil (ρ : En) (Q : List R → En → Prop) : Prop := Q [] ρ
def qCons (t : QT) (r : QTA) (ρ : En) (Q : List R → En → Prop) : Prop := t ρ fun x ρ1 => r ρ1 fun xs ρ2 => Q (x.wk :: xs) ρ2
theorem qa_nil : QA X [] qNil := ⟨_, pa_nil, fun G H σ ρ pd Q F R1 h f => f [] ρ pd [] H (fun _ h => h) R1 .nil h⟩
theorem rz_cons {K : PySem.W.Frag} {t : TE} {ts : TA} {q : QT} {qs : QTA} (h1 : Rz K t q) (h2 : RzA K ts qs) : RzA K (tCons t ts) (qCons q qs) := by
  intro G H σ ρ pd Q F R1 h f
  refine h1 G H σ ρ pd _ _ R1 h fun r1 ρ1 x H1 s1 g1 => ?_
  obtain ⟨pd1, sb1, R2, a1⟩ := s1.arg
  refine h2 G H1 σ ρ1 pd1 _ _ R2 g1 fun rs ρ2 pd2 vs H2 sb2 R3 a2 g2 => ?_
  exact f _ ρ2 pd2 _ H2 (fun x hx => sb2 x (sb1 x hx)) R3 (.cons (a1.mono sb2) a2) g2
theorem qa_cons (ha : QE X e te) (hr : QA X es tr) (hs : starEach (e :: es) X.env = (false, eval e X.env) :: starEach es X.env := by rfl) : QA X (e :: es) (qCons te tr) := by
  obtain ⟨t1, p1, q1⟩ := ha.ex
  obtain ⟨t2, p2, q2⟩ := hr.ex
  exact ⟨_, pa_cons p1 p2 hs, rz_cons q1 q2⟩
/-- all of them values -/
def vals : List R → Option (List PV)
  | [] => some []
  | .pv p :: rs => (vals rs).map (p :: ·)
  | _ :: _ => none
theorem vals_iss {K : PySem.W.Frag} {G : Gd} {H : Hp} {σ : L2.St} {ρ : En} {pd : Pds} (R1 : RE K G H σ ρ pd) : ∀ {rs : List R} {vs : List V} {ps : List PV}, ArgsR σ pd rs vs → vals rs = some ps → Iss K H (WS G σ ρ) ps vs
  | _, _, _, .nil, l => by cases l; exact rfl
  | r :: rs, v :: vs, ps, .cons h t, l => by
    cases r with
    | sl i => cases l
    | fr p => cases l
    | pv p =>
      have l' : (vals rs).map (p :: ·) = some ps := l
      cases e : vals rs with
      | none => rw [e] at l'; cases l'
      | some qs =>
        rw [e] at l'
        cases l'
        exact ⟨v, vs, rfl, R1.pd _ h, vals_iss R1 t e⟩
def small (n : Nat) : Prop := n ≤ sizeLine
theorem small_le {n : Nat} (h : small n) : n ≤ sizeLine := h
theorem small_lt {n : Nat} (h : small (n + 1)) : n < sizeLine := Nat.lt_of_succ_le h
theorem small_of {n : Nat} (h : n ≤ 1000000) : small n := Nat.le_trans h (by decide)
def qTup (t : QTA) (ρ : En) (Q : PK1) : Prop := t ρ fun rs ρ1 => match vals rs with
  | some ps => small ps.length ∧ Q (.pv (.tup ps)) ρ1
  | none => False
def qLst (t : QTA) (ρ : En) (Q : PK1) : Prop := t ρ fun rs ρ1 => match vals rs with
  | some ps => small ps.length ∧ Q (.fr (.lst ps)) ρ1
  | none => False
theorem same_new {H : Hp} {a : Addr} {o : HO} (h : H a = none) : Same H (upd H a o) := fun b u q => by rw [upd_ne (ne_of_none q h)]; exact q
theorem issNew {K : PySem.W.Frag} {H : Hp} {W : Addr → Prop} {a : Addr} {o : HO} {ps : List PV} {vs : List V} (m : MutT H W) (h : Iss K H W ps vs) (n : H a = none) : Iss K (upd H a o) (fun b => b = a ∨ W b) ps vs :=
  Iss.move (fun b o e _ => same_new n b o e) m (fun b t w => by
    rcases w with w | w
    · obtain ⟨u, t⟩ := t; rw [w, n] at t; cases t
    · exact w) ps vs h
theorem isNew {K : PySem.W.Frag} {H : Hp} {W : Addr → Prop} {a : Addr} {o : HO} {p : PV} {v : V} (m : MutT H W) (h : Is K H W p v) (n : H a = none) : Is K (upd H a o) W p v :=
  Is.move (fun b o e _ => same_new n b o e) m (fun b t w => w) p v h
theorem issNew' {K : PySem.W.Frag} {H : Hp} {W : Addr → Prop} {a : Addr} {o : HO} {ps : List PV} {vs : List V} (m : MutT H W) (h : Iss K H W ps vs) (n : H a = none) : Iss K (upd H a o) W ps vs :=
  Iss.move (fun b o e _ => same_new n b o e) m (fun b t w => w) ps vs h
theorem resLst {K : PySem.W.Frag} {H : Hp} {W : Addr → Prop} {a : Addr} {ps : List PV} {vs : List V} (m : MutT H W) (h : Iss K H W ps vs) (n : H a = none) : ResV K H W (upd H a (.lst vs)) (.fr (.lst ps)) (.ref a) :=
  ⟨a, _, rfl, n, upd_same, issNew m h n⟩
theorem resTup {K : PySem.W.Frag} {H : Hp} {W : Addr → Prop} {a : Addr} {ps : List PV} {vs : List V} (m : MutT H W) (h : Iss K H W ps vs) (n : H a = none) : ResV K H W (upd H a (.tup vs)) (.pv (.tup ps)) (.ref a) :=
  ⟨a, vs, rfl, upd_same, issNew' m h n⟩
theorem qe_tup {k : Nat} (h : QA X es tr) : QE X (.Tuple es k pos) (qTup tr) := by
  obtain ⟨t, p, q⟩ := h.ex
  refine ⟨_, pe_tup p, fun G H σ ρ pd Q F R1 hw f => ?_⟩
  refine q G H σ ρ pd _ _ R1 hw fun rs ρ1 pd1 vs H1 sb R2 a g => ?_
  cases e : vals rs with
  | none => rw [e] at g; exact g.elim
  | some ps =>
    rw [e] at g
    have hi := vals_iss R2 a e
    exact ⟨by rw [← hi.length]; exact g.1, fun p hp => f _ ρ1 _ _ (res_of (R2.pds sb) (same_new hp) (resTup R2.mut hi hp)) g.2⟩
theorem qe_lst (h : QA X es tr) : QE X (.List es pos) (qLst tr) := by
  obtain ⟨t, p, q⟩ := h.ex
  refine ⟨_, pe_lst p, fun G H σ ρ pd Q F R1 hw f => ?_⟩
  refine q G H σ ρ pd _ _ R1 hw fun rs ρ1 pd1 vs H1 sb R2 a g => ?_
  cases e : vals rs with
  | none => rw [e] at g; exact g.elim
  | some ps =>
    rw [e] at g
    have hi := vals_iss R2 a e
    exact ⟨by rw [← hi.length]; exact g.1, fun p hp => f _ ρ1 _ _ (res_of (R2.pds sb) (same_new hp) (resLst R2.mut hi hp)) g.2⟩

/-! ### calls of built-ins -/
def qCB (g : GL) (t : QTA) (ρ : En) (Q : PK1) : Prop := t ρ fun rs ρ1 => match looks ρ1 rs with
  | some ps => g ps fun z => Q z ρ1
  | none => False
theorem rz_cb {K : PySem.W.Frag} {r : List V → Hp → VK → Prop} {g : GL} {t : TA} {q : QTA} (hr : RealL K r g) (h : RzA K t q) : Rz K (tCB r t) (qCB g q) := by
  intro G H σ ρ pd Q F R1 hw f
  refine h G H σ ρ pd _ _ R1 hw fun rs ρ1 pd1 vs H1 sb R2 a g1 => ?_
  cases e : looks ρ1 rs with
  | none => rw [e] at g1; exact g1.elim
  | some ps =>
    rw [e] at g1
    exact hr H1 _ ps vs _ F R2.mut (a.lks R2 e) g1 fun v H' z sm rv hq => f z ρ1 v H' (res_of (R2.pds sb) sm rv) hq
theorem qe_callB {id : String} {x : Str} {p : Pos} {g : GL} (hc : CallP X (.builtin id) g) (hm : X.mg x = none) (ha : QA X (e :: es) tr) (hg : Gl X x := by rfl) (hv : bootBuiltins x = some (.builtin id) := by decide +kernel) (hn : x ≠ "__name__" := by decide) (hdb : (x == ("__debug__" : Str)) = false := by decide)
    (he : starEach (e :: es) X.env = (false, eval e X.env) :: starEach es X.env := by rfl) (hpl : (backTo pos (starEach es X.env)).any (·.1) = false := by rfl) : QE X (.Call (.Name x p) (e :: es) [] pos) (qCB g tr) := by
  obtain ⟨r, h1, h2⟩ := hc
  obtain ⟨t, p1, q⟩ := ha.ex
  exact ⟨_, pe_callB h1 hg hm hv p1 hn hdb he hpl, rz_cb h2 q⟩
theorem qe_callTy {T : String} {x : Str} {p : Pos} {g : GL} (hc : CallP X (.type T) g) (hm : X.mg x = none) (ha : QA X (e :: es) tr) (hg : Gl X x := by rfl) (hv : bootBuiltins x = some (.type T) := by decide +kernel) (hn : x ≠ "__name__" := by decide) (hdb : (x == ("__debug__" : Str)) = false := by decide)
    (he : starEach (e :: es) X.env = (false, eval e X.env) :: starEach es X.env := by rfl) (hpl : (backTo pos (starEach es X.env)).any (·.1) = false := by rfl) : QE X (.Call (.Name x p) (e :: es) [] pos) (qCB g tr) := by
  obtain ⟨r, h1, h2⟩ := hc
  obtain ⟨t, p1, q⟩ := ha.ex
  exact ⟨_, pe_callTy h1 hg hm hv p1 hn hdb he hpl, rz_cb h2 q⟩
end
end Px
namespace Px
open PySem L2

/-! ### tests -/
/-- both ways -/
def Br (c : Bool) (A B : Prop) : Prop := (c = true → A) ∧ (c = false → B)
theorem br_t {A B : Prop} : Br true A B ↔ A := ⟨fun h => h.1 rfl, fun h => ⟨fun _ => h, fun z => nomatch z⟩⟩
theorem br_f {A B : Prop} : Br false A B ↔ B := ⟨fun h => h.2 rfl, fun h => ⟨fun z => (nomatch z), fun _ => h⟩⟩
theorem Br.go {c : Bool} {A B C D : Prop} (h : Br c A B) (f : A → C) (g : B → D) : Br c C D := ⟨fun e => f (h.1 e), fun e => g (h.2 e)⟩
def truG : PV → (Bool → Prop) → Prop
  | .non, Q => Q false
  | .bl b, Q => Q b
  | .int i, Q => Q (i != 0)
  | .str s, Q => small s.length ∧ Q ((s.length : Int) != 0)
  | .tup ps, Q => Q (!ps.isEmpty)
  | .lst ps, Q => Q (!ps.isEmpty)
  | _, _ => False
theorem iss_empty {K : PySem.W.Frag} {H : Hp} {W : Addr → Prop} {ps : List PV} {vs : List V} (h : Iss K H W ps vs) : vs.isEmpty = ps.isEmpty := by
  cases ps with
  | nil => cases (show vs = [] from h); rfl
  | cons p ps => obtain ⟨v, r, e, _⟩ := h; subst e; rfl
theorem tru_of {K : PySem.W.Frag} {H : Hp} {W : Addr → Prop} {p : PV} {v : V} {Q : Bool → Prop} (h : Lk K H W p v) (q : truG p Q) : ∃ k, TruV K v H k ∧ Q k := by
  cases p with
  | non => cases (show v = .non from h); exact ⟨false, rfl, q⟩
  | bl b => cases (show v = .bl b from h); exact ⟨b, rfl, q⟩
  | int i => cases (show v = .int i from h); exact ⟨_, rfl, q⟩
  | str s =>
    obtain ⟨e, _⟩ : v = .str s ∧ sOk s = true := h
    subst e
    exact ⟨_, ⟨q.1, rfl⟩, q.2⟩
  | tup ps =>
    obtain ⟨a, vs, e, r, i⟩ : ∃ a vs, v = .ref a ∧ H a = some (.tup vs) ∧ Iss K H W ps vs := h
    subst e
    exact ⟨_, .inr (.inl ⟨vs, .inl (.inl r), rfl⟩), by rw [iss_empty i]; exact q⟩
  | lst ps =>
    obtain ⟨a, vs, e, r, i⟩ := h
    subst e
    exact ⟨_, .inl ⟨vs, .inl (.inl r), rfl⟩, by rw [iss_empty i]; exact q⟩
  | dic ks ps => exact q.elim
  | scr ns => exact q.elim
  | ty n => exact q.elim
def qTru (t : QT) (ρ : En) (Q : Bool → En → Prop) : Prop := t ρ fun r ρ1 => match r.look ρ1 with
  | some p => truG p fun b => Q b ρ1
  | none => False
section
variable {X : Cx} {a b c e : Expr} {es rest : List Expr} {ta tb tc te : QT} {tt tu : QTT} {tr : QTA} {pos : Pos}
/-- r.look, kept -/
theorem Res.lk {K : PySem.W.Frag} {G : Gd} {H : Hp} {σ : L2.St} {ρ : En} {pd : Pds} {r : R} {v : V} {p : PV} (h : Res K G H σ ρ pd r v) (l : r.look ρ = some p) : Lk K H (WS G σ ρ) p v := by
  obtain ⟨pd', _, R1, a⟩ := h.arg
  exact a.lk R1 (by rw [look_wk]; exact l)
theorem Res.re {K : PySem.W.Frag} {G : Gd} {H : Hp} {σ : L2.St} {ρ : En} {pd : Pds} {r : R} {v : V} (h : Res K G H σ ρ pd r v) : RE K G H σ ρ pd := by
  obtain ⟨pd', s, R1, a⟩ := h.arg
  exact R1.pds s
theorem qc_tru (ha : QE X a ta) (he : ∀ whole, isTrue a X.env whole = (do let v ← whole; standAt a.pos; holding [v] (truthy v)) := by intro _; rfl) : QC X a (qTru ta) := by
  obtain ⟨t1, p1, q1⟩ := ha.ex
  refine ⟨_, pt_truth p1 he, fun G H σ ρ pd Q F R1 h f => ?_⟩
  refine q1 G H σ ρ pd _ _ R1 h fun r ρ' v H' s hq => ?_
  cases e : r.look ρ' with
  | none => rw [e] at hq; exact hq.elim
  | some p =>
    rw [e] at hq
    obtain ⟨k, t, q⟩ := tru_of (s.lk e) hq
    exact ⟨k, t, f k ρ' H' s.re q⟩
def qAnd (t u : QTT) (ρ : En) (Q : Bool → En → Prop) : Prop := t ρ fun c ρ1 => Br c (u ρ1 Q) (Q false ρ1)
def qOr (t u : QTT) (ρ : En) (Q : Bool → En → Prop) : Prop := t ρ fun c ρ1 => Br c (Q true ρ1) (u ρ1 Q)
def qNot (t : QTT) (ρ : En) (Q : Bool → En → Prop) : Prop := t ρ fun c ρ1 => Q (!c) ρ1
theorem QW.qc (h : QW X e tt) : QC X e tt := by
  obtain ⟨t, p, q⟩ := h.ex
  exact ⟨t, p.pt, q⟩
theorem qw_and1 (ha : QC X a tt) : QW X (.BoolOp .And [a] pos) tt := by
  obtain ⟨t, p, q⟩ := ha.ex
  exact ⟨t, pw_and1 p, q⟩
theorem qw_or1 (ha : QC X a tt) : QW X (.BoolOp .Or [a] pos) tt := by
  obtain ⟨t, p, q⟩ := ha.ex
  exact ⟨t, pw_or1 p, q⟩
theorem qw_and (ha : QC X a tt) (hb : QW X (.BoolOp .And (b :: rest) pos) tu) : QW X (.BoolOp .And (a :: b :: rest) pos) (qAnd tt tu) := by
  obtain ⟨t1, p1, q1⟩ := ha.ex
  obtain ⟨t2, p2, q2⟩ := hb.ex
  refine ⟨_, pw_and p1 p2, fun G H σ ρ pd Q F R1 h f => ?_⟩
  refine q1 G H σ ρ pd _ _ R1 h fun c ρ1 H1 R2 g => ?_
  cases c with
  | true => exact (q2 G H1 σ ρ1 pd Q F R2 (g.1 rfl) f : _)
  | false => exact f false ρ1 H1 R2 (g.2 rfl)
theorem qw_or (ha : QC X a tt) (hb : QW X (.BoolOp .Or (b :: rest) pos) tu) : QW X (.BoolOp .Or (a :: b :: rest) pos) (qOr tt tu) := by
  obtain ⟨t1, p1, q1⟩ := ha.ex
  obtain ⟨t2, p2, q2⟩ := hb.ex
  refine ⟨_, pw_or p1 p2, fun G H σ ρ pd Q F R1 h f => ?_⟩
  refine q1 G H σ ρ pd _ _ R1 h fun c ρ1 H1 R2 g => ?_
  cases c with
  | true => exact f true ρ1 H1 R2 (g.1 rfl)
  | false => exact (q2 G H1 σ ρ1 pd Q F R2 (g.2 rfl) f : _)
theorem qc_not (ha : QC X a tt) : QC X (.UnaryOp .Not a pos) (qNot tt) := by
  obtain ⟨t, p, q⟩ := ha.ex
  exact ⟨_, pt_not p, fun G H σ ρ pd Q F R1 h f => q G H σ ρ pd _ _ R1 h fun c ρ1 H1 R2 g => f (!c) ρ1 H1 R2 g⟩
/-- x and y, x or y, not x as values -/
def qAndV (t u : QT) (ρ : En) (Q : PK1) : Prop := t ρ fun r ρ1 => match r.look ρ1 with
  | some p => truG p fun c => Br c (u ρ1 Q) (Q r.wk ρ1)
  | none => False
def qOrV (t u : QT) (ρ : En) (Q : PK1) : Prop := t ρ fun r ρ1 => match r.look ρ1 with
  | some p => truG p fun c => Br c (Q r.wk ρ1) (u ρ1 Q)
  | none => False
def qNotV (t : QT) (ρ : En) (Q : PK1) : Prop := t ρ fun r ρ1 => match r.look ρ1 with
  | some p => truG p fun c => Q (.pv (.bl (!c))) ρ1
  | none => False
theorem qe_one {op : BoolOp} (h : QE X a ta) : QE X (.BoolOp op [a] pos) ta := by
  obtain ⟨t, p, q⟩ := h.ex
  exact ⟨t, pe_one p, q⟩
theorem qe_and (ha : QE X a ta) (hb : QE X (.BoolOp .And (b :: rest) pos) tb) : QE X (.BoolOp .And (a :: b :: rest) pos) (qAndV ta tb) := by
  obtain ⟨t1, p1, q1⟩ := ha.ex
  obtain ⟨t2, p2, q2⟩ := hb.ex
  refine ⟨_, pe_andT p1 p2, fun G H σ ρ pd Q F R1 h f => ?_⟩
  refine q1 G H σ ρ pd _ _ R1 h fun r ρ1 v H1 s g => ?_
  cases e : r.look ρ1 with
  | none => rw [e] at g; exact g.elim
  | some p =>
    rw [e] at g
    obtain ⟨k, tk, q⟩ := tru_of (s.lk e) g
    refine ⟨k, tk, ?_⟩
    cases k with
    | true => exact (q2 G H1 σ ρ1 pd Q F s.re (q.1 rfl) f : _)
    | false => exact f _ ρ1 v H1 s.wk (q.2 rfl)
theorem qe_or (ha : QE X a ta) (hb : QE X (.BoolOp .Or (b :: rest) pos) tb) : QE X (.BoolOp .Or (a :: b :: rest) pos) (qOrV ta tb) := by
  obtain ⟨t1, p1, q1⟩ := ha.ex
  obtain ⟨t2, p2, q2⟩ := hb.ex
  refine ⟨_, pe_orT p1 p2, fun G H σ ρ pd Q F R1 h f => ?_⟩
  refine q1 G H σ ρ pd _ _ R1 h fun r ρ1 v H1 s g => ?_
  cases e : r.look ρ1 with
  | none => rw [e] at g; exact g.elim
  | some p =>
    rw [e] at g
    obtain ⟨k, tk, q⟩ := tru_of (s.lk e) g
    refine ⟨k, tk, ?_⟩
    cases k with
    | true => exact f _ ρ1 v H1 s.wk (q.1 rfl)
    | false => exact (q2 G H1 σ ρ1 pd Q F s.re (q.2 rfl) f : _)
theorem qe_not (ha : QE X a ta) : QE X (.UnaryOp .Not a pos) (qNotV ta) := by
  obtain ⟨t1, p1, q1⟩ := ha.ex
  refine ⟨_, pe_notT p1, fun G H σ ρ pd Q F R1 h f => ?_⟩
  refine q1 G H σ ρ pd _ _ R1 h fun r ρ1 v H1 s g => ?_
  cases e : r.look ρ1 with
  | none => rw [e] at g; exact g.elim
  | some p =>
    rw [e] at g
    obtain ⟨k, tk, q⟩ := tru_of (s.lk e) g
    exact ⟨k, tk, f (.pv (.bl (!k))) ρ1 _ H1 (s.re.push rfl) q⟩
def qIfE (t : QTT) (ta tb : QT) (ρ : En) (Q : PK1) : Prop := t ρ fun c ρ1 => Br c (ta ρ1 Q) (tb ρ1 Q)
theorem qe_ifExp (hc : QC X c tt) (ha : QE X a ta) (hb : QE X b tb) : QE X (.IfExp c a b pos) (qIfE tt ta tb) := by
  obtain ⟨t, p, q⟩ := hc.ex
  obtain ⟨t1, p1, q1⟩ := ha.ex
  obtain ⟨t2, p2, q2⟩ := hb.ex
  refine ⟨_, pe_ifExp p p1 p2, fun G H σ ρ pd Q F R1 h f => ?_⟩
  refine q G H σ ρ pd _ _ R1 h fun c ρ1 H1 R2 g => ?_
  cases c with
  | true => exact (q1 G H1 σ ρ1 pd Q F R2 (g.1 rfl) f : _)
  | false => exact (q2 G H1 σ ρ1 pd Q F R2 (g.2 rfl) f : _)

/-! ### slices -/
abbrev QTO := En → (Option Int → En → Prop) → Prop
structure QO (X : Cx) (e : Option Expr) (t : QTO) : Prop where
  ex : ∃ tO, PO X e tO ∧ ∀ (G : Gd) (H : Hp) (σ : L2.St) (ρ : En) (pd : Pds) (Q : Option Int → En → Prop) (F : Option Int → Hp → Prop), RE X.K G H σ ρ pd → t ρ Q → (∀ o ρ' H', RE X.K G H' σ ρ' pd → Q o ρ' → F o H') → tO σ H F
def qNo (ρ : En) (Q : Option Int → En → Prop) : Prop := Q none ρ
def qPart (t : QT) (ρ : En) (Q : Option Int → En → Prop) : Prop := t ρ fun r ρ1 => match r with
  | .pv (.int i) => Q (some i) ρ1
  | _ => False
theorem qo_none : QO X none qNo := ⟨_, po_none, fun G H σ ρ pd Q F R1 h f => f none ρ H R1 h⟩
theorem qo_some (h : QE X e te) : QO X (some e) (qPart te) := by
  obtain ⟨t, p, q⟩ := h.ex
  refine ⟨_, po_some p, fun G H σ ρ pd Q F R1 h f => ?_⟩
  refine q G H σ ρ pd _ _ R1 h fun r ρ1 v H1 s g => ?_
  cases r with
  | pv p =>
    cases p with
    | int i =>
      have e : v = .int i := s.pd (.int i, v) List.mem_cons_self
      exact ⟨i, e, f (some i) ρ1 H1 s.re g⟩
    | _ => exact g.elim
  | _ => exact g.elim
abbrev GS := PV → Option Int → Option Int → (R → Prop) → Prop
def RealS (K : PySem.W.Frag) (r : V → Option Int → Option Int → Hp → VK → Prop) (g : GS) : Prop := ∀ (H : Hp) (W : Addr → Prop) (p : PV) (x : V) (lo hi : Option Int) (Q : R → Prop) (F : VK), MutT H W → Lk K H W p x → g p lo hi Q → (∀ v H' z, Same H H' → ResV K H W H' z v → Q z → F v H') → r x lo hi H F
def SlP (X : Cx) (g : GS) : Prop := ∃ r, SlR X r ∧ RealS X.K r g
def cutP {α : Type} (xs : List α) (lo hi : Option Int) : List α := (xs.drop (HT.sIx xs.length 0 lo)).take (HT.sIx xs.length xs.length hi - HT.sIx xs.length 0 lo)
theorem Iss.cut {K : PySem.W.Frag} {H : Hp} {W : Addr → Prop} {ps : List PV} {vs : List V} (h : Iss K H W ps vs) (lo hi : Option Int) : Iss K H W (cutP ps lo hi) (cutV vs lo hi) := by
  unfold cutP cutV
  rw [h.length]
  exact (h.drop _).take _
def gSl : GS
  | .tup ps, lo, hi, Q => Q (.pv (.tup (cutP ps lo hi)))
  | .lst ps, lo, hi, Q => Q (.fr (.lst (cutP ps lo hi)))
  | _, _, _, _ => False
theorem cut_whole {α : Type} (xs : List α) (lo hi : Option Int) (h : HT.sIx xs.length 0 lo = 0 ∧ HT.sIx xs.length xs.length hi = xs.length) : cutP xs lo hi = xs := by
  unfold cutP
  rw [h.1, h.2]
  simp
theorem sl_seq : SlP X gSl := by
  refine ⟨_, SlR.or sl_tupA sl_list, fun H W p x lo hi Q F m l g f => ?_⟩
  cases p with
  | tup ps =>
    obtain ⟨a, vs, e, r, i⟩ : ∃ a vs, x = .ref a ∧ H a = some (.tup vs) ∧ Iss X.K H W ps vs := l
    subst e
    refine .inl ⟨a, vs, rfl, .inl (.inl r), fun wh => ?_, fun _ p hp => f _ _ _ (same_new hp) (resTup m (i.cut lo hi) hp) g⟩
    refine f _ H (.pv (.tup (cutP ps lo hi))) (Same.refl H) ?_ g
    rw [cut_whole ps lo hi (by rw [i.length]; exact wh)]
    exact ⟨a, vs, rfl, r, i⟩
  | lst ps =>
    obtain ⟨a, vs, e, r, i⟩ := l
    subst e
    exact .inr ⟨a, vs, rfl, .inl (.inl r), fun p hp => f _ _ _ (same_new hp) (resLst m (i.cut lo hi) hp) g⟩
  | _ => exact g.elim
def qSl (g : GS) (t : QT) (tl th : QTO) (ρ : En) (Q : PK1) : Prop := t ρ fun r ρ1 => tl ρ1 fun l ρ2 => th ρ2 fun u ρ3 => match r.look ρ3 with
  | some p => g p l u fun z => Q z ρ3
  | none => False
theorem qe_slice {g : GS} {lo hi : Option Expr} {tl th : QTO} {p2 : Pos} (hr : SlP X g) (he : QE X e te) (hl : QO X lo tl) (hu : QO X hi th) : QE X (.Subscript e (.Slice lo hi none p2) pos) (qSl g te tl th) := by
  obtain ⟨r, h1, h2⟩ := hr
  obtain ⟨t1, p1, q1⟩ := he.ex
  obtain ⟨t3, p3, q3⟩ := hl.ex
  obtain ⟨t4, p4, q4⟩ := hu.ex
  refine ⟨_, pe_slice h1 p1 p3 p4, fun G H σ ρ pd Q F R1 h f => ?_⟩
  refine q1 G H σ ρ pd _ _ R1 h fun r ρ1 v H1 s g1 => ?_
  obtain ⟨pd1, sb, R2, a1⟩ := s.arg
  refine q3 G H1 σ ρ1 pd1 _ _ R2 g1 fun l ρ2 H2 R3 g2 => ?_
  refine q4 G H2 σ ρ2 pd1 _ _ R3 g2 fun u ρ3 H3 R4 g3 => ?_
  cases e : r.look ρ3 with
  | none => rw [e] at g3; exact g3.elim
  | some p =>
    rw [e] at g3
    exact h2 H3 _ p v l u _ F R4.mut (a1.lk R4 (by rw [look_wk]; exact e)) g3 fun v' H' z sm rv hq => f z ρ3 v' H' (res_of (R4.pds sb) sm rv) hq
end
end Px
namespace Px
open PySem L2 PySem.Spec PyProof.Rows
/-! ### dicts whose keys are ints and texts -/
def keyP : PV → Option Key
  | .int i => some (.inl i)
  | .str s => some (.inr s)
  | _ => none
def keyV : Key → PV
  | .inl i => .int i
  | .inr s => .str s
theorem keyP_is {K : PySem.W.Frag} {H : Hp} {W : Addr → Prop} {p : PV} {v : V} {k : Key} (h : Is K H W p v) (e : keyP p = some k) : v = kV k ∧ keyOk k = true := by
  cases p with
  | int i => cases e; cases (show v = .int i from h); exact ⟨rfl, rfl⟩
  | str s => cases e; obtain ⟨e1, o⟩ : v = .str s ∧ sOk s = true := h; subst e1; exact ⟨rfl, o⟩
  | _ => cases e
theorem keyV_is {K : PySem.W.Frag} {H : Hp} {W : Addr → Prop} {k : Key} (h : keyOk k = true) : Is K H W (keyV k) (kV k) := by
  cases k with
  | inl i => exact rfl
  | inr s => exact ⟨rfl, h⟩
/-- what stands at a key -/
def getD {α : Type} : List Key → List α → Key → Option α
  | k :: ks, p :: ps, j => if k = j then some p else getD ks ps j
  | _, _, _ => none
def hasK (ks : List Key) (j : Key) : Bool := ks.any fun k => decide (k = j)
def putKs (ks : List Key) (j : Key) : List Key := if hasK ks j = true then ks else ks ++ [j]
def putPs {α : Type} (ks : List Key) (ps : List α) (j : Key) (q : α) : List α := if hasK ks j = true then List.zipWith (fun k p => if k = j then q else p) ks ps else ps ++ [q]
theorem getD_val : ∀ {ks : List Key} {vs : List V} {j : Key}, ks.length = vs.length → valV (ks.zip vs) j = getD ks vs j
  | [], [], _, _ => rfl
  | [], _ :: _, _, h => by simp at h
  | _ :: _, [], _, h => by simp at h
  | k :: ks, v :: vs, j, h => by
    rw [List.zip_cons_cons, getD]
    by_cases e : k = j
    · rw [if_pos e]; exact valV_pos (p := (k, v)) e
    · rw [if_neg e, valV_neg (p := (k, v)) e, getD_val (by simpa using h)]
theorem getD_is {K : PySem.W.Frag} {H : Hp} {W : Addr → Prop} : ∀ {ks : List Key} {ps : List PV} {vs : List V} {j : Key} {p : PV}, Iss K H W ps vs → getD ks ps j = some p → ∃ v, getD ks vs j = some v ∧ Is K H W p v
  | [], _, _, _, _, _, e => by cases e
  | _ :: _, [], _, _, _, _, e => by cases e
  | k :: ks, q :: ps, vs, j, p, h, e => by
    obtain ⟨v, r, e1, h1, h2⟩ := h
    subst e1
    rw [getD] at e ⊢
    by_cases z : k = j
    · rw [if_pos z] at e ⊢; cases e; exact ⟨v, rfl, h1⟩
    · rw [if_neg z] at e ⊢; exact getD_is h2 e
theorem getD_no {K : PySem.W.Frag} {H : Hp} {W : Addr → Prop} : ∀ {ks : List Key} {ps : List PV} {vs : List V} {j : Key}, Iss K H W ps vs → getD ks ps j = none → getD ks vs j = none
  | [], _, _, _, _, _ => rfl
  | _ :: _, [], vs, _, h, _ => by cases (show vs = [] from h); rfl
  | k :: ks, q :: ps, vs, j, h, e => by
    obtain ⟨v, r, e1, h1, h2⟩ := h
    subst e1
    rw [getD] at e ⊢
    by_cases z : k = j
    · rw [if_pos z] at e; cases e
    · rw [if_neg z] at e ⊢; exact getD_no h2 e
theorem getD_some_is {K : PySem.W.Frag} {H : Hp} {W : Addr → Prop} {ks : List Key} {ps : List PV} {vs : List V} {j : Key} (h : Iss K H W ps vs) : (getD ks vs j).isSome = (getD ks ps j).isSome := by
  cases e : getD ks ps j with
  | none => rw [getD_no h e]; rfl
  | some p => obtain ⟨v, e2, _⟩ := getD_is h e; rw [e2]; rfl
theorem any_mem {ks : List Key} {vs : List V} {j : Key} (h : ks.length = vs.length) : ((ks.zip vs).any fun kv => decide (kv.1 = j)) = hasK ks j := by
  induction ks generalizing vs with
  | nil => simp [hasK]
  | cons k ks ih =>
    cases vs with
    | nil => simp at h
    | cons v vs =>
      rw [List.zip_cons_cons, List.any_cons, ih (by simpa using h)]; rfl
theorem put_zip {ks : List Key} {vs : List V} {j : Key} {v : V} (h : ks.length = vs.length) : putK (ks.zip vs) j v = (putKs ks j).zip (putPs ks vs j v) ∧ (putKs ks j).length = (putPs ks vs j v).length := by
  unfold putK putKs putPs
  rw [any_mem h]
  by_cases m : hasK ks j = true
  · rw [if_pos m, if_pos m, if_pos m]
    refine ⟨?_, by rw [List.length_zipWith, h, Nat.min_self]⟩
    clear m
    induction ks generalizing vs with
    | nil => rfl
    | cons k ks ih =>
      cases vs with
      | nil => simp at h
      | cons u vs =>
        rw [List.zip_cons_cons, List.map_cons, List.zipWith_cons_cons, List.zip_cons_cons, ih (by simpa using h)]
        by_cases e : k = j
        · simp only [e, if_true]
        · simp only [e, if_false]
  · rw [if_neg m, if_neg m, if_neg m]
    refine ⟨?_, by simp [h]⟩
    rw [List.zip_append h]; rfl
theorem putPs_is {K : PySem.W.Frag} {H : Hp} {W : Addr → Prop} {ks : List Key} {ps : List PV} {vs : List V} {j : Key} {q : PV} {v : V} (h : Iss K H W ps vs) (hq : Is K H W q v) : Iss K H W (putPs ks ps j q) (putPs ks vs j v) := by
  unfold putPs
  by_cases m : hasK ks j = true
  · rw [if_pos m, if_pos m]
    clear m
    induction ks generalizing ps vs with
    | nil => exact rfl
    | cons k ks ih =>
      cases ps with
      | nil => cases (show vs = [] from h); exact rfl
      | cons p ps =>
        obtain ⟨u, r, e, h1, h2⟩ := h
        subst e
        refine ⟨_, _, rfl, ?_, ih h2⟩
        by_cases e : k = j
        · simp only [e, if_true]; exact hq
        · simp only [e, if_false]; exact h1
  · rw [if_neg m, if_neg m]
    exact Iss.append h (Iss.cons hq Iss.nil)
theorem putKs_ok {ks : List Key} {j : Key} (h : ks.all keyOk = true) (hj : keyOk j = true) : (putKs ks j).all keyOk = true := by
  unfold putKs
  split
  · exact h
  · rw [List.all_append, h]; simp [hj]
theorem putKs_len (ks : List Key) (j : Key) : (putKs ks j).length ≤ ks.length + 1 := by
  unfold putKs
  split
  · omega
  · simp
theorem zip_len {ks : List Key} {vs : List V} (h : ks.length = vs.length) : (ks.zip vs).length = ks.length := by rw [List.length_zip, h, Nat.min_self]
theorem zip_ne {ks : List Key} {vs : List V} (h : ks.length = vs.length) : (ks.zip vs).isEmpty = ks.isEmpty := by
  cases ks with
  | nil => rfl
  | cons k ks => cases vs with
    | nil => simp at h
    | cons v vs => rfl
section
variable {X : Cx}
/-- d[k], there -/
def rIxD : R2 := fun x y H Q => ∃ a kvs k v, x = .ref a ∧ Rd H a (.dK kvs) ∧ y = kV k ∧ valV kvs k = some v ∧ Q v H
theorem ix_dict : IxR X rIxD := by
  intro value slice pins s σ H x y v u Q I rx ry h hs
  obtain ⟨a, kvs, k, z, rfl, hd, rfl, l, q⟩ := h
  cases rx
  obtain ⟨zl, hb, vs, rel, dd⟩ := dk_rd I.hok hd
  obtain ⟨w', hw, rw'⟩ := RelO.some_of (v := z) (o := valueAt vs k) (by rw [← l]; exact rel.val k)
  exact tail_any dd.typeIs PySem.F.slot_dict_getitem.lookup (wpAny_getItem_of (kV_is ry) dd.mapOf hw ⟨z, H, I.tok _, rw', q⟩) hs
def rInK (neg : Bool) : R2 := fun x y H Q => ∃ a kvs k, y = .ref a ∧ Rd H a (.dK kvs) ∧ x = kV k ∧ Q (.bl (neg != (valV kvs k).isSome)) H
theorem op_inK (hu : X.A.units + 65 < cLine) : OpR X (compareOp .In) (rInK false) := by
  intro pins s σ H x y v u Q I rx ry h
  obtain ⟨a, kvs, k, rfl, hd, rfl, q⟩ := h
  cases ry
  refine d_in (by omega) I (y := kV k) (o := valV kvs k) (.inl ⟨kvs, k, hd, rfl, rfl⟩) rx fun s' I' => ⟨.bl _, H, I', rfl, ?_⟩
  cases e : (valV kvs k).isSome <;> rw [e] at q <;> exact q
theorem op_notInK (hu : X.A.units + 65 < cLine) : OpR X (compareOp .NotIn) (rInK true) := by
  intro pins s σ H x y v u Q I rx ry h
  obtain ⟨a, kvs, k, rfl, hd, rfl, q⟩ := h
  cases ry
  refine d_notIn (by omega) I (y := kV k) (o := valV kvs k) (.inl ⟨kvs, k, hd, rfl, rfl⟩) rx fun s' I' => ⟨.bl _, H, I', rfl, ?_⟩
  cases e : (valV kvs k).isSome <;> rw [e] at q <;> exact q
/-- d[k] = v -/
def rSetD : V → V → V → Hp → (Hp → Prop) → Prop := fun o i v H Q => ∃ a kvs k, o = .ref a ∧ i = kV k ∧ H a = some (.dK kvs) ∧ kvs.length < sizeLine ∧ Q (upd H a (.dK (putK kvs k v)))
theorem set_dict (hu : X.A.units + 65 < cLine) : PSet X rSetD := by
  intro pins s σ H o i v ov iv u Q I ro ri rv h
  obtain ⟨a, kvs, k, rfl, rfl, hd, hl, q⟩ := h
  cases ro
  exact d_setItem (by omega) I (DPut.k (k := k) hd hl) ri rv fun s' I' => ⟨_, I', q⟩
theorem PSet.or {t t' : TSet} (h : PSet X t) (h' : PSet X t') : PSet X (fun o i v H Q => t o i v H Q ∨ t' o i v H Q) := by
  intro pins s σ H o i v ov iv u Q I ro ri rv q
  rcases q with q | q
  · exact h pins s σ H o i v ov iv u Q I ro ri rv q
  · exact h' pins s σ H o i v ov iv u Q I ro ri rv q
def rLenK : List V → Hp → VK → Prop := fun xs H Q => ∃ a kvs, xs = [V.ref a] ∧ Rd H a (.dK kvs) ∧ Q (.int (kvs.length : Nat)) H
theorem call_lenK : CallR X (.builtin "len") rLenK := by
  intro pins s σ H xs us Q I r h
  obtain ⟨a, kvs, rfl, ha, q⟩ := h
  obtain ⟨u, rfl, ru⟩ := vals1 r
  cases ru
  exact d_len I ha fun t s' I' => ⟨.int kvs.length, H, I', ⟨t, rfl⟩, q⟩
end
end Px
namespace Px
open PySem L2 PySem.Spec PyProof.Rows
section
variable {X : Cx}
/-- x in t, t a tuple of data -/
def rInTD (K : PySem.W.Frag) (neg : Bool) : R2 := fun x y H Q => ∃ d ds, Dp K H x d ∧ Dp K H y (.tuple ds) ∧ SeqAt.shaped d = true ∧ SeqAt.shaped (.tuple ds) = true ∧ Q (.bl (neg != ds.any fun z => PyData.eqv z d)) H
theorem op_inTD (hu : X.A.units + 65 < cLine) : OpR X (compareOp .In) (rInTD X.K false) := by
  intro pins s σ H x y v u Q I rx ry h
  obtain ⟨d, ds, hd, he, sd, se, q⟩ := h
  obtain ⟨as, r1⟩ := Dp.reads I d x v hd rx; obtain ⟨bs, r2⟩ := Dp.reads I (.tuple ds) y u he ry
  refine SeqAt.in_tuple_reads r2 r1 (SeqAt.canLay_of_shaped se) (SeqAt.canLay_of_shaped sd) (room_in_shaped sd hu) ⟨.bl _, H, I, rfl, ?_⟩
  cases e : (ds.any fun z => PyData.eqv z d) <;> rw [e] at q <;> exact q
theorem op_notInTD (hu : X.A.units + 65 < cLine) : OpR X (compareOp .NotIn) (rInTD X.K true) := by
  intro pins s σ H x y v u Q I rx ry h
  obtain ⟨d, ds, hd, he, sd, se, q⟩ := h
  obtain ⟨as, r1⟩ := Dp.reads I d x v hd rx; obtain ⟨bs, r2⟩ := Dp.reads I (.tuple ds) y u he ry
  refine SeqAt.notIn_tuple_reads r2 r1 (SeqAt.canLay_of_shaped se) (SeqAt.canLay_of_shaped sd) (room_in_shaped sd hu) ⟨.bl _, H, I, rfl, ?_⟩
  cases e : (ds.any fun z => PyData.eqv z d) <;> rw [e] at q <;> exact q
end
end Px
namespace Px
open PySem L2 PyProof.Rows

theorem Res.pds {K : PySem.W.Frag} {G : Gd} {H : Hp} {σ : L2.St} {ρ : En} {pd pd' : Pds} {r : R} {v : V} (s : ∀ x ∈ pd', x ∈ pd) (h : Res K G H σ ρ pd r v) : Res K G H σ ρ pd' r v := by
  cases r with
  | pv p =>
    refine RE.pds h (fun x hx => ?_)
    rcases List.mem_cons.mp hx with e | hx
    · rw [e]; exact List.mem_cons_self
    · exact List.mem_cons_of_mem _ (s x hx)
  | sl i => exact ⟨h.1.pds s, h.2⟩
  | fr p =>
    obtain ⟨a, o, e, n, kx, R1, q⟩ := h
    exact ⟨a, o, e, n, kx, R1.pds s, q⟩

/-! ### one reading for many contexts -/
theorem QE.all {ι : Type} {X : ι → Cx} {e : Expr} {t : QT} {K : PySem.W.Frag} (hK : ∀ c, (X c).K = K) (h : ∀ c, QE (X c) e t) : ∃ te, (∀ c, PE (X c) e te) ∧ Rz K te t := by
  refine ⟨fun σ H F => ∀ c, (Classical.choose (h c).ex) σ H F, fun c => ⟨fun pins s σ H Q I hw => (Classical.choose_spec (h c).ex).1.run pins s σ H Q I (hw c)⟩, fun G H σ ρ pd Q F R1 hq f c => ?_⟩
  have z : Rz (X c).K (Classical.choose (h c).ex) t := (Classical.choose_spec (h c).ex).2
  exact z G H σ ρ pd Q F (by rw [hK c]; exact R1) hq (by rw [hK c]; exact f)

/-! ### what is walked -/
structure Wk (K : PySem.W.Frag) (J : It) (ps : List PV) (pd1 : Pds) (kp : Hp) : Prop where
  item : ∀ (G : Gd) (H : Hp) (σ : L2.St) (ρ : En) (pd : Pds) (i : Nat) (p : PV), (∀ x ∈ pd1, x ∈ pd) → (∀ b o, kp b = some o → G.keep b = some o) → RE K G H σ ρ pd → ps[i]? = some p → J.go i H ∧ ∀ x H', J.yld i H x H' → RE K G H' σ ρ ((p, x) :: pd)
  stop : ∀ (G : Gd) (H : Hp) (σ : L2.St) (ρ : En) (pd : Pds) (i : Nat), (∀ x ∈ pd1, x ∈ pd) → (∀ b o, kp b = some o → G.keep b = some o) → RE K G H σ ρ pd → ps.length ≤ i → J.stop i H
abbrev QTI := En → (List PV → En → Prop) → Prop
def RzI (K : PySem.W.Frag) (wi : TI) (t : QTI) : Prop := ∀ (G : Gd) (H : Hp) (σ : L2.St) (ρ : En) (pd : Pds) (Q : List PV → En → Prop) (F : It → Hp → Prop), RE K G H σ ρ pd → t ρ Q →
    (∀ J ps ρ' pd1 H', (∀ x ∈ pd, x ∈ pd1) → RE K G H' σ ρ' pd1 → Wk K J ps pd1 G.keep → Q ps ρ' → F J H') → wi σ H F
structure QI (X : Cx) (tg iter : Expr) (t : QTI) : Prop where
  ex : ∃ wi, PI X tg iter wi ∧ RzI X.K wi t
section
variable {X : Cx} {tg e a b : Expr} {es : List Expr} {te : QT} {tr : QTA}
/-- a list, a tuple or a text, whichever comes -/
def iSeq (K : PySem.W.Frag) (te : TE) : TI := fun σ H R => te σ H fun x H1 => (∃ a, x = .ref a ∧ (∃ xs, SqL K H1 a xs) ∧ R (Itl K a) H1) ∨ (∃ a, x = .ref a ∧ (∃ xs, SqT K H1 a xs) ∧ R (Itt K a) H1) ∨ ∃ s, x = .str s ∧ R (Its s) H1
theorem pi_seq {te : TE} (hl : PE X e te) : PI X tg e (iSeq X.K te) := by
  refine ⟨fun pins s σ H R I h => ?_⟩
  refine thn (hl.run pins s σ H _ I h) fun v s1 ⟨x, H1, I1, r1, q1⟩ => ?_
  rcases q1 with q1 | q1 | q1
  · have z : PE X e (fun σ' H' Q => σ' = σ → True) → True := fun _ => trivial
    obtain ⟨a, e, ⟨xs, hq⟩, q⟩ := q1
    subst e
    cases r1
    obtain ⟨its, rv, p, hz⟩ := I1.list hq
    refine wpAny_pyIter_list p.isList ?_
    refine ⟨s1.heap.objs.size, [s1.heap.objs.size], _, _, H1, rfl, I1.kept (t' := s1.toks) fun b o e => Heap.get?_push_of_some _ e, turn_list a _, ⟨_, Heap.get?_push_size _ rfl, rfl, rfl⟩, fun b hb => ?_, q⟩
    have e : b = s1.heap.objs.size := by simpa using hb
    subst e
    exact I1.fpOk (Nat.le_refl _) (I1.hok.fresh (Nat.le_refl _))
  · obtain ⟨a, e, ⟨xs, hq⟩, q⟩ := q1
    subst e
    cases r1
    obtain ⟨its, rv, p, hz⟩ := I1.tuple hq
    refine wpAny_pyIter_tuple (show s1.heap.IsTuple a its.toArray from p) ?_
    refine ⟨s1.heap.objs.size, [s1.heap.objs.size], _, _, H1, rfl, I1.kept (t' := s1.toks) fun b o e => Heap.get?_push_of_some _ e, turn_tuple a _, ⟨_, Heap.get?_push_size _ rfl, rfl, rfl⟩, fun b hb => ?_, q⟩
    have e : b = s1.heap.objs.size := by simpa using hb
    subst e
    exact I1.fpOk (Nat.le_refl _) (I1.hok.fresh (Nat.le_refl _))
  · obtain ⟨y, e, q⟩ := q1
    subst e
    obtain ⟨t, rfl⟩ := r1
    cases ha : y.cps.all (· < 128)
    · exact wpAny_pyIter_wide ha (pi_one (tk := s1.toks) I1 _ (turn_str _ y t "str_iterator" (.inr rfl)) ⟨_, Heap.get?_push_size _ rfl, rfl, rfl⟩ q)
    · exact wpAny_pyIter_ascii ha (pi_one (tk := s1.toks) I1 _ (turn_str _ y t "str_ascii_iterator" (.inl rfl)) ⟨_, Heap.get?_push_size _ rfl, rfl, rfl⟩ q)
def chars (s : Str) : List PV := s.cps.toList.map fun c => PV.str ⟨#[c]⟩
theorem wk_list {kp : Hp} {K : PySem.W.Frag} {a : Addr} {ps : List PV} {pd : Pds} : Wk K (Itl K a) ps ((.lst ps, .ref a) :: pd) kp := by
  constructor
  · intro G H σ ρ pd' i p s _ R1 hp
    obtain ⟨b, vs, e, n, h, q⟩ : ∃ b vs, V.ref a = .ref b ∧ ¬ WS G σ ρ b ∧ H b = some (.lst vs) ∧ Iss K H (WS G σ ρ) ps vs := R1.pd _ (s _ List.mem_cons_self)
    cases e
    obtain ⟨v, hv, hi⟩ := q.getP hp
    refine ⟨⟨vs, v, .inl (.inl h), hv⟩, fun x H' y => ?_⟩
    obtain ⟨rfl, y⟩ := y
    have z := y vs (.inl (.inl h))
    rw [hv] at z; cases z
    exact R1.push hi
  · intro G H σ ρ pd' i s _ R1 hp
    obtain ⟨b, vs, e, n, h, q⟩ : ∃ b vs, V.ref a = .ref b ∧ ¬ WS G σ ρ b ∧ H b = some (.lst vs) ∧ Iss K H (WS G σ ρ) ps vs := R1.pd _ (s _ List.mem_cons_self)
    cases e
    exact ⟨vs, .inl (.inl h), by rw [← q.length]; exact hp⟩
theorem wk_tup {kp : Hp} {K : PySem.W.Frag} {a : Addr} {ps : List PV} {pd : Pds} : Wk K (Itt K a) ps ((.tup ps, .ref a) :: pd) kp := by
  constructor
  · intro G H σ ρ pd' i p s _ R1 hp
    obtain ⟨b, vs, e, h, q⟩ : ∃ b vs, V.ref a = .ref b ∧ H b = some (.tup vs) ∧ Iss K H (WS G σ ρ) ps vs := R1.pd _ (s _ List.mem_cons_self)
    cases e
    obtain ⟨v, hv, hi⟩ := q.getP hp
    refine ⟨⟨vs, v, .inl (.inl h), hv⟩, fun x H' y => ?_⟩
    obtain ⟨rfl, y⟩ := y
    have z := y vs (.inl (.inl h))
    rw [hv] at z; cases z
    exact R1.push hi
  · intro G H σ ρ pd' i s _ R1 hp
    obtain ⟨b, vs, e, h, q⟩ : ∃ b vs, V.ref a = .ref b ∧ H b = some (.tup vs) ∧ Iss K H (WS G σ ρ) ps vs := R1.pd _ (s _ List.mem_cons_self)
    cases e
    exact ⟨vs, .inl (.inl h), by rw [← q.length]; exact hp⟩
theorem sOk_one {s : Str} (h : sOk s = true) {i : Nat} {c : Nat} (e : s.cps[i]? = some c) : sOk ⟨#[c]⟩ = true := by
  have h1 : s.cps.all (· < 0x110000) = true := h
  have h2 : c < 0x110000 := by
    have := Array.all_eq_true.mp h1 i (by exact (Array.getElem?_eq_some_iff.mp e).1)
    rw [(Array.getElem?_eq_some_iff.mp e).2] at this
    simpa using this
  show (#[c] : Array Nat).all (· < 0x110000) = true
  simpa using h2
theorem wk_str {kp : Hp} {K : PySem.W.Frag} {s : Str} {pd : Pds} (hs : sOk s = true) : Wk K (Its s) (chars s) pd kp := by
  constructor
  · intro G H σ ρ pd' i p sb _ R1 hp
    unfold chars at hp
    rw [List.getElem?_map] at hp
    cases e : s.cps.toList[i]? with
    | none => rw [e] at hp; cases hp
    | some c =>
      rw [e] at hp; cases hp
      have e' : s.cps[i]? = some c := by rw [← e]; simp
      refine ⟨(Array.getElem?_eq_some_iff.mp e').1, fun x H' y => ?_⟩
      obtain ⟨rfl, d, y1, y2⟩ := y
      rw [e'] at y1; cases y1
      subst y2
      exact R1.push ⟨rfl, sOk_one hs e'⟩
  · intro G H σ ρ pd' i sb _ R1 hp
    unfold chars at hp
    show s.cps.size ≤ i
    simpa using hp
def qIt (t : QT) (ρ : En) (Q : List PV → En → Prop) : Prop := t ρ fun r ρ1 => match r.wk with
  | .pv (.lst ps) => Q ps ρ1
  | .pv (.tup ps) => Q ps ρ1
  | .pv (.str s) => Q (chars s) ρ1
  | _ => False
theorem qi_seq (h : QE X e te) : QI X tg e (qIt te) := by
  obtain ⟨t, p, q⟩ := h.ex
  refine ⟨_, pi_seq p, fun G H σ ρ pd Q F R1 hw f => ?_⟩
  refine q G H σ ρ pd _ _ R1 hw fun r ρ1 v H1 s g => ?_
  have s' := s.wk
  cases e1 : r.wk with
  | pv p =>
    rw [e1] at s' g
    have R2 : RE X.K G H1 σ ρ1 ((p, v) :: pd) := s'
    have hI := R2.pd (p, v) List.mem_cons_self
    cases p with
    | lst ps =>
      obtain ⟨a, vs, e2, n, h, i⟩ : ∃ a vs, v = .ref a ∧ ¬ WS G σ ρ1 a ∧ H1 a = some (.lst vs) ∧ Iss X.K H1 (WS G σ ρ1) ps vs := hI
      subst e2
      exact .inl ⟨a, rfl, ⟨vs, .inl (.inl h)⟩, f _ ps ρ1 _ H1 (fun x hx => List.mem_cons_of_mem _ hx) R2 wk_list g⟩
    | tup ps =>
      obtain ⟨a, vs, e2, h, i⟩ : ∃ a vs, v = .ref a ∧ H1 a = some (.tup vs) ∧ Iss X.K H1 (WS G σ ρ1) ps vs := hI
      subst e2
      exact .inr (.inl ⟨a, rfl, ⟨vs, .inl (.inl h)⟩, f _ ps ρ1 _ H1 (fun x hx => List.mem_cons_of_mem _ hx) R2 wk_tup g⟩)
    | str s =>
      obtain ⟨e2, ok⟩ : v = .str s ∧ sOk s = true := hI
      exact .inr (.inr ⟨s, e2, f _ (chars s) ρ1 pd H1 (fun x hx => hx) R2.tl (wk_str ok) g⟩)
    | _ => exact g.elim
  | sl i => rw [e1] at g; exact g.elim
  | fr p => rw [e1] at g; exact g.elim
/-- range(n), range(a, b) -/
def rng (lo : Int) (n : Nat) : List PV := (List.range n).map fun k => PV.int (lo + (k : Nat))
theorem wk_rng {kp : Hp} {K : PySem.W.Frag} {lo : Int} {n : Nat} {pd : Pds} : Wk K (Itr lo n) (rng lo n) pd kp := by
  constructor
  · intro G H σ ρ pd' i p sb _ R1 hp
    unfold rng at hp
    rw [List.getElem?_map] at hp
    cases e : (List.range n)[i]? with
    | none => rw [e] at hp; cases hp
    | some c =>
      rw [e] at hp; cases hp
      have l : i < n := by have := (List.getElem?_eq_some_iff.mp e).1; simpa using this
      have ec : c = i := by rw [List.getElem?_range l] at e; cases e; rfl
      subst ec
      refine ⟨l, fun x H' y => ?_⟩
      obtain ⟨rfl, y⟩ := y
      subst y
      exact R1.push rfl
  · intro G H σ ρ pd' i sb _ R1 hp
    unfold rng at hp
    show n ≤ i
    simpa using hp
def rngOk (i : Int) : Prop := -(2 ^ 62) ≤ i ∧ i < 2 ^ 62
def qRng1 (t : QTA) (ρ : En) (Q : List PV → En → Prop) : Prop := t ρ fun rs ρ1 => match rs with
  | [.pv (.int n)] => rngOk n ∧ Q (rng 0 n.toNat) ρ1
  | _ => False
def qRng2 (t : QTA) (ρ : En) (Q : List PV → En → Prop) : Prop := t ρ fun rs ρ1 => match rs with
  | [.pv (.int a), .pv (.int b)] => (rngOk a ∧ rngOk b) ∧ Q (rng a (b - a).toNat) ρ1
  | _ => False
theorem qi_range1 {p pos : Pos} (hm : X.mg "range" = none) (ha : QA X [a] tr) (hg : Gl X "range" := by rfl) (hs : starEach [a] X.env = [(false, eval a X.env)] := by rfl) : QI X tg (.Call (.Name "range" p) [a] [] pos) (qRng1 tr) := by
  obtain ⟨t, p, q⟩ := ha.ex
  refine ⟨_, pi_range1 hg hm p hs, fun G H σ ρ pd Q F R1 hw f => ?_⟩
  refine q G H σ ρ pd _ _ R1 hw fun rs ρ1 pd1 vs H1 sb R2 ar g => ?_
  cases ar with
  | nil => exact g.elim
  | @cons r v rs vs h1 t1 =>
    cases t1 with
    | cons _ _ => cases r with
      | pv p => cases p <;> exact g.elim
      | _ => exact g.elim
    | nil =>
      cases r with
      | pv p =>
        cases p with
        | int n =>
          have e : v = .int n := R2.pd _ h1
          subst e
          exact ⟨n, rfl, g.1.1, g.1.2, f _ _ ρ1 pd1 H1 sb R2 wk_rng g.2⟩
        | _ => exact g.elim
      | _ => exact g.elim
theorem qi_range2 {p pos : Pos} (hm : X.mg "range" = none) (ha : QA X [a, b] tr) (hg : Gl X "range" := by rfl) (hs : starEach [a, b] X.env = [(false, eval a X.env), (false, eval b X.env)] := by rfl) (hs2 : starEach [b] X.env = [(false, eval b X.env)] := by rfl) :
    QI X tg (.Call (.Name "range" p) [a, b] [] pos) (qRng2 tr) := by
  obtain ⟨t, p, q⟩ := ha.ex
  refine ⟨_, pi_range2 hg hm p hs hs2, fun G H σ ρ pd Q F R1 hw f => ?_⟩
  refine q G H σ ρ pd _ _ R1 hw fun rs ρ1 pd1 vs H1 sb R2 ar g => ?_
  match rs, vs, ar, g with
  | [.pv (.int m), .pv (.int n)], [v, w], .cons h1 (.cons h2 .nil), g =>
    have e : v = .int m := R2.pd _ h1
    have e' : w = .int n := R2.pd _ h2
    subst e e'
    exact ⟨m, n, rfl, ⟨g.1.1.1, g.1.1.2, g.1.2.1, g.1.2.2⟩, f _ _ ρ1 pd1 H1 sb R2 wk_rng g.2⟩

/-! ### targets -/
abbrev QTG := PV → En → (En → Prop) → Prop
def RzG (K : PySem.W.Frag) (g : TG) (sl : List Nat) (t : QTG) : Prop := ∀ (G : Gd) (H : Hp) (σ : L2.St) (ρ : En) (pd : Pds) (p : PV) (v : V) (Q : En → Prop) (F : L2.St → Hp → Prop), RE K G H σ ρ ((p, v) :: pd) → t p ρ Q →
  (∀ σ' ρ' H', σ'.length = σ.length → (∀ i : Nat, i ∉ sl → σ'[i]? = σ[i]?) → RE K G H' σ' ρ' pd → Q ρ' → F σ' H') → g v σ H F
structure QG (X : Cx) (tg : Expr) (sl : List Nat) (t : QTG) : Prop where
  ex : ∃ g, PG X tg g ∧ RzG X.K g sl t
theorem QG.all {ι : Type} {X : ι → Cx} {e : Expr} {sl : List Nat} {t : QTG} {K : PySem.W.Frag} (hK : ∀ c, (X c).K = K) (h : ∀ c, QG (X c) e sl t) : ∃ g, (∀ c, PG (X c) e g) ∧ RzG K g sl t := by
  refine ⟨fun v σ H F => ∀ c, (Classical.choose (h c).ex) v σ H F, fun c => ⟨fun pins s σ H v u Q I r hw => (Classical.choose_spec (h c).ex).1.run pins s σ H v u Q I r (hw c)⟩, fun G H σ ρ pd p v Q F R1 hq f c => ?_⟩
  have z : RzG (X c).K (Classical.choose (h c).ex) sl t := (Classical.choose_spec (h c).ex).2
  exact z G H σ ρ pd p v Q F (by rw [hK c]; exact R1) hq (by rw [hK c]; exact f)
abbrev QTGs := List PV → En → (En → Prop) → Prop
def RzGs (K : PySem.W.Frag) (g : TGs) (sl : List Nat) (t : QTGs) : Prop := ∀ (G : Gd) (H : Hp) (σ : L2.St) (ρ : En) (pd : Pds) (ps : List PV) (vs : List V) (Q : En → Prop) (F : L2.St → Hp → Prop), RE K G H σ ρ pd → ArgsR σ pd (ps.map R.pv) vs → t ps ρ Q →
  (∀ σ' ρ' H', σ'.length = σ.length → (∀ i : Nat, i ∉ sl → σ'[i]? = σ[i]?) → RE K G H' σ' ρ' pd → Q ρ' → F σ' H') → g vs σ H F
structure QGs (X : Cx) (tg : List Expr) (sl : List Nat) (t : QTGs) : Prop where
  ex : ∃ g, PGs X tg g ∧ RzGs X.K g sl t
def qgN (i : Nat) (p : PV) (ρ : En) (Q : En → Prop) : Prop := notIo ρ i = true ∧ Q (ρ.set i (.val p))
theorem rz_gname {K : PySem.W.Frag} {i : Nat} : RzG K (gName i) [i] (qgN i) := fun G H σ ρ pd p v Q F R1 h f =>
  f _ _ H (by simp) (fun j hj => ix_ne (fun z => hj (by simp [z]))) (R1.set h.1) h.2
theorem qg_name (i : Nat) {x : Str} {pos : Pos} (hN : X.N.Nodup) (hi : X.N[i]? = some x := by rfl) (hx : Loc X.env.scope x := by first | exact Or.inl rfl | exact Or.inr rfl) (hf : X.fn x = true ∨ X.env.scope.names.lookup x = some .local := by first | exact .inl rfl | exact .inr rfl) : QG X (.Name x pos) [i] (qgN i) :=
  ⟨_, pg_name hN hi hx hf, rz_gname⟩
def qgNil (ps : List PV) (ρ : En) (Q : En → Prop) : Prop := match ps with
  | [] => Q ρ
  | _ => False
def qgCons (t : QTG) (u : QTGs) (ps : List PV) (ρ : En) (Q : En → Prop) : Prop := match ps with
  | p :: ps => t p ρ fun ρ1 => u ps ρ1 Q
  | [] => False
theorem qgs_nil : QGs X [] [] qgNil := ⟨_, pgs_nil, fun G H σ ρ pd ps vs Q F R1 a h f => by
  cases ps with
  | nil =>
    cases a
    exact ⟨rfl, f σ ρ H rfl (fun _ _ => rfl) R1 h⟩
  | cons _ _ => exact h.elim⟩
theorem argsP {σ σ' : L2.St} {pd : Pds} : ∀ {ps : List PV} {vs : List V}, ArgsR σ pd (ps.map R.pv) vs → ArgsR σ' pd (ps.map R.pv) vs
  | [], _, h => by cases h; exact .nil
  | p :: ps, _, h => by
    cases h with
    | cons h t => exact .cons h (argsP t)
theorem qgs_cons {e : Expr} {es : List Expr} {s1 s2 : List Nat} {t : QTG} {u : QTGs} (h1 : QG X e s1 t) (h2 : QGs X es s2 u) (hs : (assignEach (e :: es) X.env).map (·.2) = assign e X.env :: (assignEach es X.env).map (·.2) := by rfl) : QGs X (e :: es) (s1 ++ s2) (qgCons t u) := by
  obtain ⟨g1, p1, q1⟩ := h1.ex
  obtain ⟨g2, p2, q2⟩ := h2.ex
  refine ⟨_, pgs_cons p1 p2 hs, fun G H σ ρ pd ps vs Q F R1 a h f => ?_⟩
  cases ps with
  | nil => exact h.elim
  | cons p ps =>
    cases a with
    | @cons _ v _ vs hv ta =>
      refine ⟨v, vs, rfl, q1 G H σ ρ pd p v _ _ (R1.push (R1.pd _ hv)) h fun σ1 ρ1 H1 l1 k1 R2 g => ?_⟩
      refine q2 G H1 σ1 ρ1 pd ps vs _ _ R2 (argsP ta) g fun σ2 ρ2 H2 l2 k2 R3 g2 => ?_
      exact f σ2 ρ2 H2 (l2.trans l1) (fun i hi => (k2 i (fun z => hi (List.mem_append_right _ z))).trans (k1 i (fun z => hi (List.mem_append_left _ z)))) R3 g2
def qgT (n : Nat) (t : QTGs) (p : PV) (ρ : En) (Q : En → Prop) : Prop := match p with
  | .tup ps => ps.length = n ∧ t ps ρ Q
  | _ => False
theorem iss_args {K : PySem.W.Frag} {H : Hp} {W : Addr → Prop} {σ : L2.St} : ∀ {ps : List PV} {vs : List V}, Iss K H W ps vs → ArgsR σ (ps.zip vs) (ps.map R.pv) vs
  | [], _, h => by cases (show _ = [] from h); exact .nil
  | p :: ps, _, h => by
    obtain ⟨v, r, e, h1, h2⟩ := h
    subst e
    exact .cons List.mem_cons_self ((iss_args h2).mono fun x hx => List.mem_cons_of_mem _ hx)
theorem iss_mem {K : PySem.W.Frag} {H : Hp} {W : Addr → Prop} : ∀ {ps : List PV} {vs : List V}, Iss K H W ps vs → ∀ x ∈ ps.zip vs, Is K H W x.1 x.2
  | [], _, h, x, hx => by simp at hx
  | p :: ps, _, h, x, hx => by
    obtain ⟨v, r, e, h1, h2⟩ := h
    subst e
    rcases List.mem_cons.mp hx with e | hx
    · rw [e]; exact h1
    · exact iss_mem h2 x hx
theorem qg_tup {es : List Expr} {k : Nat} {t : QTGs} {sl : List Nat} {n : Nat} {pos : Pos} (hc : X.calm = true) (h : QGs X es sl t) (hn : (assignEach es X.env).length = n := by rfl) (hst : (assignEach es X.env).findIdx? (·.1) = none := by rfl) : QG X (.Tuple es k pos) sl (qgT n t) := by
  obtain ⟨g, p, q⟩ := h.ex
  refine ⟨_, pg_tup hc p hn hst, fun G H σ ρ pd p v Q F R1 hw f => ?_⟩
  cases p with
  | tup ps =>
    obtain ⟨a, vs, e, r, i⟩ : ∃ a vs, v = .ref a ∧ H a = some (.tup vs) ∧ Iss X.K H (WS G σ ρ) ps vs := R1.pd (.tup ps, v) List.mem_cons_self
    refine ⟨a, vs, e, .inl (.inl r), by rw [← i.length]; exact hw.1, ?_⟩
    have R2 : RE X.K G H σ ρ (ps.zip vs ++ pd) := R1.tl.pushs (iss_mem i)
    exact q G H σ ρ _ ps vs _ _ R2 ((iss_args i).mono fun x hx => List.mem_append_left _ hx) hw.2 fun σ' ρ' H' l k R3 g => f σ' ρ' H' l k (R3.pds fun x hx => List.mem_append_right _ hx) g
  | _ => exact hw.elim
end
end Px
namespace Px
open PySem L2 PyProof.Rows

/-! ### list comprehensions -/
def wipeE (ρ : En) : List Nat → En
  | [] => ρ
  | v :: vs => (wipeE ρ vs).set v Sl.un
def notIos (ρ : En) (vs : List Nat) : Prop := ∀ v ∈ vs, notIo ρ v = true
theorem notIo_set {ρ : En} {i j : Nat} (h : notIo ρ j = true) : notIo (ρ.set i Sl.un) j = true := by
  by_cases e : i = j
  · subst e
    unfold notIo
    by_cases l : i < ρ.length
    · rw [List.getElem?_set_self l]
    · rw [List.getElem?_eq_none (by simp; omega)]
  · unfold notIo at h ⊢
    rw [ix_ne e]
    exact h
theorem notIo_wipe {ρ : En} {j : Nat} (h : notIo ρ j = true) : ∀ vs : List Nat, notIo (wipeE ρ vs) j = true
  | [] => h
  | v :: vs => notIo_set (notIo_wipe h vs)
theorem RE.wipe {K : PySem.W.Frag} {G : Gd} {H : Hp} {σ : L2.St} {ρ : En} {pd : Pds} (R1 : RE K G H σ ρ pd) : ∀ (vs : List Nat), notIos ρ vs → RE K G H (L2.wipe σ vs) (wipeE ρ vs) pd
  | [], _ => R1
  | v :: vs, n => (RE.wipe R1 vs fun w hw => n w (List.mem_cons_of_mem _ hw)).clear (notIo_wipe (n v List.mem_cons_self) vs)
theorem wipeE_length (ρ : En) : ∀ vs : List Nat, (wipeE ρ vs).length = ρ.length
  | [] => rfl
  | v :: vs => by unfold wipeE; rw [List.length_set, wipeE_length ρ vs]
theorem wipeE_in {ρ : En} {i : Nat} : ∀ {vs : List Nat}, i ∈ vs → (wipeE ρ vs)[i]? = if i < ρ.length then some Sl.un else none
  | v :: vs, h => by
    unfold wipeE
    rw [List.getElem?_set, wipeE_length]
    by_cases e : v = i
    · subst e; simp
    · rcases List.mem_cons.mp h with z | z
      · exact absurd z.symm e
      · simp [e, wipeE_in z]
theorem wipe_in {σ : L2.St} {i : Nat} : ∀ {vs : List Nat}, i ∈ vs → (L2.wipe σ vs)[i]? = if i < σ.length then some none else none
  | v :: vs, h => by
    unfold L2.wipe
    rw [List.getElem?_set, wipe_length]
    by_cases e : v = i
    · subst e; simp
    · rcases List.mem_cons.mp h with z | z
      · exact absurd z.symm e
      · simp [e, wipe_in z]
/-- other slots' values at the slots that the env does not know -/
theorem RE.sig {K : PySem.W.Frag} {G : Gd} {H : Hp} {σ σ' : L2.St} {ρ : En} {pd : Pds} (R1 : RE K G H σ ρ pd) (l : σ'.length = σ.length) (k : ∀ i : Nat, (∀ s, ρ[i]? = some s → s ≠ Sl.un → σ'[i]? = σ[i]?)) : RE K G H σ' ρ pd := by
  have ke : ∀ {i : Nat} {s : Sl}, ρ[i]? = some s → s ≠ Sl.un → σ'[i]? = σ[i]? := fun {i s} e n => k i s e n
  have we : ∀ a, WS G σ' ρ a ↔ WS G σ ρ a := fun a => by
    constructor
    · rintro (w | ⟨i, b, p, e1, e2⟩)
      · exact .inl w
      · exact .inr ⟨i, b, p, e1, by rw [← ke e1 (by simp)]; exact e2⟩
    · rintro (w | ⟨i, b, p, e1, e2⟩)
      · exact .inl w
      · exact .inr ⟨i, b, p, e1, by rw [ke e1 (by simp)]; exact e2⟩
  have sub : ∀ a, WS G σ' ρ a → WS G σ ρ a := fun a => (we a).1
  refine ⟨R1.len.trans l.symm, fun i p e => ?_, fun i b p e => ?_, fun i j b c p q a e1 e2 e3 e4 => ?_, fun i a h => ?_, R1.keep, R1.exk, fun x hx => Is.anti sub _ _ (R1.pd x hx)⟩
  · obtain ⟨v, e1, h⟩ := R1.val i p e
    exact ⟨v, by rw [ke e (by simp)]; exact e1, Is.anti sub _ _ h⟩
  · obtain ⟨a, e1, n, o, e2, h⟩ := R1.own i b p e
    exact ⟨a, by rw [ke e (by simp)]; exact e1, n, o, e2, h.anti sub⟩
  · rw [ke e1 (by simp)] at e3
    rw [ke e2 (by simp)] at e4
    exact R1.inj i j b c p q a e1 e2 e3 e4
  · obtain ⟨e, p, e1⟩ := R1.io i a h
    exact ⟨by rw [ke e1 (by simp)]; exact e, p, e1⟩
theorem RE.unwipe {K : PySem.W.Frag} {G : Gd} {H : Hp} {σ : L2.St} {ρ : En} {pd : Pds} {vs : List Nat} (R1 : RE K G H (L2.wipe σ vs) (wipeE ρ vs) pd) : RE K G H σ (wipeE ρ vs) pd := by
  refine R1.sig (wipe_length σ vs).symm fun i s e n => ?_
  by_cases h : i ∈ vs
  · rw [wipeE_in h] at e
    split at e
    · cases e; exact absurd rfl n
    · cases e
  · exact (wipe_out h).symm
theorem wipe_agree {σ σ' : L2.St} {vs : List Nat} (l : σ'.length = σ.length) (k : ∀ i : Nat, i ∉ vs → σ'[i]? = σ[i]?) : L2.wipe σ' vs = L2.wipe σ vs := by
  refine List.ext_getElem? fun i => ?_
  by_cases h : i ∈ vs
  · rw [wipe_in h, wipe_in h, l]
  · rw [wipe_out h, wipe_out h, k i h]
theorem wipe_wipe (σ : L2.St) (vs : List Nat) : L2.wipe (L2.wipe σ vs) vs = L2.wipe σ vs := by
  refine List.ext_getElem? fun i => ?_
  by_cases h : i ∈ vs
  · rw [wipe_in h, wipe_in h, wipe_length]
  · rw [wipe_out h]
/-- the private object changed -/
theorem RE.readd {K : PySem.W.Frag} {G : Gd} {H : Hp} {σ : L2.St} {ρ : En} {pd : Pds} {a : Addr} {o o' : HO} (R1 : RE K (G.add a o) H σ ρ pd) (m : Mut (some o')) : RE K (G.add a o') (upd H a o') σ ρ pd := by
  have we : ∀ b, WS (G.add a o') σ ρ b ↔ WS (G.add a o) σ ρ b := fun b => Iff.rfl
  have Wa : WS (G.add a o) σ ρ a := .inl (.inl rfl)
  have kp : ∀ b u, H b = some u → ¬ WS (G.add a o) σ ρ b → upd H a o' b = some u := fun b u e n => by
    have ne : b ≠ a := fun z => n (by rw [z]; exact Wa)
    rw [upd_ne ne]; exact e
  have mv := fun p v h => Is.move (K := K) kp R1.mut (W' := WS (G.add a o') σ ρ) (fun _ _ w => w) p v h
  have kne : ∀ c, (G.add a o).keep c = none → c ≠ a ∧ G.keep c = none := fun c e => by
    have e' : upd G.keep a o c = none := e
    by_cases z : c = a
    · rw [z, upd_same] at e'; cases e'
    · rw [upd_ne z] at e'; exact ⟨z, e'⟩
  refine ⟨R1.len, fun i p e => ?_, fun i b p e => ?_, R1.inj, R1.io, fun b u e => ?_, fun b w => ?_, fun x hx => mv _ _ (R1.pd x hx)⟩
  · obtain ⟨v, e1, h⟩ := R1.val i p e
    exact ⟨v, e1, mv _ _ h⟩
  · obtain ⟨c, e1, n, u, e2, h⟩ := R1.own i b p e
    obtain ⟨ne, n'⟩ := kne c n
    exact ⟨c, e1, by show upd G.keep a o' c = none; rw [upd_ne ne]; exact n', u, by rw [upd_ne ne]; exact e2, h.move kp R1.mut fun _ _ w => w⟩
  · have e' : upd G.keep a o' b = some u := e
    by_cases z : b = a
    · rw [z] at e' ⊢; rw [upd_same] at e' ⊢; exact e'
    · rw [upd_ne z] at e' ⊢
      exact R1.keep b u (by show upd G.keep a o b = some u; rw [upd_ne z]; exact e')
  · rcases w with w | w
    · rw [w]; exact ⟨o', upd_same, m⟩
    · obtain ⟨u, e1, m1⟩ := R1.exk b (.inr w)
      have e2 : upd G.keep a o b = some u := e1
      by_cases z : b = a
      · rw [z]; exact ⟨o', upd_same, m⟩
      · rw [upd_ne z] at e2
        exact ⟨u, by show upd G.keep a o' b = some u; rw [upd_ne z]; exact e2, m1⟩
/-- tests of a comprehension -/
structure QCs (X : Cx) (es : List Expr) (t : QTT) : Prop where
  ex : ∃ tt, PTs X es tt ∧ RzT X.K tt t
def qYes (ρ : En) (Q : Bool → En → Prop) : Prop := Q true ρ
theorem qcs_nil {X : Cx} : QCs X [] qYes := ⟨_, pts_nil, fun G H σ ρ pd Q F R1 h f => f true ρ H R1 h⟩
theorem qcs_one {X : Cx} {e : Expr} {t : QTT} (h : QC X e t) : QCs X [e] t := by
  obtain ⟨t1, p, q⟩ := h.ex
  exact ⟨_, pts_one p, q⟩
theorem QCs.all {ι : Type} {X : ι → Cx} {es : List Expr} {t : QTT} {K : PySem.W.Frag} (hK : ∀ c, (X c).K = K) (h : ∀ c, QCs (X c) es t) : ∃ tt, (∀ c, PTs (X c) es tt) ∧ RzT K tt t := by
  refine ⟨fun σ H F => ∀ c, (Classical.choose (h c).ex) σ H F, fun c => ⟨fun pins s σ H Q I hw => (Classical.choose_spec (h c).ex).1.run pins s σ H Q I (hw c)⟩, fun G H σ ρ pd Q F R1 hq f c => ?_⟩
  have z : RzT (X c).K (Classical.choose (h c).ex) t := (Classical.choose_spec (h c).ex).2
  exact z G H σ ρ pd Q F (by rw [hK c]; exact R1) hq (by rw [hK c]; exact f)
def lcGo (g : QTG) (tt : QTT) (te : QT) (vs : List Nat) (Q : List PV → En → Prop) : List PV → List PV → En → Prop
  | [], acc, ρ => Q acc ρ
  | p :: ps, acc, ρ => g p ρ fun ρ1 => tt ρ1 fun b ρ2 => Br b (te ρ2 fun r ρ3 => match r.wk with
      | .pv q => small (acc.length + 1) ∧ notIos ρ3 vs ∧ lcGo g tt te vs Q ps (acc ++ [q]) (wipeE ρ3 vs)
      | _ => False) (notIos ρ2 vs ∧ lcGo g tt te vs Q ps acc (wipeE ρ2 vs))
def lcR (g : QTG) (tt : QTT) (te : QT) (vs : List Nat) (ps : List PV) (ρ : En) (Q : PK1) (_ : Dum Q) : Prop := lcGo g tt te vs (fun acc ρ' => Q (.fr (.lst acc)) ρ') ps [] ρ
def qLc (ti : QTI) (g : QTG) (tt : QTT) (te : QT) (vs : List Nat) (ρ : En) (Q : PK1) : Prop := ti ρ fun ps ρ1 => notIos ρ1 vs ∧ lcR g tt te vs ps (wipeE ρ1 vs) Q .mk
abbrev BlkI (X : Cx) := Shared × Hp × Addr × List (Str × Addr) × List Addr
abbrev blkX (X : Cx) (scope : Scope) (c : BlkI X) : Cx := X.blk c.1 c.2.1 scope (compEnvC scope c.2.2.2.1 c.2.2.1 X.env) c.2.2.2.2
theorem add_keep {G : Gd} {D : Addr} {o : HO} {kp : Hp} (kD : G.keep D = none) (h : ∀ b o, kp b = some o → G.keep b = some o) : ∀ b u, kp b = some u → (G.add D o).keep b = some u := fun b u e => by
  have ne : b ≠ D := fun z => by have := h b u e; rw [z, kD] at this; cases this
  show upd G.keep D o b = some u
  rw [upd_ne ne]; exact h b u e
theorem lc_walk {K : PySem.W.Frag} {g : TG} {tt : TT} {te : TE} {vs sl : List Nat} {qg : QTG} {qt : QTT} {qe : QT} (h2 : RzG K g sl qg) (h3 : RzT K tt qt) (h4 : Rz K te qe) (hs : ∀ i ∈ sl, i ∈ vs) {G : Gd} {H1 : Hp} {σ : L2.St} {ρ1 : En} {pd pd1 : Pds} {J : It} {ps : List PV} {Q : PK1} {F : VK} (sb : ∀ x ∈ pd, x ∈ pd1)
    (R2 : RE K G H1 σ ρ1 pd1) (wk : Wk K J ps pd1 G.keep) (nio : notIos ρ1 vs) (go : lcR qg qt qe vs ps (wipeE ρ1 vs) Q .mk) (f : ∀ r ρ' v H', Res K G H' σ ρ' pd r v → Q r ρ' → F v H') :
    ∀ D, H1 D = none → ∃ W : Nat → Nat → Hp → Prop, (∃ m, W 0 m (upd H1 D (.lst []))) ∧ ∀ i m H, W i m H →
      (J.stop i H ∧ F (.ref D) H) ∨ (J.go i H ∧ ∃ Nx : Hp → Prop, (∀ H', Nx H' → ∃ m', m' < m ∧ W (i + 1) m' H') ∧ ∀ x H', J.yld i H x H' → g x (L2.wipe σ vs) H' fun σ2 H2 => L2.wipe σ2 vs = L2.wipe σ vs ∧ tt σ2 H2 fun b H3 =>
        if b = true then te σ2 H3 fun y H4 => ∃ acc, H4 D = some (.lst acc) ∧ acc.length < sizeLine ∧ Nx (upd H4 D (.lst (acc ++ [y]))) else Nx H3) := by
  intro D hD
  have kx := R2.exk
  have kD : G.keep D = none := by
    cases q : G.keep D with
    | none => rfl
    | some u => rw [R2.keep D u q] at hD; cases hD
  let W : Nat → Nat → Hp → Prop := fun i m H => m = ps.length - i ∧ i ≤ ps.length ∧ ∃ (ρ' : En) (acc : List PV) (av : List V), RE K (G.add D (.lst av)) H (L2.wipe σ vs) (wipeE ρ' vs) (acc.zip av ++ pd1) ∧ acc.length = av.length ∧ lcGo qg qt qe vs (fun acc ρ' => Q (.fr (.lst acc)) ρ') (ps.drop i) acc (wipeE ρ' vs)
  refine ⟨W, ⟨ps.length, by simp, Nat.zero_le _, ρ1, [], [], ?_, rfl, go⟩, ?_⟩
  · exact (R2.wipe vs nio).add (o := .lst []) hD (same_new hD) upd_same trivial
  rintro i m H2 ⟨rfl, hi, ρ', acc, av, R3, la, g1⟩
  by_cases lt : i < ps.length
  · have ep : ps[i]? = some ps[i] := List.getElem?_eq_getElem lt
    obtain ⟨jg, jy⟩ := wk.item _ H2 _ _ _ i _ (fun x hx => List.mem_append_right _ hx) (add_keep kD fun _ _ e => e) R3 ep
    refine .inr ⟨jg, fun H' => W (i + 1) (ps.length - (i + 1)) H', fun H' w => ⟨_, by omega, w⟩, fun x H3 y => ?_⟩
    have R4 := jy x H3 y
    rw [List.drop_eq_getElem_cons lt] at g1
    refine h2 _ H3 _ _ _ _ x _ _ R4 g1 fun σ2 ρ2 H4 l2 k2 R5 g2 => ?_
    have wa : L2.wipe σ2 vs = L2.wipe σ vs := by
      rw [← wipe_wipe σ vs]
      exact wipe_agree l2 fun j hj => k2 j fun z => hj (hs j z)
    refine ⟨wa, h3 _ H4 σ2 ρ2 _ _ _ R5 g2 fun b ρ3 H5 R6 g3 => ?_⟩
    cases b with
    | false =>
      obtain ⟨n3, g4⟩ := g3.2 rfl
      refine ⟨rfl, lt, ρ3, acc, av, ?_, la, g4⟩
      have R7 := R6.wipe vs n3
      rw [wa] at R7
      exact R7
    | true =>
      have g4 := g3.1 rfl
      show te σ2 H5 _
      refine h4 _ H5 σ2 ρ3 _ _ _ R6 g4 fun r ρ4 v H6 s g5 => ?_
      have s' := s.wk
      cases er : r.wk with
      | pv q =>
        rw [er] at s' g5
        obtain ⟨sm, n5, g6⟩ := g5
        have R7 : RE K (G.add D (.lst av)) H6 σ2 ρ4 ((q, v) :: (acc.zip av ++ pd1)) := s'
        refine ⟨av, R7.keep D _ upd_same, by rw [← la]; exact sm, rfl, lt, ρ4, acc ++ [q], av ++ [v], ?_, by simp [la], g6⟩
        have R8 := (R7.wipe vs n5).readd (o' := .lst (av ++ [v])) trivial
        rw [wa] at R8
        refine R8.pds fun x hx => ?_
        rw [List.zip_append la] at hx
        rcases List.mem_append.mp hx with hx | hx
        · rcases List.mem_append.mp hx with hx | hx
          · exact List.mem_cons_of_mem _ (List.mem_append_left _ hx)
          · have : x = (q, v) := by simpa using hx
            rw [this]; exact List.mem_cons_self
        · exact List.mem_cons_of_mem _ (List.mem_append_right _ hx)
      | sl j => rw [er] at g5; exact g5.elim
      | fr q => rw [er] at g5; exact g5.elim
  · have e : i = ps.length := by omega
    subst e
    refine .inl ⟨wk.stop _ H2 _ _ _ _ (fun x hx => List.mem_append_right _ hx) (add_keep kD fun _ _ e => e) R3 (Nat.le_refl _), ?_⟩
    rw [List.drop_length] at g1
    have R4 := R3.unwipe
    refine f (.fr (.lst acc)) (wipeE ρ' vs) (.ref D) H2 ⟨D, .lst av, rfl, kD, kx, R4.pds fun x hx => List.mem_append_right _ (sb x hx), ?_⟩ g1
    show Iss K H2 (WS (G.add D (.lst av)) σ (wipeE ρ' vs)) acc av
    have hall : ∀ x ∈ acc.zip av, Is K H2 (WS (G.add D (.lst av)) σ (wipeE ρ' vs)) x.1 x.2 := fun x hx => R4.pd x (List.mem_append_left _ hx)
    clear g1 R3 R4
    revert la hall
    generalize WS (G.add D (.lst av)) σ (wipeE ρ' vs) = W'
    intro la hall
    clear W f go
    induction acc generalizing av with
    | nil => cases av with
      | nil => rfl
      | cons _ _ => simp at la
    | cons p acc ih =>
      cases av with
      | nil => simp at la
      | cons v av => exact ⟨v, av, rfl, hall (p, v) List.mem_cons_self, ih av (by simpa using la) fun x hx => hall x (List.mem_cons_of_mem _ hx)⟩
theorem rz_lc {K : PySem.W.Frag} {wi : TI} {g : TG} {tt : TT} {te : TE} {vs sl : List Nat} {ti : QTI} {qg : QTG} {qt : QTT} {qe : QT} (h1 : RzI K wi ti) (h2 : RzG K g sl qg) (h3 : RzT K tt qt) (h4 : Rz K te qe) (hs : ∀ i ∈ sl, i ∈ vs) : Rz K (tLc wi g tt te vs) (qLc ti qg qt qe vs) := by
  intro G H σ ρ pd Q F R1 hw f
  exact h1 G H σ ρ pd _ _ R1 hw fun J ps ρ1 pd1 H1 sb R2 wk ⟨nio, go⟩ => lc_walk h2 h3 h4 hs sb R2 wk nio go f
section
variable {X : Cx} {elt tg iter : Expr} {ifs : List Expr} {scope : Scope} {own : List (Str × Nat)} {pos : Pos} {ti : QTI} {g : QTG} {tt : QTT} {te : QT} {sl : List Nat}
theorem qe_lc (hc : X.calm = true) (hN : X.N.Nodup) (ok : BlkOk X.N X.env.scope scope own) (hi : QI X tg iter ti) (hg : ∀ c, QG (blkX X scope c) tg sl g) (ht : ∀ c, QCs (blkX X scope c) ifs tt) (he : ∀ c, QE (blkX X scope c) elt te)
    (hs : ∀ i ∈ sl, i ∈ own.map (·.2) := by decide) (hf : ∀ x, foldedSetIterable iter X.env x = pure x := by intro _; rfl) {vs : List Nat} (hv : vs = own.map (·.2) := by rfl) : QE X (.ListComp elt [⟨tg, iter, ifs, 0⟩] scope pos) (qLc ti g tt te vs) := by
  subst hv
  obtain ⟨wi, p1, q1⟩ := hi.ex
  obtain ⟨g1, p2, q2⟩ := QG.all (X := blkX X scope) (K := X.K) (fun _ => rfl) hg
  obtain ⟨t1, p3, q3⟩ := QCs.all (X := blkX X scope) (K := X.K) (fun _ => rfl) ht
  obtain ⟨e1, p4, q4⟩ := QE.all (X := blkX X scope) (K := X.K) (fun _ => rfl) he
  exact ⟨_, pe_lc hc hN p1 ok (fun s H C cl fp => p2 (s, H, C, cl, fp)) (fun s H C cl fp => p3 (s, H, C, cl, fp)) (fun s H C cl fp => p4 (s, H, C, cl, fp)) hf, rz_lc q1 q2 q3 q4 hs⟩
end
end Px
namespace Px
open PySem L2 PyProof.Rows

/-! ### statements -/
structure PEnds where
  nx : En → Prop
  rt : R → En → Prop
  bk : En → Prop := fun _ => False
  ct : En → Prop := fun _ => False
abbrev QTS := PEnds → En → Prop
structure EndsOk (K : PySem.W.Frag) (G : Gd) (pd : Pds) (D' : PEnds) (D : Ends) : Prop where
  nx : ∀ σ ρ H, RE K G H σ ρ pd → D'.nx ρ → D.nx σ H
  rt : ∀ r v σ ρ H, Res K G H σ ρ pd r v → D'.rt r ρ → D.rt v H
  bk : ∀ σ ρ H, RE K G H σ ρ pd → D'.bk ρ → D.bk σ H
  ct : ∀ σ ρ H, RE K G H σ ρ pd → D'.ct ρ → D.ct σ H
def RzS (K : PySem.W.Frag) (ts : TS) (t : QTS) : Prop := ∀ (G : Gd) (H : Hp) (σ : L2.St) (ρ : En) (pd : Pds) (D' : PEnds) (D : Ends), RE K G H σ ρ pd → t D' ρ → EndsOk K G pd D' D → ts D σ H
structure QS (X : Cx) (st : Stmt) (t : QTS) : Prop where
  ex : ∃ ts, PS X st ts ∧ RzS X.K ts t
structure QSs (X : Cx) (st : List Stmt) (t : QTS) : Prop where
  ex : ∃ ts, PSs X st ts ∧ RzS X.K ts t
theorem EndsOk.more {K : PySem.W.Frag} {G : Gd} {pd pd' : Pds} {D' : PEnds} {D : Ends} (e : EndsOk K G pd D' D) (s : ∀ x ∈ pd, x ∈ pd') : EndsOk K G pd' D' D :=
  ⟨fun σ ρ H R h => e.nx σ ρ H (R.pds s) h, fun r v σ ρ H R h => e.rt r v σ ρ H (R.pds s) h, fun σ ρ H R h => e.bk σ ρ H (R.pds s) h, fun σ ρ H R h => e.ct σ ρ H (R.pds s) h⟩
section
variable {X : Cx} {st : Stmt} {rest a b body : List Stmt} {t u : QTS} {c e tg iter : Expr} {te : QT} {tc : QTT} {g : QTG} {ti : QTI} {sl : List Nat} {pos : Pos}
def qNext (D : PEnds) (ρ : En) : Prop := D.nx ρ
def qSeq (t u : QTS) (D : PEnds) (ρ : En) : Prop := t { nx := u D, rt := D.rt, bk := D.bk, ct := D.ct } ρ
theorem qss_nil : QSs X [] qNext := ⟨_, pss_nil, fun G H σ ρ pd D' D R1 h e => e.nx σ ρ H R1 h⟩
theorem qss_cons (h1 : QS X st t) (h2 : QSs X rest u) : QSs X (st :: rest) (qSeq t u) := by
  obtain ⟨t1, p1, q1⟩ := h1.ex
  obtain ⟨t2, p2, q2⟩ := h2.ex
  refine ⟨_, pss_cons p1 p2, fun G H σ ρ pd D' D R1 h e => ?_⟩
  exact q1 G H σ ρ pd _ _ R1 h ⟨fun σ' ρ' H' R2 g => q2 G H' σ' ρ' pd D' D R2 g e, e.rt, e.bk, e.ct⟩
theorem qss_one (h1 : QS X st t) : QSs X [st] t := by
  obtain ⟨t1, p1, q1⟩ := h1.ex
  exact ⟨_, pss_one p1, q1⟩
theorem qs_pass : QS X (.Pass pos) qNext := ⟨_, ps_pass, fun G H σ ρ pd D' D R1 h e => e.nx σ ρ H R1 h⟩
theorem qs_doc {x : Str} {j : Nat} {pos' : Pos} : QS X (.Expr (.Constant (.str x) j pos) pos') qNext := ⟨_, ps_doc, fun G H σ ρ pd D' D R1 h e => e.nx σ ρ H R1 h⟩
def qBreak (D : PEnds) (ρ : En) : Prop := D.bk ρ
def qCont (D : PEnds) (ρ : En) : Prop := D.ct ρ
theorem qs_break : QS X (.Break pos) qBreak := ⟨_, ps_break, fun G H σ ρ pd D' D R1 h e => e.bk σ ρ H R1 h⟩
theorem qs_continue : QS X (.Continue pos) qCont := ⟨_, ps_continue, fun G H σ ρ pd D' D R1 h e => e.ct σ ρ H R1 h⟩
/-- code that is never come to -/
def qNever (_ : PEnds) (_ : En) : Prop := False
theorem qs_never : QS X st qNever := ⟨_, ps_never, fun G H σ ρ pd D' D R1 h e => h.elim⟩
theorem qss_never : QSs X rest qNever := ⟨_, pss_never, fun G H σ ρ pd D' D R1 h e => h.elim⟩
/-- from here on a slot's own object is a value -/
def frz (ρ : En) (i : Nat) : Option En := match ρ[i]? with
  | some (Sl.own false p) => some (ρ.set i (.val p))
  | _ => none
def qFrz (i : Nat) (t : QTS) (D : PEnds) (ρ : En) : Prop := match frz ρ i with
  | some ρ' => t D ρ'
  | none => False
theorem rz_frz {K : PySem.W.Frag} {ts : TS} {i : Nat} (q : RzS K ts t) : RzS K ts (qFrz i t) := by
  intro G H σ ρ pd D' D R1 h e
  unfold qFrz at h
  cases hf : frz ρ i with
  | none => rw [hf] at h; exact h.elim
  | some ρ' =>
    rw [hf] at h
    unfold frz at hf
    cases es : ρ[i]? with
    | none => rw [es] at hf; cases hf
    | some s =>
      rw [es] at hf
      cases s with
      | own b p =>
        cases b with
        | true => cases hf
        | false => cases hf; exact q G H σ _ pd D' D (R1.freeze es) h e
      | _ => cases hf
theorem qs_frz (i : Nat) (h : QS X st t) : QS X st (qFrz i t) := by
  obtain ⟨t1, p1, q1⟩ := h.ex
  exact ⟨_, p1, rz_frz q1⟩
theorem qss_frz (i : Nat) (h : QSs X rest t) : QSs X rest (qFrz i t) := by
  obtain ⟨t1, p1, q1⟩ := h.ex
  exact ⟨_, p1, rz_frz q1⟩
def qDrop (t : QT) (D : PEnds) (ρ : En) : Prop := t ρ fun _ ρ1 => D.nx ρ1
theorem qs_expr (h : QE X e te) (hs : swapsWith e none pos.line X.env = pure false := by rfl) : QS X (.Expr e pos) (qDrop te) := by
  obtain ⟨t1, p1, q1⟩ := h.ex
  exact ⟨_, ps_expr p1 hs, fun G H σ ρ pd D' D R1 h e => q1 G H σ ρ pd _ _ R1 h fun r ρ' v H' s g => e.nx σ ρ' H' s.re g⟩
def retG (r : R) (ρ : En) (rt : R → En → Prop) : Prop := match r with
  | .sl i => match ρ[i]? with
    | some (Sl.own false p) => rt (.fr p) (ρ.set i Sl.un)
    | _ => False
  | r => rt r ρ
def qRet (t : QT) (D : PEnds) (ρ : En) : Prop := t ρ fun r ρ1 => retG r ρ1 D.rt
theorem qs_ret (h : QE X e te) : QS X (.Return (some e) pos) (qRet te) := by
  obtain ⟨t1, p1, q1⟩ := h.ex
  refine ⟨_, ps_ret p1, fun G H σ ρ pd D' D R1 h e => q1 G H σ ρ pd _ _ R1 h fun r ρ' v H' s g => ?_⟩
  cases r with
  | sl i =>
    unfold retG at g
    simp only at g
    obtain ⟨R2, e1, b, p, e2⟩ := s
    rw [e2] at g
    cases b with
    | true => exact g.elim
    | false =>
      obtain ⟨a, o, e3, n, R3, w⟩ := R2.release e2
      rw [e1] at e3; cases e3
      exact e.rt (.fr p) _ σ _ H' ⟨a, o, rfl, n, R2.exk, R3, w⟩ g
  | pv p => exact e.rt _ v σ ρ' H' s g
  | fr p => exact e.rt _ v σ ρ' H' s g
def qRetN (D : PEnds) (ρ : En) : Prop := D.rt (.pv .non) ρ
theorem qs_retN : QS X (.Return none pos) qRetN := ⟨_, ps_retN, fun G H σ ρ pd D' D R1 h e => e.rt (.pv .non) .non σ ρ H (R1.push rfl) h⟩
def qIf (c : QTT) (t u : QTS) (D : PEnds) (ρ : En) : Prop := c ρ fun b ρ1 => Br b (t D ρ1) (u D ρ1)
theorem qs_if (hc : QC X c tc) (ha : QSs X a t) (hb : QSs X b u) : QS X (.If c a b pos) (qIf tc t u) := by
  obtain ⟨t1, p1, q1⟩ := hc.ex
  obtain ⟨t2, p2, q2⟩ := ha.ex
  obtain ⟨t3, p3, q3⟩ := hb.ex
  refine ⟨_, ps_if p1 p2 p3, fun G H σ ρ pd D' D R1 h e => q1 G H σ ρ pd _ _ R1 h fun b ρ' H' R2 g => ?_⟩
  cases b with
  | true => exact (q2 G H' σ ρ' pd D' D R2 (g.1 rfl) e : _)
  | false => exact (q3 G H' σ ρ' pd D' D R2 (g.2 rfl) e : _)

/-! ### stores -/
def qSet (i : Nat) (t : QT) (D : PEnds) (ρ : En) : Prop := t ρ fun r ρ1 => match r.wk with
  | .pv p => notIo ρ1 i = true ∧ D.nx (ρ1.set i (.val p))
  | _ => False
/-- the slot owns what is new -/
def qOwn (i : Nat) (t : QT) (D : PEnds) (ρ : En) : Prop := t ρ fun r ρ1 => match r with
  | .fr p => notIo ρ1 i = true ∧ i < ρ1.length ∧ D.nx (ρ1.set i (.own false p))
  | _ => False
theorem rz_set {K : PySem.W.Frag} {t : TE} {i : Nat} (q : Rz K t te) : RzS K (tAsg t (gName i)) (qSet i te) := by
  intro G H σ ρ pd D' D R1 h e
  refine q G H σ ρ pd _ _ R1 h fun r ρ' v H' s g => ?_
  have s' := s.wk
  cases er : r.wk with
  | pv p =>
    rw [er] at s' g
    exact e.nx _ _ H' (RE.set s' g.1) g.2
  | sl j => rw [er] at g; exact g.elim
  | fr p => rw [er] at g; exact g.elim
theorem rz_own {K : PySem.W.Frag} {t : TE} {i : Nat} (q : Rz K t te) : RzS K (tAsg t (gName i)) (qOwn i te) := by
  intro G H σ ρ pd D' D R1 h e
  refine q G H σ ρ pd _ _ R1 h fun r ρ' v H' s g => ?_
  cases r with
  | fr p =>
    obtain ⟨a, o, rfl, n, kx, R2, w⟩ := s
    exact e.nx _ _ H' (R2.setOwn g.1 g.2.1 n kx w) g.2.2
  | pv p => exact g.elim
  | sl j => exact g.elim
section
variable {x : Str} {i : Nat} {pos' : Pos}
theorem qs_set (i : Nat) (hN : X.N.Nodup) (he : QE X e te) (hi : X.N[i]? = some x := by rfl) (hx : Loc X.env.scope x := by first | exact Or.inl rfl | exact Or.inr rfl) (hs : swapsWith e (some (.Name x pos')) pos.line X.env = pure false := by rfl) (hf : X.fn x = true ∨ X.env.scope.names.lookup x = some .local := by first | exact .inl rfl | exact .inr rfl) :
    QS X (.Assign [.Name x pos'] e pos) (qSet i te) := by
  obtain ⟨t, p, q⟩ := he.ex
  exact ⟨_, ps_set hN hi hx p hs hf, rz_set q⟩
theorem qs_own (i : Nat) (hN : X.N.Nodup) (he : QE X e te) (hi : X.N[i]? = some x := by rfl) (hx : Loc X.env.scope x := by first | exact Or.inl rfl | exact Or.inr rfl) (hs : swapsWith e (some (.Name x pos')) pos.line X.env = pure false := by rfl) (hf : X.fn x = true ∨ X.env.scope.names.lookup x = some .local := by first | exact .inl rfl | exact .inr rfl) :
    QS X (.Assign [.Name x pos'] e pos) (qOwn i te) := by
  obtain ⟨t, p, q⟩ := he.ex
  exact ⟨_, ps_set hN hi hx p hs hf, rz_own q⟩
end
section
variable {elt tg iter : Expr} {ifs : List Expr} {scope : Scope} {own : List (Str × Nat)} {spos py : Pos} {y : Str} {tt : QTT}
theorem ex_setLc (i : Nat) (hc : X.calm = true) (hN : X.N.Nodup) (hsw : swapsWith (.ListComp elt [⟨tg, iter, ifs, 0⟩] scope pos) (some (.Name y py)) spos.line X.env = pure true) (ok : BlkOk X.N X.env.scope scope own) (hi : QI X tg iter ti) (hg : ∀ c, QG (blkX X scope c) tg sl g) (ht : ∀ c, QCs (blkX X scope c) ifs tt) (he : ∀ c, QE (blkX X scope c) elt te)
    (hs : ∀ i ∈ sl, i ∈ own.map (·.2)) (hy : X.N[i]? = some y) (hyl : X.env.scope.names.lookup y = some .local) (hf : ∀ x, foldedSetIterable iter X.env x = pure x) :
    ∃ t, PS X (.Assign [.Name y py] (.ListComp elt [⟨tg, iter, ifs, 0⟩] scope pos) spos) (tAsg t (gName i)) ∧ Rz X.K t (qLc ti g tt te (own.map (·.2))) := by
  obtain ⟨wi, p1, q1⟩ := hi.ex
  obtain ⟨g1, p2, q2⟩ := QG.all (X := blkX X scope) (K := X.K) (fun _ => rfl) hg
  obtain ⟨t1, p3, q3⟩ := QCs.all (X := blkX X scope) (K := X.K) (fun _ => rfl) ht
  obtain ⟨e1, p4, q4⟩ := QE.all (X := blkX X scope) (K := X.K) (fun _ => rfl) he
  exact ⟨_, ps_setLc hc hN hy hyl hsw p1 ok (fun s H C cl fp => p2 (s, H, C, cl, fp)) (fun s H C cl fp => p3 (s, H, C, cl, fp)) (fun s H C cl fp => p4 (s, H, C, cl, fp)) hf, rz_lc q1 q2 q3 q4 hs⟩
theorem qs_setLc (i : Nat) (hc : X.calm = true) (hN : X.N.Nodup) (hsw : swapsWith (.ListComp elt [⟨tg, iter, ifs, 0⟩] scope pos) (some (.Name y py)) spos.line X.env = pure true) (ok : BlkOk X.N X.env.scope scope own) (hi : QI X tg iter ti) (hg : ∀ c, QG (blkX X scope c) tg sl g) (ht : ∀ c, QCs (blkX X scope c) ifs tt) (he : ∀ c, QE (blkX X scope c) elt te)
    (hs : ∀ i ∈ sl, i ∈ own.map (·.2) := by decide) (hy : X.N[i]? = some y := by rfl) (hyl : X.env.scope.names.lookup y = some .local := by rfl) (hf : ∀ x, foldedSetIterable iter X.env x = pure x := by intro _; rfl) {vs : List Nat} (hv : vs = own.map (·.2) := by rfl) :
    QS X (.Assign [.Name y py] (.ListComp elt [⟨tg, iter, ifs, 0⟩] scope pos) spos) (qSet i (qLc ti g tt te vs)) := by
  subst hv
  obtain ⟨t, p, q⟩ := ex_setLc i hc hN hsw ok hi hg ht he hs hy hyl hf
  exact ⟨_, p, rz_set q⟩
theorem qs_ownLc (i : Nat) (hc : X.calm = true) (hN : X.N.Nodup) (hsw : swapsWith (.ListComp elt [⟨tg, iter, ifs, 0⟩] scope pos) (some (.Name y py)) spos.line X.env = pure true) (ok : BlkOk X.N X.env.scope scope own) (hi : QI X tg iter ti) (hg : ∀ c, QG (blkX X scope c) tg sl g) (ht : ∀ c, QCs (blkX X scope c) ifs tt) (he : ∀ c, QE (blkX X scope c) elt te)
    (hs : ∀ i ∈ sl, i ∈ own.map (·.2) := by decide) (hy : X.N[i]? = some y := by rfl) (hyl : X.env.scope.names.lookup y = some .local := by rfl) (hf : ∀ x, foldedSetIterable iter X.env x = pure x := by intro _; rfl) {vs : List Nat} (hv : vs = own.map (·.2) := by rfl) :
    QS X (.Assign [.Name y py] (.ListComp elt [⟨tg, iter, ifs, 0⟩] scope pos) spos) (qOwn i (qLc ti g tt te vs)) := by
  subst hv
  obtain ⟨t, p, q⟩ := ex_setLc i hc hN hsw ok hi hg ht he hs hy hyl hf
  exact ⟨_, p, rz_own q⟩
end
def qAsg (t : QT) (g : QTG) (D : PEnds) (ρ : En) : Prop := t ρ fun r ρ1 => match r.wk with
  | .pv p => g p ρ1 D.nx
  | _ => False
theorem qs_asg (he : QE X e te) (hg : QG X tg sl g) (hs : swapsWithSole [tg] e pos.line X.env = pure false := by rfl) (hw : swappedStores [tg] e X.env = pure none := by rfl)
    (h1 : (assignEach [tg] X.env).map (·.2) = [assign tg X.env] := by rfl) : QS X (.Assign [tg] e pos) (qAsg te g) := by
  obtain ⟨t, p, q⟩ := he.ex
  obtain ⟨g1, p1, q1⟩ := hg.ex
  refine ⟨_, ps_asg p p1 hs hw h1, fun G H σ ρ pd D' D R1 h e => ?_⟩
  refine q G H σ ρ pd _ _ R1 h fun r ρ' v H' s g => ?_
  have s' := s.wk
  cases er : r.wk with
  | pv p =>
    rw [er] at s' g
    exact q1 G H' σ ρ' pd p v _ _ s' g fun σ2 ρ2 H2 _ _ R2 g2 => e.nx σ2 ρ2 H2 R2 g2
  | sl j => rw [er] at g; exact g.elim
  | fr p => rw [er] at g; exact g.elim

/-! ### loops -/
def forGo (g : QTG) (body : QTS) (D : PEnds) : List PV → En → Prop
  | [], ρ => D.nx ρ
  | p :: ps, ρ => g p ρ fun ρ1 => body { nx := fun ρ2 => forGo g body D ps ρ2, rt := D.rt, bk := D.nx, ct := fun ρ2 => forGo g body D ps ρ2 } ρ1
def qFor (ti : QTI) (g : QTG) (body : QTS) (D : PEnds) (ρ : En) : Prop := ti ρ fun ps ρ1 => forGo g body D ps ρ1
theorem for_walk {X : Cx} {g1 : TG} {t1 : TS} {g : QTG} {t : QTS} {sl : List Nat} (q2 : RzG X.K g1 sl g) (q3 : RzS X.K t1 t) {G : Gd} {H1 : Hp} {σ : L2.St} {ρ1 : En} {pd pd1 : Pds} {J : It} {ps : List PV} {D' : PEnds} {D : Ends} (sb : ∀ x ∈ pd, x ∈ pd1) (R2 : RE X.K G H1 σ ρ1 pd1) (wk : Wk X.K J ps pd1 G.keep) (go : forGo g t D' ps ρ1) (e : EndsOk X.K G pd D' D) :
    ∃ W : Nat → Nat → L2.St → Hp → Prop, (∃ m, W 0 m σ H1) ∧ ∀ i m σ H, W i m σ H → (J.stop i H ∧ D.nx σ H) ∨ (J.go i H ∧ ∃ N : L2.St → Hp → Prop, (∀ σ' H', N σ' H' → ∃ m', m' < m ∧ W (i + 1) m' σ' H') ∧ ∀ v H', J.yld i H v H' → g1 v σ H' fun σ2 H2 => t1 { D with nx := N, ct := N, bk := D.nx } σ2 H2) := by
  let W : Nat → Nat → L2.St → Hp → Prop := fun i m σ H => m = ps.length - i ∧ i ≤ ps.length ∧ ∃ ρ, RE X.K G H σ ρ pd1 ∧ forGo g t D' (ps.drop i) ρ
  refine ⟨W, ⟨ps.length, by simp, Nat.zero_le _, ρ1, R2, go⟩, ?_⟩
  rintro i m σ H ⟨rfl, hi, ρ2, R3, g3⟩
  by_cases lt : i < ps.length
  · have ep : ps[i]? = some ps[i] := List.getElem?_eq_getElem lt
    obtain ⟨jg, jy⟩ := wk.item G H σ ρ2 pd1 i _ (fun _ hx => hx) (fun _ _ e => e) R3 ep
    refine .inr ⟨jg, fun σ' H' => W (i + 1) (ps.length - (i + 1)) σ' H', fun σ' H' w => ⟨_, by omega, w⟩, fun x H' y => ?_⟩
    rw [List.drop_eq_getElem_cons lt] at g3
    refine q2 G H' σ ρ2 pd1 _ x _ _ (jy x H' y) g3 fun σ3 ρ3 H3 _ _ R4 g4 => ?_
    have e1 := e.more sb
    exact q3 G H3 σ3 ρ3 pd1 _ _ R4 g4 ⟨fun σ ρ H R h => ⟨rfl, lt, ρ, R, h⟩, e1.rt, e1.nx, fun σ ρ H R h => ⟨rfl, lt, ρ, R, h⟩⟩
  · have el : i = ps.length := by omega
    subst el
    rw [List.drop_length] at g3
    exact .inl ⟨wk.stop G H σ ρ2 pd1 _ (fun _ hx => hx) (fun _ _ e => e) R3 (Nat.le_refl _), (e.more sb).nx σ ρ2 H R3 g3⟩
theorem qs_for (hp : PassesOwn (model X.prog X.w) X.A X.env X.xe) (hc : X.calm = true) (hi : QI X tg iter ti) (hg : QG X tg sl g) (hb : QSs X body t)
    (hs : ∀ x, foldedSetIterable iter X.env x = pure x := by intro _; rfl) : QS X (.For tg iter body [] pos) (qFor ti g t) := by
  obtain ⟨wi, p1, q1⟩ := hi.ex
  obtain ⟨g1, p2, q2⟩ := hg.ex
  obtain ⟨t1, p3, q3⟩ := hb.ex
  refine ⟨_, ps_for hp hc p1 p2 p3 hs, fun G H σ ρ pd D' D R1 h e => ?_⟩
  exact q1 G H σ ρ pd _ _ R1 h fun J ps ρ1 pd1 H1 sb R2 wk go => for_walk q2 q3 sb R2 wk go e
def qWhile (c : QTT) (body : QTS) (D : PEnds) (ρ : En) : Prop := ∃ I : Nat → En → Prop, (∃ m, I m ρ) ∧ ∀ m ρ, I m ρ →
  c ρ fun b ρ1 => Br b (body { nx := fun ρ' => ∃ m', m' < m ∧ I m' ρ', rt := D.rt, bk := D.nx, ct := fun ρ' => ∃ m', m' < m ∧ I m' ρ' } ρ1) (D.nx ρ1)
theorem qs_while (hp : PassesOwn (model X.prog X.w) X.A X.env X.xe) (hc : QC X c tc) (hb : QSs X body t) : QS X (.While c body [] pos) (qWhile tc t) := by
  obtain ⟨t1, p1, q1⟩ := hc.ex
  obtain ⟨t2, p2, q2⟩ := hb.ex
  refine ⟨_, ps_while hp p1 p2, fun G H σ ρ pd D' D R1 h e => ?_⟩
  obtain ⟨I, ⟨m0, i0⟩, turn⟩ := h
  refine ⟨fun m σ H => ∃ ρ, RE X.K G H σ ρ pd ∧ I m ρ, ⟨m0, ρ, R1, i0⟩, ?_⟩
  rintro m σ H ⟨ρ2, R2, i2⟩
  refine q1 G H σ ρ2 pd _ _ R2 (turn m ρ2 i2) fun b ρ3 H3 R3 g => ?_
  cases b with
  | true =>
    refine ⟨fun σ' H' => ∃ m', m' < m ∧ ∃ ρ, RE X.K G H' σ' ρ pd ∧ I m' ρ, fun σ' H' h => h, ?_⟩
    exact q2 G H3 σ ρ3 pd _ _ R3 (g.1 rfl) ⟨fun σ ρ H R ⟨m', l, i⟩ => ⟨m', l, ρ, R, i⟩, e.rt, e.nx, fun σ ρ H R ⟨m', l, i⟩ => ⟨m', l, ρ, R, i⟩⟩
  | false => exact e.nx σ ρ3 H3 R3 (g.2 rfl)

/-! ### what a slot owns, changed -/
abbrev GM := PV → List PV → (PV → PV → Prop) → Prop
def RealM (K : PySem.W.Frag) (T : String) (r : V → List V → Hp → VK → Prop) (f : GM) : Prop := ∀ (H : Hp) (W : Addr → Prop) (p : PV) (a : Addr) (o : HO) (ps : List PV) (xs : List V) (Q : PV → PV → Prop) (F : VK), MutT H W → W a → H a = some o → OwnO K H W p o → Iss K H W ps xs → f p ps Q →
  (∀ v o' z p', OwnO K H W p' o' → Is K H W z v → Q z p' → F v (upd H a o')) → r (.ref a) xs H F
def MtP (X : Cx) (T : String) (id : String) (f : GM) : Prop := ∃ r, MtR X id r ∧ RealM X.K T r f
/-- what type a slot's own object has -/
def ownTy (T : String) (ρ : En) (i : Nat) : Prop := match ρ[i]? with
  | some (Sl.own _ (.lst _)) => T = "list"
  | some (Sl.own _ (.dic _ _)) => T = "dict"
  | _ => False
def qMut (T : String) (i : Nat) (f : GM) (ta : QTA) (ρ : En) (Q : PK1) : Prop := ownTy T ρ i ∧ ta ρ fun rs ρ1 => match vals rs, ρ1[i]? with
  | some ps, some (Sl.own b p) => f p ps fun z p' => Q (.pv z) (ρ1.set i (.own b p'))
  | _, _ => False
theorem ty_own {K : PySem.W.Frag} {G : Gd} {H : Hp} {σ : L2.St} {ρ : En} {pd : Pds} {T : String} {i : Nat} {a : Addr} (R1 : RE K G H σ ρ pd) (h : ownTy T ρ i) (e : σ[i]? = some (some (V.ref a))) : tyV K T (.ref a) H := by
  unfold ownTy at h
  cases es : ρ[i]? with
  | none => rw [es] at h; exact h.elim
  | some s =>
    rw [es] at h
    cases s with
    | own b p =>
      obtain ⟨c, e1, _, o, e2, w⟩ := R1.own i b p es
      rw [e] at e1; cases e1
      cases p with
      | lst ps =>
        cases o with
        | lst vs => exact .inl ⟨h, vs, .inl (.inl e2)⟩
        | _ => exact w.elim
      | dic ks ps =>
        cases o with
        | dK kvs => exact .inr (.inr (.inl ⟨h, .inl ⟨kvs, e2⟩⟩))
        | _ => exact w.elim
      | _ => exact h.elim
    | _ => exact h.elim
theorem own_at {ρ : En} {T : String} {i : Nat} (h : ownTy T ρ i) : ∃ b p, ρ[i]? = some (Sl.own b p) := by
  unfold ownTy at h
  cases es : ρ[i]? with
  | none => rw [es] at h; exact h.elim
  | some s =>
    rw [es] at h
    cases s with
    | own b p => exact ⟨b, p, rfl⟩
    | _ => exact h.elim
theorem rz_mut {K : PySem.W.Frag} {T : String} {i : Nat} {r : V → List V → Hp → VK → Prop} {f : GM} (hr : RealM K T r f) {G : Gd} {H H1 : Hp} {σ : L2.St} {ρ ρ1 : En} {pd pd1 : Pds} {rs : List R} {vs : List V} {a : Addr} {Q : PK1} {F : VK} (sb : ∀ x ∈ pd, x ∈ pd1) (e : σ[i]? = some (some (V.ref a)))
    (R2 : RE K G H1 σ ρ1 pd1) (ar : ArgsR σ pd1 rs vs) (g : match vals rs, ρ1[i]? with
      | some ps, some (Sl.own b p) => f p ps fun z p' => Q (.pv z) (ρ1.set i (.own b p'))
      | _, _ => False) (ff : ∀ r ρ' v H', Res K G H' σ ρ' pd r v → Q r ρ' → F v H') : r (.ref a) vs H1 F := by
  cases ev : vals rs with
  | none => rw [ev] at g; exact g.elim
  | some ps =>
    cases es : ρ1[i]? with
    | none => rw [ev, es] at g; exact g.elim
    | some s =>
      rw [ev, es] at g
      cases s with
      | un => exact g.elim
      | val p => exact g.elim
      | own b p =>
        obtain ⟨c, e1, k, o, e2, w⟩ := R2.own i b p es
        rw [e] at e1; cases e1
        have Wa : WS G σ ρ1 a := .inr ⟨i, b, p, es, e⟩
        refine hr H1 _ p a o ps vs _ F R2.mut Wa e2 w (vals_iss R2 ar ev) g fun v o' z p' w' hz hq => ?_
        exact ff (.pv z) _ v _ (((R2.push hz).mutate es e w').pds fun x hx => by
          rcases List.mem_cons.mp hx with e | hx
          · rw [e]; exact List.mem_cons_self
          · exact List.mem_cons_of_mem _ (sb x hx)) hq
section
variable {T id name : String} {x : Str} {ar : Expr} {es : List Expr} {ta : QTA} {f : GM} {apos npos cpos : Pos}
theorem qe_mut {nm : Str} (i : Nat) (hm : MtP X T id f) (pa : PlainAttrs T) (slot : Slot T nm id) (hty : typeOf (.builtin id) = pure (.type "method_descriptor")) (ha : QA X (ar :: es) ta) (hN : X.N[i]? = some x := by rfl) (hv : Vis X.env.scope x := by first | exact Or.inl rfl | exact Or.inr (Or.inl rfl) | exact Or.inr (Or.inr rfl)) (hd : (x == ("__debug__" : Str)) = false := by decide)
    (hcd : (x == ("__classdict__" : Str)) = false := by decide)
    (hbase : attributeBase (.Name x npos) nm X.env (eval (.Name x npos) X.env) = eval (.Name x npos) X.env := by rfl)
    (hfew : ((backTo cpos (starEach (ar :: es) X.env)).all (fun x => !x.1) && (backToKw cpos (keywordEach [] X.env)).all (fun x => x.1.isSome)
      && decide ((ar :: es).length + ([] : List Keyword).length + (if ([] : List Keyword).isEmpty then 0 else 1) < 30)) = true := by rfl)
    (hline : (apos.endLine == cpos.line) = true := by rfl) (hs : starEach (ar :: es) X.env = (false, eval ar X.env) :: starEach es X.env := by rfl) (hplain : (backTo cpos (starEach es X.env)).any (·.1) = false := by rfl) :
    QE X (.Call (.Attribute (.Name x npos) nm apos) (ar :: es) [] cpos) (qMut T i f ta) := by
  obtain ⟨r, h1, h2⟩ := hm
  obtain ⟨t, p, q⟩ := ha.ex
  refine ⟨_, pe_bm pa slot hty h1 (pe_var hN hv hd hcd) p hbase hfew hline hs hplain, fun G H σ ρ pd Q F R1 h ff => ?_⟩
  obtain ⟨b, p0, e0⟩ := own_at h.1
  obtain ⟨a, e, _⟩ := R1.own i b p0 e0
  refine ⟨.ref a, e, ty_own R1 h.1 e, ?_⟩
  exact q G H σ ρ pd _ _ R1 h.2 fun rs ρ1 pd1 vs H1 sb R2 ar g => rz_mut h2 (H := H) (ρ := ρ) sb e R2 ar g ff
theorem qe_mut0 {nm : Str} (i : Nat) (hm : MtP X T id f) (pa : PlainAttrs T) (slot : Slot T nm id) (hty : typeOf (.builtin id) = pure (.type "method_descriptor")) (hN : X.N[i]? = some x := by rfl) (hv : Vis X.env.scope x := by first | exact Or.inl rfl | exact Or.inr (Or.inl rfl) | exact Or.inr (Or.inr rfl)) (hd : (x == ("__debug__" : Str)) = false := by decide)
    (hcd : (x == ("__classdict__" : Str)) = false := by decide)
    (hbase : attributeBase (.Name x npos) nm X.env (eval (.Name x npos) X.env) = eval (.Name x npos) X.env := by rfl) (hline : (apos.endLine == cpos.line) = true := by rfl) :
    QE X (.Call (.Attribute (.Name x npos) nm apos) [] [] cpos) (qMut T i f qNil) := by
  obtain ⟨r, h1, h2⟩ := hm
  refine ⟨_, pe_bm0 pa slot hty h1 (pe_var hN hv hd hcd) hbase hline, fun G H σ ρ pd Q F R1 h ff => ?_⟩
  obtain ⟨b, p0, e0⟩ := own_at h.1
  obtain ⟨a, e, _⟩ := R1.own i b p0 e0
  refine ⟨.ref a, e, ty_own R1 h.1 e, ?_⟩
  exact rz_mut h2 (H := H) (ρ := ρ) (fun _ hx => hx) e R1 .nil h.2 ff
end
def gAppend (p : PV) (ps : List PV) (Q : PV → PV → Prop) : Prop := match p, ps with
  | .lst xs, [q] => small (xs.length + 1) ∧ Q .non (.lst (xs ++ [q]))
  | _, _ => False
theorem gAppend_inv {p : PV} {ps : List PV} {Q : PV → PV → Prop} (g : gAppend p ps Q) : ∃ xs q, p = .lst xs ∧ ps = [q] ∧ small (xs.length + 1) ∧ Q .non (.lst (xs ++ [q])) := by
  unfold gAppend at g
  split at g
  · exact ⟨_, _, rfl, rfl, g⟩
  · exact g.elim
theorem OwnO.lst {K : PySem.W.Frag} {H : Hp} {W : Addr → Prop} {ps : List PV} {o : HO} (w : OwnO K H W (.lst ps) o) : ∃ vs, o = .lst vs ∧ Iss K H W ps vs := by
  cases o with
  | lst vs => exact ⟨vs, rfl, w⟩
  | _ => exact w.elim
theorem Iss.one {K : PySem.W.Frag} {H : Hp} {W : Addr → Prop} {p : PV} {xs : List V} (i : Iss K H W [p] xs) : ∃ v, xs = [v] ∧ Is K H W p v := by
  obtain ⟨v, r, rfl, h1, h2⟩ := i
  cases (show r = [] from h2)
  exact ⟨v, rfl, h1⟩
theorem m_append : MtP X "list" "list.append" gAppend := by
  refine ⟨_, mt_append, fun H W p a o ps xs Q F m wa e w i g f => ?_⟩
  obtain ⟨qs, q, rfl, rfl, sm, g⟩ := gAppend_inv g
  obtain ⟨vs, rfl, w⟩ := w.lst
  obtain ⟨v, rfl, h1⟩ := i.one
  exact ⟨a, vs, v, rfl, rfl, e, by have z := small_lt sm; rw [w.length] at z; exact z, f .non (.lst (vs ++ [v])) .non (.lst (qs ++ [q])) (Iss.append w (Iss.cons h1 Iss.nil)) rfl g⟩
def gExtend (p : PV) (ps : List PV) (Q : PV → PV → Prop) : Prop := match p, ps with
  | .lst xs, [.lst ys] => small (xs.length + ys.length) ∧ Q .non (.lst (xs ++ ys))
  | .lst xs, [.tup ys] => small (xs.length + ys.length) ∧ Q .non (.lst (xs ++ ys))
  | _, _ => False
theorem MtR.or' {id : String} {r r' : V → List V → Hp → VK → Prop} (h : MtR X id r) (h' : MtR X id r') : MtR X id (fun x xs H Q => r x xs H Q ∨ r' x xs H Q) := MtR.or h h'
theorem gExtend_inv {p : PV} {ps : List PV} {Q : PV → PV → Prop} (g : gExtend p ps Q) : ∃ xs ys, p = .lst xs ∧ (ps = [.lst ys] ∨ ps = [.tup ys]) ∧ small (xs.length + ys.length) ∧ Q .non (.lst (xs ++ ys)) := by
  unfold gExtend at g
  split at g
  · exact ⟨_, _, rfl, .inl rfl, g⟩
  · exact ⟨_, _, rfl, .inr rfl, g⟩
  · exact g.elim
theorem m_extend : MtP X "list" "list.extend" gExtend := by
  refine ⟨_, MtR.or' mt_extend mt_extT, fun H W p a o ps xs Q F m wa e w i g f => ?_⟩
  obtain ⟨qs, ys, rfl, hp, sm, g'⟩ := gExtend_inv g
  obtain ⟨vs, rfl, w⟩ := w.lst
  rcases hp with rfl | rfl
  · obtain ⟨v, rfl, h1⟩ := i.one
    obtain ⟨b, us, rfl, n, hb, hu⟩ : ∃ b us, v = .ref b ∧ ¬ W b ∧ H b = some (.lst us) ∧ Iss X.K H W ys us := h1
    exact .inl ⟨a, b, vs, us, rfl, rfl, e, hb, by have z := small_le sm; rw [w.length, hu.length] at z; exact z, f .non (.lst (vs ++ us)) .non (.lst (qs ++ ys)) (Iss.append w hu) rfl g'⟩
  · obtain ⟨v, rfl, h1⟩ := i.one
    obtain ⟨b, us, rfl, hb, hu⟩ : ∃ b us, v = .ref b ∧ H b = some (.tup us) ∧ Iss X.K H W ys us := h1
    exact .inr ⟨a, b, vs, us, rfl, rfl, e, .inl (.inl hb), by have z := small_le sm; rw [w.length, hu.length] at z; exact z, f .non (.lst (vs ++ us)) .non (.lst (qs ++ ys)) (Iss.append w hu) rfl g'⟩
def gPop (p : PV) (ps : List PV) (Q : PV → PV → Prop) : Prop := match p, ps with
  | .lst xs, [] => match xs.getLast? with
    | some q => Q q (.lst xs.dropLast)
    | none => False
  | _, _ => False
theorem Iss.dropLast {K : PySem.W.Frag} {H : Hp} {W : Addr → Prop} {ps : List PV} {vs : List V} (h : Iss K H W ps vs) : Iss K H W ps.dropLast vs.dropLast := by
  rw [List.dropLast_eq_take, List.dropLast_eq_take, h.length]
  exact h.take _
theorem gPop_inv {p : PV} {ps : List PV} {Q : PV → PV → Prop} (g : gPop p ps Q) : ∃ xs q, p = .lst xs ∧ ps = [] ∧ xs.getLast? = some q ∧ Q q (.lst xs.dropLast) := by
  unfold gPop at g
  split at g
  · split at g
    · rename_i h; exact ⟨_, _, rfl, rfl, h, g⟩
    · exact g.elim
  · exact g.elim
theorem m_pop : MtP X "list" "list.pop" gPop := by
  refine ⟨_, mt_pop, fun H W p a o ps xs Q F m wa e w i g f => ?_⟩
  obtain ⟨qs, q, rfl, rfl, eq, g⟩ := gPop_inv g
  obtain ⟨vs, rfl, w⟩ := w.lst
  cases (show xs = [] from i)
  rw [List.getLast?_eq_getElem?] at eq
  obtain ⟨v, hv, hi⟩ := w.getP eq
  exact ⟨a, vs, v, rfl, rfl, e, by rw [← w.length]; exact hv, f v (.lst vs.dropLast) q (.lst qs.dropLast) (Iss.dropLast w) hi g⟩
def isOwn (ρ : En) (i : Nat) : Prop := match ρ[i]? with
  | some (Sl.own _ _) => True
  | _ => False
theorem isOwn.ex {ρ : En} {i : Nat} (h : isOwn ρ i) : ∃ b p, ρ[i]? = some (Sl.own b p) := by
  unfold isOwn at h
  cases es : ρ[i]? with
  | none => rw [es] at h; exact h.elim
  | some s =>
    rw [es] at h
    cases s with
    | own b p => exact ⟨b, p, rfl⟩
    | _ => exact h.elim
/-- xs[k] = e, xs a slot's own list -/
def qSetIx (i : Nat) (t ti : QT) (D : PEnds) (ρ : En) : Prop := t ρ fun r ρ1 => match r.wk with
  | .pv q => isOwn ρ1 i ∧ ti ρ1 fun r2 ρ2 => match ρ2[i]? with
    | some (Sl.own b (.lst ps)) => match r2 with
      | .pv (.int k) => match ixN ps.length k with
        | some j => D.nx (ρ2.set i (.own b (.lst (ps.set j q))))
        | none => False
      | _ => False
    | some (Sl.own b (.dic ks ps)) => match r2 with
      | .pv p => match keyP p with
        | some k => small (ks.length + 1) ∧ D.nx (ρ2.set i (.own b (.dic (putKs ks k) (putPs ks ps k q))))
        | none => False
      | _ => False
    | _ => False
  | _ => False
theorem qs_setIx {x : Str} {ix : Expr} {tix : QT} {npos spos' : Pos} (hu : X.A.units + 65 < cLine) (i : Nat) (he : QE X e te) (hi : QE X ix tix) (hN : X.N[i]? = some x := by rfl) (hv : Vis X.env.scope x := by first | exact Or.inl rfl | exact Or.inr (Or.inl rfl) | exact Or.inr (Or.inr rfl)) (hd : (x == ("__debug__" : Str)) = false := by decide)
    (hcd : (x == ("__classdict__" : Str)) = false := by decide)
    (ha : ∀ v, assign (.Subscript (.Name x npos) ix spos') X.env v = (do
      let ov ← holding [v] (eval (.Name x npos) X.env)
      let iv ← holding [v, ov] (eval ix X.env)
      standAt spos'
      holding [v, ov, iv] (setItem ov iv v)
      release [v, ov, iv] []) := by intro _; rfl)
    (hs : swapsWithSole [.Subscript (.Name x npos) ix spos'] e pos.line X.env = pure false := by rfl) (hw : swappedStores [.Subscript (.Name x npos) ix spos'] e X.env = pure none := by rfl)
    (h1 : (assignEach [.Subscript (.Name x npos) ix spos'] X.env).map (·.2) = [assign (.Subscript (.Name x npos) ix spos') X.env] := by rfl) :
    QS X (.Assign [.Subscript (.Name x npos) ix spos'] e pos) (qSetIx i te tix) := by
  obtain ⟨t, p, q⟩ := he.ex
  obtain ⟨t2, p2, q2⟩ := hi.ex
  refine ⟨_, ps_asg p (pg_sub (pe_var hN hv hd hcd) p2 (PSet.or set_list (set_dict hu)) ha) hs hw h1, fun G H σ ρ pd D' D R1 h ee => ?_⟩
  refine q G H σ ρ pd _ _ R1 h fun r ρ1 v H1 s g => ?_
  have s' := s.wk
  cases er : r.wk with
  | sl j => rw [er] at g; exact g.elim
  | fr p => rw [er] at g; exact g.elim
  | pv qv =>
    rw [er] at s' g
    have R2 : RE X.K G H1 σ ρ1 ((qv, v) :: pd) := s'
    obtain ⟨ho, g⟩ := g
    obtain ⟨b0, p0, e0⟩ := ho.ex
    obtain ⟨a, ea, _⟩ := R2.own i b0 p0 e0
    refine ⟨.ref a, ea, ?_⟩
    refine q2 G H1 σ ρ1 _ _ _ R2 g fun r2 ρ2 kv H2 s2 g2 => ?_
    cases es : ρ2[i]? with
    | none => rw [es] at g2; exact g2.elim
    | some sv =>
      rw [es] at g2
      cases sv with
      | un => exact g2.elim
      | val p => exact g2.elim
      | own b pp =>
        cases r2 with
        | sl _ => cases pp <;> exact g2.elim
        | fr _ => cases pp <;> exact g2.elim
        | pv kp =>
        have R3 : RE X.K G H2 σ ρ2 ((kp, kv) :: (qv, v) :: pd) := s2
        have hv : Is X.K H2 (WS G σ ρ2) qv v := R3.pd (qv, v) (List.mem_cons_of_mem _ List.mem_cons_self)
        obtain ⟨c, ec, k0, o, Hc, w⟩ := R3.own i b _ es
        rw [ea] at ec; cases ec
        cases pp with
        | lst ps =>
          cases kp with
          | int k =>
            have ek : kv = .int k := R3.pd (.int k, kv) List.mem_cons_self
            subst ek
            cases o with
            | lst vs =>
              have w' : Iss X.K H2 (WS G σ ρ2) ps vs := w
              have g3 : match ixN ps.length k with
                | some j => D'.nx (ρ2.set i (.own b (.lst (ps.set j qv))))
                | none => False := g2
              cases ej : ixN ps.length k with
              | none => rw [ej] at g3; exact g3.elim
              | some j =>
                rw [ej] at g3
                refine .inl ⟨a, vs, k, j, rfl, rfl, Hc, by rw [← w'.length]; exact ej, ?_⟩
                exact ee.nx _ _ _ ((R3.tl.tl).mutate es ea (o' := .lst (vs.set j v)) (p' := .lst (ps.set j qv)) (Iss.set hv j w')) g3
            | _ => exact w.elim
          | _ => exact g2.elim
        | dic ks ps =>
          have g3 : match keyP kp with
            | some k => small (ks.length + 1) ∧ D'.nx (ρ2.set i (.own b (.dic (putKs ks k) (putPs ks ps k qv))))
            | none => False := g2
          cases ek : keyP kp with
          | none => rw [ek] at g3; exact g3.elim
          | some k =>
            rw [ek] at g3
            obtain ⟨sm, g3⟩ := g3
            have hk : Is X.K H2 (WS G σ ρ2) kp kv := R3.pd (kp, kv) List.mem_cons_self
            obtain ⟨e5, ko⟩ := keyP_is hk ek
            cases o with
            | dK kvs =>
              obtain ⟨vs, e6, le, ok, w'⟩ : ∃ vs, kvs = ks.zip vs ∧ ks.length = vs.length ∧ ks.all keyOk = true ∧ Iss X.K H2 (WS G σ ρ2) ps vs := w
              subst e6
              obtain ⟨e7, e8⟩ := put_zip (j := k) (v := v) le
              refine .inr ⟨a, _, k, rfl, e5, Hc, by rw [zip_len le]; exact small_lt sm, ?_⟩
              exact ee.nx _ _ _ ((R3.tl.tl).mutate es ea (o' := .dK (putK (ks.zip vs) k v)) (p' := .dic (putKs ks k) (putPs ks ps k qv)) ⟨putPs ks vs k v, e7, e8, putKs_ok ok ko, putPs_is w' hv⟩) g3
            | _ => exact w.elim
        | _ => exact g2.elim
end
end Px
namespace Px
open PySem L2 PyProof.Rows

/-! ### what a def is promised to do. io: which parameters the caller owns and the def may change; fr: the answer is a new object -/
structure FS where
  io : List Bool
  fr : Bool := false
  pre : List PV → Prop
  post : List PV → PV → List PV → Prop
def mk (io : List Bool) (ps : List PV) : En := List.zipWith (fun b p => if b = true then Sl.own true p else Sl.val p) io ps
def outsOf : List Bool → En → List PV
  | true :: fs, .own _ p :: ρ => p :: outsOf fs ρ
  | true :: fs, _ :: ρ => .non :: outsOf fs ρ
  | false :: fs, _ :: ρ => outsOf fs ρ
  | true :: fs, [] => .non :: outsOf fs []
  | false :: fs, [] => outsOf fs []
  | [], _ => []
/-- the outs by parameter -/
def sel : List Bool → List PV → List (Option PV)
  | true :: fs, q :: qs => some q :: sel fs qs
  | true :: fs, [] => none :: sel fs []
  | false :: fs, qs => none :: sel fs qs
  | [], _ => []
def Iob (io : List Bool) (vs : List V) (b : Addr) : Prop := ∃ i : Nat, io[i]? = some true ∧ vs[i]? = some (V.ref b)
open Classical in
noncomputable def G0 (H : Hp) (io : List Bool) (vs : List V) (ex : Addr → Prop) : Gd := ⟨fun b => if Iob io vs b then none else H b, ex, fun i a => io[i]? = some true ∧ vs[i]? = some (V.ref a)⟩
theorem G0_no {H : Hp} {io : List Bool} {vs : List V} {ex : Addr → Prop} {b : Addr} (h : Iob io vs b) : (G0 H io vs ex).keep b = none := if_pos h
theorem G0_yes {H : Hp} {io : List Bool} {vs : List V} {ex : Addr → Prop} {b : Addr} (h : ¬ Iob io vs b) : (G0 H io vs ex).keep b = H b := if_neg h
theorem G0_of {H : Hp} {io : List Bool} {vs : List V} {ex : Addr → Prop} {b : Addr} {o : HO} (e : (G0 H io vs ex).keep b = some o) : ¬ Iob io vs b ∧ H b = some o := by
  have n : ¬ Iob io vs b := fun z => by rw [G0_no z] at e; cases e
  rw [G0_yes n] at e
  exact ⟨n, e⟩
/-- what the caller may count on, behind the call -/
structure Fin (K : PySem.W.Frag) (S : FS) (H : Hp) (ex : Addr → Prop) (vs : List V) (v : V) (H' : Hp) (r : PV) (outs : List PV) : Prop where
  keep : ∀ b o, H b = some o → ¬ Iob S.io vs b → H' b = some o
  outs : ∀ (i : Nat) (q : PV) (a : Addr), (sel S.io outs)[i]? = some (some q) → vs[i]? = some (V.ref a) → Own K H' (fun b => ex b ∨ Iob S.io vs b ∨ (S.fr = true ∧ v = .ref b)) q a
  res : S.fr = false → Is K H' (fun b => ex b ∨ Iob S.io vs b) r v
  new : S.fr = true → ∃ a o, v = .ref a ∧ H a = none ∧ H' a = some o ∧ OwnO K H' (fun b => ex b ∨ Iob S.io vs b ∨ (S.fr = true ∧ v = .ref b)) r o
def spP (K : PySem.W.Frag) (S : FS) : Sp := fun vs H Q _ => ∃ (ps : List PV) (ex : Addr → Prop), ps.length = S.io.length ∧ vs.length = S.io.length ∧ RE K (G0 H S.io vs ex) H (vs.map some) (mk S.io ps) [] ∧ S.pre ps ∧
  ∀ v H' r outs, S.post ps r outs → outs.length = (S.io.filter id).length → Fin K S H ex vs v H' r outs → Q v H'

/-! ### a call -/
def splitArgs (ρ : En) : List Bool → List R → Option (List PV × List Nat)
  | [], [] => some ([], [])
  | false :: fs, .pv p :: rs => match splitArgs ρ fs rs with
    | some (ps, js) => some (p :: ps, js)
    | none => none
  | true :: fs, .sl j :: rs => match ρ[j]?, splitArgs ρ fs rs with
    | some (Sl.own _ p), some (ps, js) => some (p :: ps, j :: js)
    | _, _ => none
  | _, _ => none
def setOwn (ρ : En) (j : Nat) (q : PV) : En := match ρ[j]? with
  | some (Sl.own b _) => ρ.set j (Sl.own b q)
  | _ => ρ
def putOuts : List Nat → List PV → En → En
  | j :: js, q :: qs, ρ => putOuts js qs (setOwn ρ j q)
  | _, _, ρ => ρ
def callR (S : FS) (rs : List R) (ρ1 : En) (Q : PK1) (_ : Dum Q) : Prop := match splitArgs ρ1 S.io rs with
  | some (ps, js) => js.Nodup ∧ S.pre ps ∧ ∀ r outs, S.post ps r outs → outs.length = js.length → Q (if S.fr = true then .fr r else .pv r) (putOuts js outs ρ1)
  | none => False
def qCall (S : FS) (ta : QTA) (ρ : En) (Q : PK1) : Prop := ta ρ fun rs ρ1 => callR S rs ρ1 Q .mk
theorem putOuts_spec : ∀ {js : List Nat} {qs : List PV} {ρ : En}, js.Nodup → qs.length = js.length → (∀ j ∈ js, ∃ b p, ρ[j]? = some (Sl.own b p)) →
    (putOuts js qs ρ).length = ρ.length ∧ (∀ i : Nat, i ∉ js → (putOuts js qs ρ)[i]? = ρ[i]?) ∧ ∀ (k j : Nat) (q : PV), js[k]? = some j → qs[k]? = some q → ∃ b p, ρ[j]? = some (Sl.own b p) ∧ (putOuts js qs ρ)[j]? = some (Sl.own b q)
  | [], qs, ρ, _, l, _ => by
    cases qs with
    | nil => exact ⟨rfl, fun _ _ => rfl, fun k j q e => by simp at e⟩
    | cons _ _ => simp at l
  | j :: js, [], ρ, _, l, _ => by simp at l
  | j :: js, q :: qs, ρ, nd, l, o => by
    obtain ⟨b, p, e⟩ := o j List.mem_cons_self
    have nj : j ∉ js := (List.nodup_cons.mp nd).1
    have es : setOwn ρ j q = ρ.set j (Sl.own b q) := by unfold setOwn; rw [e]
    have lj : j < ρ.length := (List.getElem?_eq_some_iff.mp e).1
    have ih := putOuts_spec (js := js) (qs := qs) (ρ := ρ.set j (Sl.own b q)) (List.nodup_cons.mp nd).2 (by simpa using l) (fun i hi => by
      have ne : j ≠ i := fun z => nj (by rw [z]; exact hi)
      rw [ix_ne ne]
      exact o i (List.mem_cons_of_mem _ hi))
    unfold putOuts
    rw [es]
    refine ⟨by rw [ih.1, List.length_set], fun i hi => ?_, fun k m q' e1 e2 => ?_⟩
    · rw [ih.2.1 i fun z => hi (List.mem_cons_of_mem _ z)]
      exact ix_ne fun z => hi (by rw [z]; exact List.mem_cons_self)
    · cases k with
      | zero =>
        cases e1
        cases e2
        exact ⟨b, p, e, by rw [ih.2.1 _ nj, List.getElem?_set_self lj]⟩
      | succ k =>
        obtain ⟨b', p', h1, h2⟩ := ih.2.2 k m q' (by simpa using e1) (by simpa using e2)
        have ne : j ≠ m := fun z => nj (by rw [z]; exact List.mem_of_getElem? (i := k) (by simpa using e1))
        rw [ix_ne ne] at h1
        exact ⟨b', p', h1, h2⟩
/-- the arguments, one by one: a value, or the j-th slot that the caller owns -/
inductive Spl (σ : L2.St) (ρ : En) (pd : Pds) : List Bool → List V → List PV → List Nat → Prop where
  | nil : Spl σ ρ pd [] [] [] []
  | val {fs : List Bool} {v : V} {vs : List V} {p : PV} {ps : List PV} {js : List Nat} (h : (p, v) ∈ pd) (t : Spl σ ρ pd fs vs ps js) : Spl σ ρ pd (false :: fs) (v :: vs) (p :: ps) js
  | own {fs : List Bool} {v : V} {vs : List V} {p : PV} {ps : List PV} {j : Nat} {js : List Nat} {b : Bool} (e : ρ[j]? = some (Sl.own b p)) (h : σ[j]? = some (some v)) (t : Spl σ ρ pd fs vs ps js) : Spl σ ρ pd (true :: fs) (v :: vs) (p :: ps) (j :: js)
theorem spl_of {σ : L2.St} {ρ : En} {pd : Pds} : ∀ {fs : List Bool} {rs : List R} {vs : List V} {ps : List PV} {js : List Nat}, ArgsR σ pd rs vs → splitArgs ρ fs rs = some (ps, js) → Spl σ ρ pd fs vs ps js
  | [], [], _, _, _, a, e => by cases a; cases e; exact .nil
  | [], _ :: _, _, _, _, a, e => by simp [splitArgs] at e
  | false :: fs, [], _, _, _, a, e => by simp [splitArgs] at e
  | true :: fs, [], _, _, _, a, e => by simp [splitArgs] at e
  | false :: fs, r :: rs, _, _, _, a, e => by
    cases r with
    | pv p =>
      cases a with
      | cons h t =>
        unfold splitArgs at e
        cases e1 : splitArgs ρ fs rs with
        | none => rw [e1] at e; cases e
        | some x => rw [e1] at e; cases e; exact .val h (spl_of t e1)
    | _ => simp [splitArgs] at e
  | true :: fs, r :: rs, _, _, _, a, e => by
    cases r with
    | sl j =>
      cases a with
      | cons h t =>
        unfold splitArgs at e
        cases e2 : ρ[j]? with
        | none => rw [e2] at e; simp at e
        | some s =>
          rw [e2] at e
          cases s with
          | own b p =>
            cases e1 : splitArgs ρ fs rs with
            | none => rw [e1] at e; simp at e
            | some x => rw [e1] at e; cases e; exact .own e2 h (spl_of t e1)
          | _ => simp at e
    | _ => simp [splitArgs] at e
theorem Spl.len {σ : L2.St} {ρ : En} {pd : Pds} {fs : List Bool} {vs : List V} {ps : List PV} {js : List Nat} (s : Spl σ ρ pd fs vs ps js) : vs.length = fs.length ∧ ps.length = fs.length ∧ js.length = (fs.filter id).length := by
  induction s with
  | nil => exact ⟨rfl, rfl, rfl⟩
  | val _ _ ih => exact ⟨by simp [ih.1], by simp [ih.2.1], by simp [ih.2.2]⟩
  | own _ _ _ ih => exact ⟨by simp [ih.1], by simp [ih.2.1], by simp [ih.2.2]⟩
theorem Spl.get {σ : L2.St} {ρ : En} {pd : Pds} {fs : List Bool} {vs : List V} {ps : List PV} {js : List Nat} (s : Spl σ ρ pd fs vs ps js) : ∀ {i : Nat} {b : Bool} {p : PV}, fs[i]? = some b → ps[i]? = some p → ∃ v, vs[i]? = some v ∧
    (b = false → (p, v) ∈ pd) ∧ (b = true → ∃ (j : Nat) (c : Bool), j ∈ js ∧ ρ[j]? = some (Sl.own c p) ∧ σ[j]? = some (some v)) := by
  induction s with
  | nil => intro i b p e; simp at e
  | val h t ih =>
    intro i b p e1 e2
    cases i with
    | zero => cases e1; cases e2; exact ⟨_, rfl, fun _ => h, (fun z => nomatch z)⟩
    | succ i => simpa using ih (i := i) (by simpa using e1) (by simpa using e2)
  | own e h t ih =>
    intro i b p e1 e2
    cases i with
    | zero => cases e1; cases e2; exact ⟨_, rfl, (fun z => nomatch z), fun _ => ⟨_, _, List.mem_cons_self, e, h⟩⟩
    | succ i =>
      obtain ⟨v, h1, h2, h3⟩ := ih (i := i) (by simpa using e1) (by simpa using e2)
      exact ⟨v, by simpa using h1, h2, fun z => let ⟨j, c, m, r⟩ := h3 z; ⟨j, c, List.mem_cons_of_mem _ m, r⟩⟩
/-- the k-th owned slot and its parameter -/
theorem Spl.io {σ : L2.St} {ρ : En} {pd : Pds} {fs : List Bool} {vs : List V} {ps : List PV} {js : List Nat} (s : Spl σ ρ pd fs vs ps js) : ∀ {outs : List PV} {k j : Nat} {q : PV}, js[k]? = some j → outs[k]? = some q → ∃ (i : Nat) (v : V), fs[i]? = some true ∧ vs[i]? = some v ∧ σ[j]? = some (some v) ∧ (sel fs outs)[i]? = some (some q) := by
  induction s with
  | nil => intro outs k j q e; simp at e
  | val h t ih =>
    intro outs k j q e1 e2
    obtain ⟨i, v, h1, h2, h3, h4⟩ := ih e1 e2
    exact ⟨i + 1, v, by simpa using h1, by simpa using h2, h3, by simpa [sel] using h4⟩
  | own e h t ih =>
    intro outs k j q e1 e2
    cases outs with
    | nil => simp at e2
    | cons o outs =>
      cases k with
      | zero => cases e1; cases e2; exact ⟨0, _, rfl, rfl, h, rfl⟩
      | succ k =>
        obtain ⟨i, v, h1, h2, h3, h4⟩ := ih (outs := outs) (k := k) (by simpa using e1) (by simpa using e2)
        exact ⟨i + 1, v, by simpa using h1, by simpa using h2, h3, by simpa [sel] using h4⟩
theorem Spl.js {σ : L2.St} {ρ : En} {pd : Pds} {fs : List Bool} {vs : List V} {ps : List PV} {js : List Nat} (s : Spl σ ρ pd fs vs ps js) : ∀ j ∈ js, ∃ b p, ρ[j]? = some (Sl.own b p) := by
  induction s with
  | nil => intro j hj; simp at hj
  | val _ _ ih => exact ih
  | own e _ _ ih =>
    intro j hj
    rcases List.mem_cons.mp hj with rfl | hj
    · exact ⟨_, _, e⟩
    · exact ih j hj
/-- slot and place apart -/
theorem Spl.same {K : PySem.W.Frag} {G : Gd} {H : Hp} {σ : L2.St} {ρ : En} {pd pd0 : Pds} (R1 : RE K G H σ ρ pd0) {fs : List Bool} {vs : List V} {ps : List PV} {js : List Nat} (s : Spl σ ρ pd fs vs ps js) (nd : js.Nodup) : ∀ {i j : Nat} {a : Addr}, fs[i]? = some true → fs[j]? = some true → vs[i]? = some (V.ref a) → vs[j]? = some (V.ref a) → i = j := by
  induction s with
  | nil => intro i j a e; simp at e
  | val h t ih =>
    intro i j a e1 e2 e3 e4
    cases i with
    | zero => simp at e1
    | succ i =>
      cases j with
      | zero => simp at e2
      | succ j => rw [ih nd (i := i) (j := j) (by simpa using e1) (by simpa using e2) (by simpa using e3) (by simpa using e4)]
  | @own fs v vs p ps m js b e h t ih =>
    intro i j a e1 e2 e3 e4
    have back : ∀ {i : Nat} {a : Addr}, fs[i]? = some true → vs[i]? = some (V.ref a) → v = .ref a → False := fun {i a} f1 f2 f3 => by
      obtain ⟨l1, l2, _⟩ := t.len
      have li : i < ps.length := by rw [l2]; exact (List.getElem?_eq_some_iff.mp f1).1
      obtain ⟨v', g1, _, g2⟩ := t.get f1 (List.getElem?_eq_getElem li)
      obtain ⟨j', c, mj, g3, g4⟩ := g2 rfl
      rw [f2] at g1; cases g1
      subst f3
      have z := R1.inj m j' b c _ _ a e g3 h g4
      exact (List.nodup_cons.mp nd).1 (by rw [z]; exact mj)
    cases i with
    | zero =>
      cases j with
      | zero => rfl
      | succ j =>
        simp at e3
        exact (back (by simpa using e2) (by simpa using e4) e3).elim
    | succ i =>
      cases j with
      | zero =>
        simp at e4
        exact (back (by simpa using e1) (by simpa using e3) e4).elim
      | succ j => rw [ih (List.nodup_cons.mp nd).2 (i := i) (j := j) (by simpa using e1) (by simpa using e2) (by simpa using e3) (by simpa using e4)]
theorem mk_get {io : List Bool} {ps : List PV} {i : Nat} {s : Sl} (h : (mk io ps)[i]? = some s) : ∃ b p, io[i]? = some b ∧ ps[i]? = some p ∧ s = if b = true then Sl.own true p else Sl.val p := by
  unfold mk at h
  rw [List.getElem?_zipWith] at h
  cases e1 : io[i]? with
  | none => rw [e1] at h; simp at h
  | some b =>
    cases e2 : ps[i]? with
    | none => rw [e1, e2] at h; simp at h
    | some p => rw [e1, e2] at h; exact ⟨b, p, rfl, rfl, by simpa using h.symm⟩
theorem mk_own {io : List Bool} {ps : List PV} {i : Nat} {b : Bool} {p : PV} (h : (mk io ps)[i]? = some (Sl.own b p)) : io[i]? = some true ∧ ps[i]? = some p ∧ b = true := by
  obtain ⟨c, q, e1, e2, e3⟩ := mk_get h
  cases c with
  | true => simp at e3; obtain ⟨rfl, rfl⟩ := e3; exact ⟨e1, e2, rfl⟩
  | false => simp at e3
theorem mk_val {io : List Bool} {ps : List PV} {i : Nat} {p : PV} (h : (mk io ps)[i]? = some (Sl.val p)) : io[i]? = some false ∧ ps[i]? = some p := by
  obtain ⟨c, q, e1, e2, e3⟩ := mk_get h
  cases c with
  | true => simp at e3
  | false => simp at e3; subst e3; exact ⟨e1, e2⟩
theorem mk_at {io : List Bool} {ps : List PV} {i : Nat} {b : Bool} {p : PV} (h : io[i]? = some b) (h2 : ps[i]? = some p) : (mk io ps)[i]? = some (if b = true then Sl.own true p else Sl.val p) := by
  unfold mk
  rw [List.getElem?_zipWith, h, h2]
section
variable {K : PySem.W.Frag} {G : Gd} {H H' : Hp} {σ : L2.St} {ρ : En} {pd : Pds} {S : FS} {vs : List V} {ps : List PV} {js : List Nat}
/-- the callee's start -/
theorem call_start (R1 : RE K G H σ ρ pd) (s : Spl σ ρ pd S.io vs ps js) (nd : js.Nodup) : RE K (G0 H S.io vs fun b => WS G σ ρ b ∧ ¬ Iob S.io vs b) H (vs.map some) (mk S.io ps) [] ∧ ∀ b, Iob S.io vs b → WS G σ ρ b := by
  obtain ⟨l1, l2, l3⟩ := s.len
  have iob : ∀ b, Iob S.io vs b → WS G σ ρ b := fun b ⟨i, e1, e2⟩ => by
    have li : i < ps.length := by rw [l2]; exact (List.getElem?_eq_some_iff.mp e1).1
    obtain ⟨v, g1, _, g2⟩ := s.get e1 (List.getElem?_eq_getElem li)
    obtain ⟨j, c, mj, g3, g4⟩ := g2 rfl
    rw [e2] at g1; cases g1
    exact .inr ⟨j, c, _, g3, g4⟩
  have sub : ∀ b, WS (G0 H S.io vs fun b => WS G σ ρ b ∧ ¬ Iob S.io vs b) (vs.map some) (mk S.io ps) b → WS G σ ρ b := fun b w => by
    rcases w with w | ⟨i, c, p, e1, e2⟩
    · exact w.1
    · obtain ⟨f1, f2, rfl⟩ := mk_own e1
      refine iob b ⟨i, f1, ?_⟩
      rw [List.getElem?_map] at e2
      cases e : vs[i]? with
      | none => rw [e] at e2; simp at e2
      | some v => rw [e] at e2; simp at e2; rw [e2]
  have vget : ∀ {i : Nat} {v : V}, vs[i]? = some v → (vs.map some)[i]? = some (some v) := fun {i v} e => by rw [List.getElem?_map, e]; rfl
  have vback : ∀ {i : Nat} {v : V}, (vs.map some)[i]? = some (some v) → vs[i]? = some v := fun {i v} e => by
    rw [List.getElem?_map] at e
    cases q : vs[i]? with
    | none => rw [q] at e; simp at e
    | some u => rw [q] at e; simp at e; rw [e]
  refine ⟨⟨?_, fun i p e => ?_, fun i b p e => ?_, fun i j b c p q a e1 e2 e3 e4 => ?_, fun i a h => ?_, fun b o e => ?_, fun b h => ?_, fun x hx => by simp at hx⟩, iob⟩
  · unfold mk; rw [List.length_zipWith, List.length_map, l1, l2]; simp
  · obtain ⟨f1, f2⟩ := mk_val e
    obtain ⟨v, g1, g2, _⟩ := s.get f1 f2
    exact ⟨v, vget g1, Is.anti sub _ _ (R1.pd _ (g2 rfl))⟩
  · obtain ⟨f1, f2, rfl⟩ := mk_own e
    obtain ⟨v, g1, _, g2⟩ := s.get f1 f2
    obtain ⟨j, c, mj, g3, g4⟩ := g2 rfl
    obtain ⟨a, h1, h2, o, h3, w⟩ := R1.own j c p g3
    rw [g4] at h1; cases h1
    exact ⟨a, vget g1, G0_no ⟨i, f1, g1⟩, o, h3, w.anti sub⟩
  · obtain ⟨f1, _, _⟩ := mk_own e1
    obtain ⟨f2, _, _⟩ := mk_own e2
    exact s.same R1 nd f1 f2 (vback e3) (vback e4)
  · have li : i < ps.length := by rw [l2]; exact (List.getElem?_eq_some_iff.mp h.1).1
    exact ⟨vget h.2, ps[i], by rw [mk_at h.1 (List.getElem?_eq_getElem li)]; simp⟩
  · exact (G0_of e).2
  · have m := R1.mut b h.1
    obtain ⟨o, e⟩ := R1.there h.1
    exact ⟨o, (G0_yes h.2).trans e, by rw [e] at m; exact m⟩
/-- behind it -/
theorem call_end {pd0 : Pds} {v : V} {r : PV} {outs : List PV} (R1 : RE K G H σ ρ pd) (sb : ∀ x ∈ pd0, x ∈ pd) (s : Spl σ ρ pd S.io vs ps js) (nd : js.Nodup) (iob : ∀ b, Iob S.io vs b → WS G σ ρ b) (lo : outs.length = js.length)
    (fin : Fin K S H (fun b => WS G σ ρ b ∧ ¬ Iob S.io vs b) vs v H' r outs) : Res K G H' σ (putOuts js outs ρ) pd0 (if S.fr = true then .fr r else .pv r) v := by
  have jo := s.js
  obtain ⟨p1, p2, p3⟩ := putOuts_spec (ρ := ρ) nd lo jo
  have A : Alike ρ (putOuts js outs ρ) := by
    refine ⟨p1, fun i => ?_⟩
    by_cases hi : i ∈ js
    · obtain ⟨k, lk, e⟩ := List.getElem_of_mem hi
      have lk' : k < outs.length := by rw [lo]; exact lk
      obtain ⟨b, p, h1, h2⟩ := p3 k i outs[k] (by rw [List.getElem?_eq_getElem lk, e]) (List.getElem?_eq_getElem lk')
      exact .inr ⟨b, p, _, h1, h2⟩
    · exact .inl (p2 i hi)
  have ws : ∀ b, (WS G σ ρ b ∧ ¬ Iob S.io vs b) ∨ Iob S.io vs b ↔ WS G σ ρ b := fun b => by
    constructor
    · rintro (w | w)
      · exact w.1
      · exact iob b w
    · intro w
      by_cases z : Iob S.io vs b
      · exact .inr z
      · exact .inl ⟨w, z⟩
  -- an owned slot that is no argument: its object stands
  have stay : ∀ (i : Nat) (b : Bool) (q : PV) (a : Addr), i ∉ js → ρ[i]? = some (Sl.own b q) → σ[i]? = some (some (V.ref a)) → ¬ Iob S.io vs a := fun i b q a hi e1 e2 ⟨m, f1, f2⟩ => by
    obtain ⟨_, l2, _⟩ := s.len
    have lm : m < ps.length := by rw [l2]; exact (List.getElem?_eq_some_iff.mp f1).1
    obtain ⟨v', g1, _, g2⟩ := s.get f1 (List.getElem?_eq_getElem lm)
    obtain ⟨j, c, mj, g3, g4⟩ := g2 rfl
    rw [f2] at g1; cases g1
    exact hi (by rw [R1.inj i j b c q _ a e1 g3 e2 g4]; exact mj)
  have keepG : ∀ b o, G.keep b = some o → H' b = some o := fun b o e => by
    refine fin.keep b o (R1.keep b o e) fun z => ?_
    rcases iob b z with w | ⟨i, c, p, e1, e2⟩
    · obtain ⟨m, f1, f2⟩ := z
      obtain ⟨_, l2, _⟩ := s.len
      have lm : m < ps.length := by rw [l2]; exact (List.getElem?_eq_some_iff.mp f1).1
      obtain ⟨v', g1, _, g2⟩ := s.get f1 (List.getElem?_eq_getElem lm)
      obtain ⟨j, c, mj, g3, g4⟩ := g2 rfl
      rw [f2] at g1; cases g1
      obtain ⟨a, h1, h2, _⟩ := R1.own j c _ g3
      rw [g4] at h1; cases h1
      rw [h2] at e; cases e
    · obtain ⟨a, h1, h2, _⟩ := R1.own i c p e1
      rw [e2] at h1; cases h1
      rw [h2] at e; cases e
  cases hf : S.fr with
  | false =>
    have R2 : RE K G H' σ (putOuts js outs ρ) pd := by
      refine R1.swap A (fun b o e n => fin.keep b o e fun z => n (iob b z)) keepG fun i b q a e1 e2 => ?_
      by_cases hi : i ∈ js
      · obtain ⟨k, lk, e⟩ := List.getElem_of_mem hi
        have lk' : k < outs.length := by rw [lo]; exact lk
        have ek : js[k]? = some i := by rw [List.getElem?_eq_getElem lk, e]
        have eo : outs[k]? = some outs[k] := List.getElem?_eq_getElem lk'
        obtain ⟨b', p, h1, h2⟩ := p3 k i outs[k] ek eo
        rw [e1] at h2; cases h2
        obtain ⟨m, v', g1, g2, g3, g4⟩ := s.io ek eo
        rw [e2] at g3; cases g3
        obtain ⟨o, ho, w⟩ := fin.outs m _ a g4 g2
        exact ⟨o, ho, w.anti fun b w => by
          rcases (ws b).2 w with w | w
          · exact .inl w
          · exact .inr (.inl w)⟩
      · rw [p2 i hi] at e1
        obtain ⟨c, f1, f2, o, f3, w⟩ := R1.own i b q e1
        rw [e2] at f1; cases f1
        exact ⟨o, fin.keep a o f3 (stay i b q a hi e1 e2), w.move (fun b o e n => fin.keep b o e fun z => n (iob b z)) R1.mut fun _ _ w => w⟩
    have hw : ∀ b, WS G σ (putOuts js outs ρ) b → WS G σ ρ b := fun b w => by
      rcases w with w | ⟨i, c, q, e1, e2⟩
      · exact .inl w
      · obtain ⟨p, e⟩ := A.back e1
        exact .inr ⟨i, c, p, e, e2⟩
    exact (R2.push (Is.anti (fun b w => (ws b).2 (hw b w)) _ _ (fin.res hf))).pds fun x hx => by
      rcases List.mem_cons.mp hx with e | hx
      · rw [e]; exact List.mem_cons_self
      · exact List.mem_cons_of_mem _ (sb x hx)
  | true =>
    obtain ⟨a, o, rfl, na, ea, w⟩ := fin.new hf
    have kn : G.keep a = none := by
      cases q : G.keep a with
      | none => rfl
      | some u => rw [R1.keep a u q] at na; cases na
    have R2 : RE K (G.add a o) (upd H a o) σ ρ pd := R1.add na (same_new na) upd_same w.mut
    have ws2 : ∀ b, WS (G.add a o) σ ρ b → (WS G σ ρ b ∧ ¬ Iob S.io vs b) ∨ Iob S.io vs b ∨ (S.fr = true ∧ V.ref a = .ref b) := fun b w => by
      have h2 : b = a ∨ WS G σ ρ b := by
        rcases w with (w | w) | w
        · exact .inl w
        · exact .inr (.inl w)
        · exact .inr (.inr w)
      rcases h2 with z | w
      · exact .inr (.inr ⟨hf, by rw [z]⟩)
      · rcases (ws b).2 w with w | w
        · exact .inl w
        · exact .inr (.inl w)
    have kp2 : ∀ b u, upd H a o b = some u → ¬ WS (G.add a o) σ ρ b → H' b = some u := fun b u e n => by
      have ne : b ≠ a := fun z => n (.inl (.inl z))
      rw [upd_ne ne] at e
      exact fin.keep b u e fun z => n ((iob b z).elim (fun w => .inl (.inr w)) .inr)
    have R3 : RE K (G.add a o) H' σ (putOuts js outs ρ) pd := by
      refine R2.swap A kp2 (fun b u e => ?_) fun i b q c e1 e2 => ?_
      · have e' : upd G.keep a o b = some u := e
        by_cases z : b = a
        · rw [z] at e' ⊢; rw [upd_same] at e'; cases e'; exact ea
        · rw [upd_ne z] at e'; exact keepG b u e'
      · by_cases hi : i ∈ js
        · obtain ⟨k, lk, e⟩ := List.getElem_of_mem hi
          have lk' : k < outs.length := by rw [lo]; exact lk
          have ek : js[k]? = some i := by rw [List.getElem?_eq_getElem lk, e]
          have eo : outs[k]? = some outs[k] := List.getElem?_eq_getElem lk'
          obtain ⟨b', p, h1, h2⟩ := p3 k i outs[k] ek eo
          rw [e1] at h2; cases h2
          obtain ⟨m, v', g1, g2, g3, g4⟩ := s.io ek eo
          rw [e2] at g3; cases g3
          obtain ⟨u, ho, w'⟩ := fin.outs m _ c g4 g2
          exact ⟨u, ho, w'.anti ws2⟩
        · rw [p2 i hi] at e1
          obtain ⟨d, f1, f2, u, f3, w'⟩ := R2.own i b q e1
          rw [e2] at f1; cases f1
          have nd : c ≠ a := fun z => by
            obtain ⟨d', f1', _, u', f3', _⟩ := R1.own i b q e1
            rw [e2] at f1'; cases f1'
            rw [z, na] at f3'; cases f3'
          rw [upd_ne nd] at f3
          exact ⟨u, fin.keep c u f3 (stay i b q c hi e1 e2), w'.move kp2 R2.mut fun _ _ w => w⟩
    have hw : ∀ b, WS (G.add a o) σ (putOuts js outs ρ) b → WS (G.add a o) σ ρ b := fun b w => by
      rcases w with w | ⟨i, c, q, e1, e2⟩
      · exact .inl w
      · obtain ⟨p, e⟩ := A.back e1
        exact .inr ⟨i, c, p, e, e2⟩
    exact ⟨a, o, rfl, kn, R1.exk, R3.pds sb, w.anti fun b w => ws2 b (hw b w)⟩
end
section
variable {X : Cx} {k : Nat} {f : Addr} {fd : FuncData} {x : Str} {ps : List Str} {S : FS} {e : Expr} {es : List Expr} {t : QTA} {p pos : Pos}
theorem rz_call {K : PySem.W.Frag} {ta : TA} {E : XK} (q : RzA K ta t) : Rz K (tCall (spP K S) [] E ta) (qCall S t) := by
  intro G H σ ρ pd Q F R1 h ff
  refine q G H σ ρ pd _ _ R1 h fun rs ρ1 pd1 vs H1 sb R2 ar g => ?_
  unfold callR at g
  cases es : splitArgs ρ1 S.io rs with
  | none => rw [es] at g; exact g.elim
  | some z =>
    obtain ⟨pvs, js⟩ := z
    rw [es] at g
    obtain ⟨nd, pre, post⟩ := g
    have s := spl_of ar es
    obtain ⟨R3, iob⟩ := call_start R2 s nd
    obtain ⟨l1, l2, l3⟩ := s.len
    show spP K S (vs ++ []) H1 F E
    rw [List.append_nil]
    refine ⟨pvs, _, l2, l1, R3, pre, fun v H' r outs hp lo fin => ?_⟩
    exact ff _ _ v H' (call_end R2 sb s nd iob (lo.trans l3.symm) fin) (post r outs hp (lo.trans l3.symm))
theorem qe_call (F : FnOk X.prog X.w X.K X.mg X.base CX0 k f fd ps (spP X.K S)) (hr : Room k X.A) (hm : X.mg x = some (.ref f)) (hk : PySem.W.keepIn X.K (.ref f) = true) (hb : Binds X.K fd ps []) (ha : QA X (e :: es) t) (hg : Gl X x := by rfl) (hdb : (x == ("__debug__" : Str)) = false := by decide)
    (he : starEach (e :: es) X.env = (false, eval e X.env) :: starEach es X.env := by rfl) (hpl : (backTo pos (starEach es X.env)).any (·.1) = false := by rfl) : QE X (.Call (.Name x p) (e :: es) [] pos) (qCall S t) := by
  obtain ⟨ta, p1, q⟩ := ha.ex
  exact ⟨_, pe_call F hr hg hm hk hb .nil pass0 p1 hdb he hpl, rz_call q⟩
end

/-! ### a def keeps its promise -/
def finOk (S : FS) (ps : List PV) (r : R) (ρ : En) : Prop := match S.fr, r with
  | true, .fr p => S.post ps p (outsOf S.io ρ)
  | false, .pv p => S.post ps p (outsOf S.io ρ)
  | false, .fr p => S.post ps p (outsOf S.io ρ)
  | _, _ => False
def endsOf (S : FS) (ps : List PV) : PEnds := { nx := fun ρ => finOk S ps (.pv .non) ρ, rt := fun r ρ => finOk S ps r ρ }
def uns (n : Nat) : En := List.replicate n Sl.un
theorem outs_len : ∀ (io : List Bool) (ρ : En), (outsOf io ρ).length = (io.filter id).length
  | [], ρ => by cases ρ <;> rfl
  | true :: io, [] => by simp [outsOf, outs_len io []]
  | false :: io, [] => by simp [outsOf, outs_len io []]
  | true :: io, s :: ρ => by
    have ih := outs_len io ρ
    cases s <;> simp [outsOf, ih]
  | false :: io, s :: ρ => by
    have ih := outs_len io ρ
    simp [outsOf, ih]
theorem outs_get : ∀ (io : List Bool) (ρ : En) {i : Nat} {q : PV}, (sel io (outsOf io ρ))[i]? = some (some q) → io[i]? = some true ∧ ∀ b p, ρ[i]? = some (Sl.own b p) → p = q
  | [], ρ, i, q, h => by cases ρ <;> simp [outsOf, sel] at h
  | true :: io, [], i, q, h => by
    cases i with
    | zero => exact ⟨rfl, fun b p e => by simp at e⟩
    | succ i =>
      have ih := outs_get io [] (i := i) (q := q) (by simpa [outsOf, sel] using h)
      exact ⟨by simpa using ih.1, fun b p e => by simp at e⟩
  | false :: io, [], i, q, h => by
    cases i with
    | zero => simp [outsOf, sel] at h
    | succ i =>
      have ih := outs_get io [] (i := i) (q := q) (by simpa [outsOf, sel] using h)
      exact ⟨by simpa using ih.1, fun b p e => by simp at e⟩
  | true :: io, s :: ρ, i, q, h => by
    cases i with
    | zero =>
      refine ⟨rfl, fun b p e => ?_⟩
      simp at e
      subst e
      simpa [outsOf, sel] using h
    | succ i =>
      have h' : (sel io (outsOf io ρ))[i]? = some (some q) := by
        cases s <;> simpa [outsOf, sel] using h
      simpa using outs_get io ρ h'
  | false :: io, s :: ρ, i, q, h => by
    cases i with
    | zero => simp [outsOf, sel] at h
    | succ i =>
      have h' : (sel io (outsOf io ρ))[i]? = some (some q) := by simpa [outsOf, sel] using h
      simpa using outs_get io ρ h'
theorem RE.pad {K : PySem.W.Frag} {G : Gd} {H : Hp} {σ : L2.St} {ρ : En} {pd : Pds} (R1 : RE K G H σ ρ pd) (n : Nat) : RE K G H (σ ++ List.replicate n none) (ρ ++ uns n) pd := by
  have sg : ∀ {i : Nat} {v : Option V}, σ[i]? = some v → (σ ++ List.replicate n none)[i]? = some v := fun {i v} e => by
    rw [List.getElem?_append_left (List.getElem?_eq_some_iff.mp e).1]; exact e
  have rg : ∀ {i : Nat} {s : Sl}, (ρ ++ uns n)[i]? = some s → s ≠ Sl.un → ρ[i]? = some s := fun {i s} e ne => by
    by_cases l : i < ρ.length
    · rw [List.getElem?_append_left l] at e; exact e
    · rw [List.getElem?_append_right (by omega)] at e
      unfold uns at e
      rw [List.getElem?_replicate] at e
      split at e
      · cases e; exact absurd rfl ne
      · cases e
  have rf : ∀ {i : Nat} {s : Sl}, ρ[i]? = some s → (ρ ++ uns n)[i]? = some s := fun {i s} e => by
    rw [List.getElem?_append_left (List.getElem?_eq_some_iff.mp e).1]; exact e
  have sb : ∀ {i : Nat} {s : Sl} {v : Option V}, ρ[i]? = some s → (σ ++ List.replicate n none)[i]? = some v → σ[i]? = some v := fun {i s v} e1 e2 => by
    have l : i < σ.length := by rw [← R1.len]; exact (List.getElem?_eq_some_iff.mp e1).1
    rw [List.getElem?_append_left l] at e2; exact e2
  have sub : ∀ b, WS G (σ ++ List.replicate n none) (ρ ++ uns n) b → WS G σ ρ b := fun b w => by
    rcases w with w | ⟨i, c, p, e1, e2⟩
    · exact .inl w
    · have f := rg e1 (by simp)
      exact .inr ⟨i, c, p, f, sb f e2⟩
  refine ⟨by simp [R1.len, uns], fun i p e => ?_, fun i b p e => ?_, fun i j b c p q a e1 e2 e3 e4 => ?_, fun i a h => ?_, R1.keep, R1.exk, fun x hx => Is.anti sub _ _ (R1.pd x hx)⟩
  · obtain ⟨v, e1, h⟩ := R1.val i p (rg e (by simp))
    exact ⟨v, sg e1, Is.anti sub _ _ h⟩
  · obtain ⟨a, e1, k, o, e2, w⟩ := R1.own i b p (rg e (by simp))
    exact ⟨a, sg e1, k, o, e2, w.anti sub⟩
  · have f1 := rg e1 (by simp)
    have f2 := rg e2 (by simp)
    exact R1.inj i j b c p q a f1 f2 (sb f1 e3) (sb f2 e4)
  · obtain ⟨e, p, e1⟩ := R1.io i a h
    exact ⟨sg e, p, rf e1⟩
section
variable {P : Program} {w : World} {K : PySem.W.Frag} {mg : Str → Option Value} {base : Heap} {x qual : Str} {st : Stmt} {f : Addr} {fd : FuncData} {N ps : List Str} {k : Nat} {S : FS} {t : QTS}
theorem fn_p (F : Fun K x qual st f fd) (sc : FnScope N ps (defScope st)) (lp : S.io.length = ps.length)
    (hb : ∀ (cdv : Value) (A : Around) (outer : List Env) (s : Shared) (H : Hp) (E : XK), Room k (A.deeper (envOfC qual (defScope st) s.heap.objs.size f cdv)) → QSs (cxOf CX0 P w K mg base N qual (defScope st) f cdv A outer s H E).nox (defBody st) t)
    (rd : ∀ pvs : List PV, pvs.length = S.io.length → S.pre pvs → t (endsOf S pvs) (mk S.io pvs ++ uns (N.length - ps.length))) : FnOk P w K mg base CX0 (k + 1) f fd ps (spP K S) := by
  refine F.ok sc (fun vs H Q E h => ?_) (fun cdv A outer s H vs Q E hr h => ?_)
  · obtain ⟨_, _, _, l, _⟩ := h
    rw [l, lp]
  obtain ⟨pvs, ex, l1, l2, R1, pre, post⟩ := h
  obtain ⟨ts, p, q⟩ := (hb cdv A outer s H E hr).ex
  refine ⟨ts, p, ?_⟩
  have R2 : RE K (G0 H S.io vs ex) H (L2.start N vs) (mk S.io pvs ++ uns (N.length - ps.length)) [] := by
    have z := R1.pad (N.length - ps.length)
    have e : L2.start N vs = vs.map some ++ List.replicate (N.length - ps.length) none := by
      unfold L2.start
      rw [l2, lp]
    rw [e]; exact z
  have fin : ∀ (r : R) (v : V) (σ' : L2.St) (ρ' : En) (H' : Hp), Res K (G0 H S.io vs ex) H' σ' ρ' [] r v → finOk S pvs r ρ' → Q v H' := fun r v σ' ρ' H' s' g => by
    have R3 := s'.re
    have kp : ∀ b o, H b = some o → ¬ Iob S.io vs b → H' b = some o := fun b o e n => R3.keep b o ((G0_yes n).trans e)
    have wio : ∀ b, Iob S.io vs b → WS (G0 H S.io vs ex) σ' ρ' b := fun b ⟨i, e1, e2⟩ => by
      obtain ⟨e3, p, e4⟩ := R3.io i b ⟨e1, e2⟩
      exact .inr ⟨i, true, p, e4, e3⟩
    have wsub : ∀ b, ex b ∨ Iob S.io vs b → WS (G0 H S.io vs ex) σ' ρ' b := fun b w => w.elim .inl (wio b)
    -- the outs, as the slots own them
    have ow : ∀ (i : Nat) (q : PV) (a : Addr), (sel S.io (outsOf S.io ρ'))[i]? = some (some q) → vs[i]? = some (V.ref a) → ∃ b, ρ'[i]? = some (Sl.own b q) ∧ σ'[i]? = some (some (V.ref a)) := fun i q a e1 e2 => by
      obtain ⟨f1, f2⟩ := outs_get _ _ e1
      obtain ⟨e3, p, e4⟩ := R3.io i a ⟨f1, e2⟩
      have := f2 true p e4
      subst this
      exact ⟨true, e4, e3⟩
    cases hf : S.fr with
    | false =>
      have key : ∀ p, Is K H' (WS (G0 H S.io vs ex) σ' ρ') p v → S.post pvs p (outsOf S.io ρ') → Q v H' := fun p hp g => post v H' p (outsOf S.io ρ') g (outs_len _ _) {
        keep := kp
        outs := fun i q a e1 e2 => by
          obtain ⟨b, e3, e4⟩ := ow i q a e1 e2
          obtain ⟨c, e5, _, o, e6, w⟩ := R3.own i b q e3
          rw [e4] at e5; cases e5
          exact ⟨o, e6, w.anti fun b w => by
            rcases w with w | w | w
            · exact .inl w
            · exact wio b w
            · rw [hf] at w; cases w.1⟩
        res := fun _ => Is.anti wsub _ _ hp
        new := fun z => by rw [hf] at z; cases z }
      unfold finOk at g
      rw [hf] at g
      cases r with
      | pv p => exact key p ((show RE K _ H' σ' ρ' [(p, v)] from s').pd (p, v) List.mem_cons_self) g
      | fr p =>
        have s2 := s'.weak
        exact key p ((show RE K _ H' σ' ρ' [(p, v)] from s2).pd (p, v) List.mem_cons_self) g
      | sl i => exact g.elim
    | true =>
      unfold finOk at g
      rw [hf] at g
      cases r with
      | pv p => exact g.elim
      | sl i => exact g.elim
      | fr p =>
        obtain ⟨a, o, rfl, n, kx, R4, w⟩ := s'
        have Ha : H' a = some o := R4.keep a o upd_same
        have nio : ¬ Iob S.io vs a := fun ⟨i, e1, e2⟩ => by
          obtain ⟨e3, p', e4⟩ := R4.io i a ⟨e1, e2⟩
          obtain ⟨c, e5, k, _⟩ := R4.own i true p' e4
          rw [e3] at e5; cases e5
          have k' : upd (G0 H S.io vs ex).keep a o a = none := k
          rw [upd_same] at k'; cases k'
        have n' : H a = none := (G0_yes nio).symm.trans n
        have wsub2 : ∀ b, ex b ∨ Iob S.io vs b ∨ (S.fr = true ∧ V.ref a = .ref b) → WS ((G0 H S.io vs ex).add a o) σ' ρ' b := fun b w => by
          rcases w with w | ⟨i, e1, e2⟩ | w
          · exact .inl (.inr w)
          · obtain ⟨e3, p', e4⟩ := R4.io i b ⟨e1, e2⟩
            exact .inr ⟨i, true, p', e4, e3⟩
          · cases w.2; exact .inl (.inl rfl)
        refine post (.ref a) H' p (outsOf S.io ρ') g (outs_len _ _) {
          keep := kp
          outs := fun i q c e1 e2 => ?_
          res := fun z => by rw [hf] at z; cases z
          new := fun _ => ⟨a, o, rfl, n', Ha, w.anti wsub2⟩ }
        obtain ⟨b, e3, e4⟩ := ow i q c e1 e2
        obtain ⟨d, e5, _, u, e6, w'⟩ := R4.own i b q e3
        rw [e4] at e5; cases e5
        exact ⟨u, e6, w'.anti wsub2⟩
  exact q _ H _ _ [] (endsOf S pvs) _ R2 (rd pvs l1 pre) ⟨fun σ' ρ' H' R3 g => fin (.pv .non) .non σ' ρ' H' (R3.push rfl) g, fun r v σ' ρ' H' s' g => fin r v σ' ρ' H' s' g, fun _ _ _ _ g => g.elim, fun _ _ _ _ g => g.elim⟩
end
end Px
namespace Px
open PySem L2 PyProof.Rows

/-! ### data -/
mutual
def toD : PV → PyData
  | .non => .none
  | .bl b => .bool b
  | .int i => .int i
  | .str s => .str s
  | .tup ps => .tuple (toDs ps)
  | .lst ps => .list (toDs ps)
  | .dic _ _ => .dict []
  | .scr _ => .dict []
  | .ty _ => .dict []
def toDs : List PV → List PyData
  | [] => []
  | p :: ps => toD p :: toDs ps
end
mutual
def plain : PV → Bool
  | .non => true
  | .bl _ => true
  | .int _ => true
  | .str _ => true
  | .tup ps => plains ps
  | .lst ps => plains ps
  | .dic _ _ => false
  | .scr _ => false
  | .ty _ => false
def plains : List PV → Bool
  | [] => true
  | p :: ps => plain p && plains ps
end
mutual
/-- how deep data is nested -/
def dep : PV → Nat
  | .tup ps => deps ps + 1
  | .lst ps => deps ps + 1
  | .non => 0
  | .bl _ => 0
  | .int _ => 0
  | .str _ => 0
  | .dic _ _ => 0
  | .scr _ => 0
  | .ty _ => 0
def deps : List PV → Nat
  | [] => 0
  | p :: ps => max (dep p) (deps ps)
end
mutual
theorem dp_of {K : PySem.W.Frag} {H : Hp} {W : Addr → Prop} : ∀ (p : PV) (v : V), plain p = true → Is K H W p v → Dp K H v (toD p) ∧ (toD p).canLay0 = true ∧ (toD p).depth = dep p
  | .non, _, _, h => by cases (show _ = V.non from h); exact ⟨.non, rfl, rfl⟩
  | .bl b, _, _, h => by cases (show _ = V.bl b from h); exact ⟨.bl b, rfl, rfl⟩
  | .int i, _, _, h => by cases (show _ = V.int i from h); exact ⟨.int i, rfl, rfl⟩
  | .str s, v, _, h => by
    obtain ⟨e, ok⟩ : v = .str s ∧ sOk s = true := h
    subst e
    exact ⟨.str s, ok, rfl⟩
  | .tup ps, v, pl, h => by
    obtain ⟨a, vs, e, r, i⟩ : ∃ a vs, v = .ref a ∧ H a = some (.tup vs) ∧ Iss K H W ps vs := h
    subst e
    obtain ⟨d, c, z⟩ := dps_of ps vs (by rw [plain] at pl; exact pl) i
    exact ⟨.tup (.inl (.inl r)) d, by rw [toD, PyData.canLay0]; exact c, by rw [toD, PyData.depth, dep, z]⟩
  | .lst ps, v, pl, h => by
    obtain ⟨a, vs, e, _, r, i⟩ : ∃ a vs, v = .ref a ∧ ¬ W a ∧ H a = some (.lst vs) ∧ Iss K H W ps vs := h
    subst e
    obtain ⟨d, c, z⟩ := dps_of ps vs (by rw [plain] at pl; exact pl) i
    exact ⟨.lst (.inl (.inl r)) d, by rw [toD, PyData.canLay0]; exact c, by rw [toD, PyData.depth, dep, z]⟩
  | .dic _ _, _, pl, _ => by simp [plain] at pl
  | .scr _, _, pl, _ => by simp [plain] at pl
  | .ty _, _, pl, _ => by simp [plain] at pl
theorem dps_of {K : PySem.W.Frag} {H : Hp} {W : Addr → Prop} : ∀ (ps : List PV) (vs : List V), plains ps = true → Iss K H W ps vs → DpAll K H vs (toDs ps) ∧ PyData.canLayAll0 (toDs ps) = true ∧ PyData.depthAll (toDs ps) = deps ps
  | [], _, _, h => by cases (show _ = [] from h); exact ⟨.nil, rfl, rfl⟩
  | p :: ps, vs, pl, h => by
    obtain ⟨v, r, e, h1, h2⟩ := h
    subst e
    rw [plains, Bool.and_eq_true] at pl
    obtain ⟨d1, c1, z1⟩ := dp_of p v pl.1 h1
    obtain ⟨d2, c2, z2⟩ := dps_of ps r pl.2 h2
    refine ⟨.cons d1 d2, ?_, ?_⟩
    · rw [toDs, PyData.canLayAll0, c1, c2]; rfl
    · rw [toDs, PyData.depthAll, z1, z2, deps]
end
theorem lk_dp {K : PySem.W.Frag} {H : Hp} {W : Addr → Prop} {p : PV} {v : V} (pl : plain p = true) (h : Lk K H W p v) : Dp K H v (toD p) ∧ (toD p).canLay0 = true ∧ (toD p).depth = dep p := by
  cases p with
  | lst ps =>
    obtain ⟨a, vs, e, r, i⟩ := h
    subst e
    obtain ⟨d, c, z⟩ := dps_of ps vs (by rw [plain] at pl; exact pl) i
    exact ⟨.lst (.inl (.inl r)) d, by rw [toD, PyData.canLay0]; exact c, by rw [toD, PyData.depth, dep, z]⟩
  | dic ks ps => simp [plain] at pl
  | _ => exact dp_of (W := W) _ v pl h
def peq (p q : PV) : Bool := PyData.eqv (toD p) (toD q)
def peqs (ps qs : List PV) : Bool := PyData.eqvAll (toDs ps) (toDs qs)
/-- data that == may be asked of -/
def eqOk (p : PV) : Prop := plain p = true ∧ dep p ≤ 64
theorem shaped_of {p : PV} (c : (toD p).canLay0 = true) (z : (toD p).depth = dep p) (h : eqOk p) : SeqAt.shaped (toD p) = true := by
  unfold SeqAt.shaped
  rw [c, z, Bool.true_and]
  exact decide_eq_true h.2

section
variable {X : Cx}
theorem fin1 {K : PySem.W.Frag} {H : Hp} {W : Addr → Prop} {Q : R → Prop} {F : VK} {v : V} {p : PV} (f : ∀ v H' z, Same H H' → ResV K H W H' z v → Q z → F v H') (h : Is K H W p v) (q : Q (.pv p)) : F v H := f v H (.pv p) (Same.refl H) h q

/-! ### arithmetic -/
theorem sOk_append {a b : Str} (h1 : sOk a = true) (h2 : sOk b = true) : sOk (a ++ b) = true := by
  have e1 : a.cps.all (· < 0x110000) = true := h1
  have e2 : b.cps.all (· < 0x110000) = true := h2
  show (a ++ b).cps.all (· < 0x110000) = true
  show (a.cps ++ b.cps).all (· < 0x110000) = true
  rw [Array.all_append, e1, e2]; rfl
def gAdd : G2
  | .int i, .int j, Q => Q (.pv (.int (i + j)))
  | .str a, .str b, Q => small (a.length + b.length) ∧ Q (.pv (.str (a ++ b)))
  | .tup a, .tup b, Q => small (a.length + b.length) ∧ Q (.pv (.tup (a ++ b)))
  | .lst a, .lst b, Q => small (a.length + b.length) ∧ Q (.fr (.lst (a ++ b)))
  | _, _, _ => False
theorem op_addP : OpP X (binaryOp .Add) gAdd := by
  refine ⟨_, op_add.or (op_add_str.or (op_catA.or op_cat)), fun H W p q x y Q F m l1 l2 g f => ?_⟩
  cases p <;> cases q <;> first
    | exact g.elim
    | skip
  · cases (show x = _ from l1); cases (show y = _ from l2)
    exact .inl ⟨_, _, rfl, rfl, fin1 f (p := .int _) rfl g⟩
  · obtain ⟨e1, o1⟩ : x = .str _ ∧ sOk _ = true := l1
    obtain ⟨e2, o2⟩ : y = .str _ ∧ sOk _ = true := l2
    subst e1 e2
    exact .inr (.inl ⟨_, _, rfl, rfl, g.1, fin1 f (p := .str _) ⟨rfl, sOk_append o1 o2⟩ g.2⟩)
  · rename_i ps qs
    obtain ⟨a, vs, e1, r1, i1⟩ : ∃ a vs, x = .ref a ∧ H a = some (.tup vs) ∧ Iss X.K H W ps vs := l1
    obtain ⟨b, us, e2, r2, i2⟩ : ∃ a vs, y = .ref a ∧ H a = some (.tup vs) ∧ Iss X.K H W qs vs := l2
    subst e1 e2
    have sm : vs.length + us.length ≤ sizeLine := by rw [← i1.length, ← i2.length]; exact small_le g.1
    refine .inr (.inr (.inl ⟨a, b, vs, us, rfl, rfl, .inl (.inl r1), .inl (.inl r2), sm, fun e => ?_, fun _ e => ?_, fun _ _ p hp => f _ _ _ (same_new hp) (resTup m (i1.append i2) hp) g.2⟩))
    · have ep : ps = [] := List.length_eq_zero_iff.mp (by rw [i1.length, e]; rfl)
      subst ep
      exact fin1 f (p := .tup qs) ⟨b, us, rfl, r2, i2⟩ g.2
    · have ep : qs = [] := List.length_eq_zero_iff.mp (by rw [i2.length, e]; rfl)
      subst ep
      have g2 : Q (.pv (.tup (ps ++ []))) := g.2
      rw [List.append_nil] at g2
      exact fin1 f (p := .tup ps) ⟨a, vs, rfl, r1, i1⟩ g2
  · rename_i ps qs
    obtain ⟨a, vs, e1, r1, i1⟩ : ∃ a vs, x = .ref a ∧ H a = some (.lst vs) ∧ Iss X.K H W ps vs := l1
    obtain ⟨b, us, e2, r2, i2⟩ : ∃ a vs, y = .ref a ∧ H a = some (.lst vs) ∧ Iss X.K H W qs vs := l2
    subst e1 e2
    have sm : vs.length + us.length ≤ sizeLine := by rw [← i1.length, ← i2.length]; exact small_le g.1
    exact .inr (.inr (.inr ⟨a, b, vs, us, rfl, rfl, r1, r2, sm, fun p hp => f _ _ _ (same_new hp) (resLst m (i1.append i2) hp) g.2⟩))
def gInt (C : Int → Int → Prop) (h : Int → Int → PV) : G2
  | .int i, .int j, Q => C i j ∧ Q (.pv (h i j))
  | _, _, _ => False
theorem op_int {fo : Value → Value → Sem Value} {C : Int → Int → Prop} {g : Int → Int → V} {h : Int → Int → PV} (ho : OpR X fo (rI C g)) (hh : ∀ K H W i j, Is K H W (h i j) (g i j)) : OpP X fo (gInt C h) := by
  refine ⟨_, ho, fun H W p q x y Q F m l1 l2 z f => ?_⟩
  cases p <;> cases q <;> first
    | exact z.elim
    | skip
  cases (show x = _ from l1); cases (show y = _ from l2)
  exact ⟨_, _, rfl, rfl, z.1, fin1 f (hh _ _ _ _ _) z.2⟩
def gInt0 (h : Int → Int → PV) : G2
  | .int i, .int j, Q => Q (.pv (h i j))
  | _, _, _ => False
theorem op_int0 {fo : Value → Value → Sem Value} {g : Int → Int → V} {h : Int → Int → PV} (ho : OpR X fo (rI0 g)) (hh : ∀ K H W i j, Is K H W (h i j) (g i j)) : OpP X fo (gInt0 h) := by
  refine ⟨_, ho, fun H W p q x y Q F m l1 l2 z f => ?_⟩
  cases p <;> cases q <;> first
    | exact z.elim
    | skip
  cases (show x = _ from l1); cases (show y = _ from l2)
  exact ⟨_, _, rfl, rfl, fin1 f (hh _ _ _ _ _) z⟩
abbrev gSub := gInt0 fun i j => .int (i - j)
theorem op_subP : OpP X (binaryOp .Sub) gSub := op_int0 op_sub fun _ _ _ _ _ => rfl
abbrev gMul := gInt CMul fun i j => .int (i * j)
theorem op_mulP : OpP X (binaryOp .Mult) gMul := op_int op_mul fun _ _ _ _ _ => rfl
abbrev gMod := gInt (fun _ j => 0 < j) fun i j => .int (i % j)
theorem op_modP : OpP X (binaryOp .Mod) gMod := op_int op_mod fun _ _ _ _ _ => rfl
abbrev gDiv := gInt CDiv fun i j => .int (i / j)
theorem op_divP : OpP X (binaryOp .FloorDiv) gDiv := op_int op_fdiv fun _ _ _ _ _ => rfl
abbrev gPow := gInt CPow fun i j => .int (i ^ j.toNat)
theorem op_powP : OpP X (binaryOp .Pow) gPow := op_int op_pow fun _ _ _ _ _ => rfl
abbrev gLt := gInt0 fun i j => .bl (decide (i < j))
theorem op_ltP : OpP X (compareOp .Lt) gLt := op_int0 op_lt fun _ _ _ _ _ => rfl
abbrev gLe := gInt0 fun i j => .bl (decide (i ≤ j))
theorem op_leP : OpP X (compareOp .LtE) gLe := op_int0 op_le fun _ _ _ _ _ => rfl
abbrev gGt := gInt0 fun i j => .bl (decide (j < i))
theorem op_gtP : OpP X (compareOp .Gt) gGt := op_int0 op_gt fun _ _ _ _ _ => rfl
abbrev gGe := gInt0 fun i j => .bl (decide (j ≤ i))
theorem op_geP : OpP X (compareOp .GtE) gGe := op_int0 op_ge fun _ _ _ _ _ => rfl

/-! ### ==, in, is -/
def gEq (p : PV) (q : PV) (Q : R → Prop) : Prop := eqOk p ∧ eqOk q ∧ Q (.pv (.bl (peq p q)))
def gNe (p : PV) (q : PV) (Q : R → Prop) : Prop := eqOk p ∧ eqOk q ∧ Q (.pv (.bl (!peq p q)))
theorem op_eqP (hu : X.A.units + 64 < cLine) : OpP X (compareOp .Eq) gEq := by
  refine ⟨_, op_eqD hu, fun H W p q x y Q F m l1 l2 z f => ?_⟩
  obtain ⟨h1, h2, h3⟩ := z
  obtain ⟨d1, c1, z1⟩ := lk_dp h1.1 l1
  obtain ⟨d2, c2, z2⟩ := lk_dp h2.1 l2
  exact ⟨_, _, d1, d2, shaped_of c1 z1 h1, shaped_of c2 z2 h2, fin1 f (p := .bl _) rfl h3⟩
theorem op_neP (hu : X.A.units + 64 < cLine) : OpP X (compareOp .NotEq) gNe := by
  refine ⟨_, op_neD hu, fun H W p q x y Q F m l1 l2 z f => ?_⟩
  obtain ⟨h1, h2, h3⟩ := z
  obtain ⟨d1, c1, z1⟩ := lk_dp h1.1 l1
  obtain ⟨d2, c2, z2⟩ := lk_dp h2.1 l2
  exact ⟨_, _, d1, d2, shaped_of c1 z1 h1, shaped_of c2 z2 h2, fin1 f (p := .bl _) rfl h3⟩
/-- among the items of a list -/
def memP (p : PV) (qs : List PV) : Bool := qs.any fun z => peq z p
theorem any_toDs (p : PV) : ∀ qs : List PV, (toDs qs).any (fun z => PyData.eqv z (toD p)) = memP p qs
  | [] => rfl
  | q :: qs => by
    show (PyData.eqv (toD q) (toD p) || (toDs qs).any _) = (peq q p || memP p qs)
    rw [any_toDs p qs]; rfl
theorem lk_is {K : PySem.W.Frag} {H : Hp} {W : Addr → Prop} {p : PV} {k : Key} {v : V} (l : Lk K H W p v) (e : keyP p = some k) : v = kV k ∧ keyOk k = true := by
  refine keyP_is (K := K) (H := H) (W := W) (p := p) ?_ e
  cases p with
  | int i => exact l
  | str s => exact l
  | _ => cases e
def gIn (p q : PV) (Q : R → Prop) : Prop := match q with
  | .lst qs => eqOk p ∧ eqOk (.lst qs) ∧ Q (.pv (.bl (memP p qs)))
  | .tup qs => eqOk p ∧ eqOk (.tup qs) ∧ Q (.pv (.bl (memP p qs)))
  | .dic ks ps => match keyP p with
    | some k => Q (.pv (.bl ((getD ks ps k).isSome)))
    | none => False
  | _ => False
theorem op_inP (hu : X.A.units + 65 < cLine) : OpP X (compareOp .In) gIn := by
  refine ⟨_, OpR.or (op_inD hu) (OpR.or (op_inTD hu) (op_inK hu)), fun H W p q x y Q F m l1 l2 z f => ?_⟩
  unfold gIn at z
  cases q with
  | lst qs =>
    obtain ⟨h1, h2, h3⟩ := z
    obtain ⟨d1, c1, z1⟩ := lk_dp h1.1 l1
    obtain ⟨d2, c2, z2⟩ := lk_dp h2.1 l2
    refine .inl ⟨_, _, d1, d2, shaped_of c1 z1 h1, shaped_of c2 z2 h2, fin1 f (p := .bl _) rfl (?_ : Q (.pv (.bl _)))⟩
    rw [any_toDs]; exact h3
  | tup qs =>
    obtain ⟨h1, h2, h3⟩ := z
    obtain ⟨d1, c1, z1⟩ := lk_dp h1.1 l1
    obtain ⟨d2, c2, z2⟩ := lk_dp h2.1 l2
    refine .inr (.inl ⟨_, _, d1, d2, shaped_of c1 z1 h1, shaped_of c2 z2 h2, fin1 f (p := .bl _) rfl (?_ : Q (.pv (.bl _)))⟩)
    rw [any_toDs]
    cases e : memP p qs <;> rw [e] at h3 <;> exact h3
  | dic ks ps =>
    obtain ⟨a, vs, e1, r1, le, ok, i1⟩ := l2
    subst e1
    cases e : keyP p with
    | none => rw [e] at z; exact z.elim
    | some k =>
      rw [e] at z
      dsimp only at z
      obtain ⟨e2, _⟩ := lk_is l1 e
      refine .inr (.inr ⟨a, _, k, rfl, r1, e2, fin1 f (p := .bl _) rfl (?_ : Q (.pv (.bl _)))⟩)
      rw [getD_val le, getD_some_is i1]
      cases e : (getD ks ps k).isSome <;> rw [e] at z <;> exact z
  | _ => exact z.elim
def gNotIn (p q : PV) (Q : R → Prop) : Prop := match q with
  | .lst qs => eqOk p ∧ eqOk (.lst qs) ∧ Q (.pv (.bl (!memP p qs)))
  | .tup qs => eqOk p ∧ eqOk (.tup qs) ∧ Q (.pv (.bl (!memP p qs)))
  | .dic ks ps => match keyP p with
    | some k => Q (.pv (.bl (!(getD ks ps k).isSome)))
    | none => False
  | _ => False
theorem op_notInP (hu : X.A.units + 65 < cLine) : OpP X (compareOp .NotIn) gNotIn := by
  refine ⟨_, OpR.or (op_notInD hu) (OpR.or (op_notInTD hu) (op_notInK hu)), fun H W p q x y Q F m l1 l2 z f => ?_⟩
  unfold gNotIn at z
  cases q with
  | lst qs =>
    obtain ⟨h1, h2, h3⟩ := z
    obtain ⟨d1, c1, z1⟩ := lk_dp h1.1 l1
    obtain ⟨d2, c2, z2⟩ := lk_dp h2.1 l2
    refine .inl ⟨_, _, d1, d2, shaped_of c1 z1 h1, shaped_of c2 z2 h2, fin1 f (p := .bl _) rfl (?_ : Q (.pv (.bl _)))⟩
    rw [any_toDs]; exact h3
  | tup qs =>
    obtain ⟨h1, h2, h3⟩ := z
    obtain ⟨d1, c1, z1⟩ := lk_dp h1.1 l1
    obtain ⟨d2, c2, z2⟩ := lk_dp h2.1 l2
    refine .inr (.inl ⟨_, _, d1, d2, shaped_of c1 z1 h1, shaped_of c2 z2 h2, fin1 f (p := .bl _) rfl (?_ : Q (.pv (.bl _)))⟩)
    rw [any_toDs]
    cases e : memP p qs <;> rw [e] at h3 <;> exact h3
  | dic ks ps =>
    obtain ⟨a, vs, e1, r1, le, ok, i1⟩ := l2
    subst e1
    cases e : keyP p with
    | none => rw [e] at z; exact z.elim
    | some k =>
      rw [e] at z
      dsimp only at z
      obtain ⟨e2, _⟩ := lk_is l1 e
      refine .inr (.inr ⟨a, _, k, rfl, r1, e2, fin1 f (p := .bl _) rfl (?_ : Q (.pv (.bl _)))⟩)
      rw [getD_val le, getD_some_is i1]
      cases e : (getD ks ps k).isSome <;> rw [e] at z <;> exact z
  | _ => exact z.elim
def isNon : PV → Bool
  | .non => true
  | _ => false
def gIs : G2
  | p, .non, Q => Q (.pv (.bl (isNon p)))
  | _, _, _ => False
def gIsNot : G2
  | p, .non, Q => Q (.pv (.bl (!isNon p)))
  | _, _, _ => False
theorem isNon_iff {K : PySem.W.Frag} {H : Hp} {W : Addr → Prop} {p : PV} {x : V} (l : Lk K H W p x) : decide (x = .non) = isNon p := by
  cases p with
  | non => cases (show x = .non from l); rfl
  | bl b => cases (show x = _ from l); rfl
  | int b => cases (show x = _ from l); rfl
  | ty b => cases (show x = _ from l); rfl
  | str s => obtain ⟨e, _⟩ : x = .str s ∧ sOk s = true := l; subst e; rfl
  | tup ps => obtain ⟨a, vs, e, _⟩ : ∃ a vs, x = .ref a ∧ H a = some (.tup vs) ∧ Iss K H W ps vs := l; subst e; rfl
  | lst ps => obtain ⟨a, vs, e, _⟩ := l; subst e; rfl
  | dic ks ps => obtain ⟨a, vs, e, _⟩ := l; subst e; rfl
  | scr ns => obtain ⟨a, e, _⟩ : ∃ a, x = .ref a ∧ _ := l; subst e; rfl
theorem op_isP : OpP X (compareOp .Is) gIs := by
  refine ⟨_, op_isN, fun H W p q x y Q F m l1 l2 z f => ?_⟩
  cases q with
  | non =>
    cases (show y = .non from l2)
    have z' : Q (.pv (.bl (isNon p))) := by cases p <;> exact z
    exact ⟨rfl, fin1 f (p := .bl (isNon p)) (by rw [← isNon_iff l1]; rfl) z'⟩
  | _ => cases p <;> exact z.elim
theorem op_isNotP : OpP X (compareOp .IsNot) gIsNot := by
  refine ⟨_, op_notN, fun H W p q x y Q F m l1 l2 z f => ?_⟩
  cases q with
  | non =>
    cases (show y = .non from l2)
    have z' : Q (.pv (.bl (!isNon p))) := by cases p <;> exact z
    exact ⟨rfl, fin1 f (p := .bl (!isNon p)) (by rw [← isNon_iff l1]; rfl) z'⟩
  | _ => cases p <;> exact z.elim

/-! ### x[i] -/
def getP (ps : List PV) (i : Int) (Q : R → Prop) : Prop := match atI ps i with
  | some p => Q (.pv p)
  | none => False
def gIx : G2
  | .tup ps, .int i, Q => getP ps i Q
  | .lst ps, .int i, Q => getP ps i Q
  | .str s, .int i, Q => small s.length ∧ match atI s.cps.toList i with
    | some c => Q (.pv (.str ⟨#[c]⟩))
    | none => False
  | .dic ks ps, p, Q => match keyP p with
    | some k => match getD ks ps k with
      | some q => Q (.pv q)
      | none => False
    | none => False
  | _, _, _ => False
theorem at_iss {K : PySem.W.Frag} {H : Hp} {W : Addr → Prop} {ps : List PV} {vs : List V} {i : Int} {p : PV} (h : Iss K H W ps vs) (e : atI ps i = some p) : ∃ v, atI vs i = some v ∧ Is K H W p v := by
  unfold atI at e ⊢
  rw [h.length] at e
  cases z : ixN vs.length i with
  | none => rw [z] at e; cases e
  | some j => rw [z] at e; exact h.getP e
theorem sOk_at {s : Str} (h : sOk s = true) {i : Int} {c : Nat} (e : atI s.cps.toList i = some c) : sOk ⟨#[c]⟩ = true := by
  unfold atI at e
  cases z : ixN s.cps.toList.length i with
  | none => rw [z] at e; cases e
  | some j =>
    rw [z] at e
    exact sOk_one h (i := j) (by simpa using e)
theorem ix_P : IxP X gIx := by
  refine ⟨_, ix_list.or (ix_tup.or (ix_str.or ix_dict)), fun H W p q x y Q F m l1 l2 z f => ?_⟩
  cases p with
  | dic ks ps =>
    obtain ⟨a, vs, e1, r1, le, ok, i1⟩ := l1
    subst e1
    have z' : (match keyP q with
      | some k => match getD ks ps k with
        | some q => Q (.pv q)
        | none => False
      | none => False) := by cases q <;> exact z
    cases e : keyP q with
    | none => rw [e] at z'; exact z'.elim
    | some k =>
      rw [e] at z'
      dsimp only at z'
      obtain ⟨e2, _⟩ := lk_is l2 e
      cases e3 : getD ks ps k with
      | none => rw [e3] at z'; exact z'.elim
      | some p =>
        rw [e3] at z'
        obtain ⟨v, hv, hi⟩ := getD_is i1 e3
        exact .inr (.inr (.inr ⟨a, _, k, v, rfl, r1, e2, by rw [getD_val le]; exact hv, fin1 f hi z'⟩))
  | tup ps =>
    cases q with
    | int i =>
      cases (show y = _ from l2)
      obtain ⟨a, vs, e1, r1, i1⟩ : ∃ a vs, x = .ref a ∧ H a = some (.tup vs) ∧ Iss X.K H W ps vs := l1
      subst e1
      have z' : getP ps i Q := z
      unfold getP at z'
      cases e : atI ps i with
      | none => rw [e] at z'; exact z'.elim
      | some p =>
        rw [e] at z'
        obtain ⟨v, hv, hi⟩ := at_iss i1 e
        exact .inr (.inl ⟨a, vs, _, v, rfl, rfl, .inl (.inl r1), hv, fin1 f hi z'⟩)
    | _ => exact z.elim
  | lst ps =>
    cases q with
    | int i =>
      cases (show y = _ from l2)
      obtain ⟨a, vs, e1, r1, i1⟩ : ∃ a vs, x = .ref a ∧ H a = some (.lst vs) ∧ Iss X.K H W ps vs := l1
      subst e1
      have z' : getP ps i Q := z
      unfold getP at z'
      cases e : atI ps i with
      | none => rw [e] at z'; exact z'.elim
      | some p =>
        rw [e] at z'
        obtain ⟨v, hv, hi⟩ := at_iss i1 e
        exact .inl ⟨a, vs, _, v, rfl, rfl, .inl (.inl r1), hv, fin1 f hi z'⟩
    | _ => exact z.elim
  | str s =>
    cases q with
    | int i =>
      cases (show y = _ from l2)
      obtain ⟨e1, ok⟩ : x = .str s ∧ sOk s = true := l1
      subst e1
      obtain ⟨z1, z'⟩ : small s.length ∧ (match atI s.cps.toList i with
        | some c => Q (.pv (.str ⟨#[c]⟩))
        | none => False) := z
      cases e : atI s.cps.toList i with
      | none => rw [e] at z'; exact z'.elim
      | some c =>
        rw [e] at z'
        exact .inr (.inr (.inl ⟨s, i, c, rfl, rfl, z1, e, fin1 f (p := .str _) ⟨rfl, sOk_at ok e⟩ z'⟩))
    | _ => exact z.elim
  | _ => cases q <;> exact z.elim

/-! ### built-ins -/
def gLen : GL
  | [.str s], Q => small s.length ∧ Q (.pv (.int (s.length : Nat)))
  | [.tup ps], Q => Q (.pv (.int (ps.length : Nat)))
  | [.lst ps], Q => Q (.pv (.int (ps.length : Nat)))
  | [.dic ks _], Q => Q (.pv (.int (ks.length : Nat)))
  | _, _ => False
theorem lks1 {K : PySem.W.Frag} {H : Hp} {W : Addr → Prop} {p : PV} {xs : List V} (h : Lks K H W [p] xs) : ∃ x, xs = [x] ∧ Lk K H W p x := by
  cases h with
  | cons h t => cases t; exact ⟨_, rfl, h⟩
theorem lks2 {K : PySem.W.Frag} {H : Hp} {W : Addr → Prop} {p q : PV} {xs : List V} (h : Lks K H W [p, q] xs) : ∃ x y, xs = [x, y] ∧ Lk K H W p x ∧ Lk K H W q y := by
  cases h with
  | cons h t =>
    obtain ⟨y, rfl, h2⟩ := lks1 t
    exact ⟨_, y, rfl, h, h2⟩
theorem CallR.or {f : Value} {r r' : List V → Hp → VK → Prop} (h : CallR X f r) (h' : CallR X f r') : CallR X f (fun xs H Q => r xs H Q ∨ r' xs H Q) := by
  intro pins s σ H xs us Q I rs q
  rcases q with q | q
  · exact h pins s σ H xs us Q I rs q
  · exact h' pins s σ H xs us Q I rs q
theorem call_lenP : CallP X (.builtin "len") gLen := by
  refine ⟨_, CallR.or call_len call_lenK, fun H W ps xs Q F m l g f => ?_⟩
  unfold gLen at g
  split at g
  · rename_i s
    obtain ⟨x, rfl, h⟩ := lks1 l
    obtain ⟨e, _⟩ : x = .str s ∧ sOk s = true := h
    subst e
    exact .inl ⟨_, _, rfl, ⟨g.1, rfl⟩, fin1 f (p := .int _) rfl g.2⟩
  · rename_i ps
    obtain ⟨x, rfl, h⟩ := lks1 l
    obtain ⟨a, vs, e, r, i⟩ : ∃ a vs, x = .ref a ∧ H a = some (.tup vs) ∧ Iss X.K H W ps vs := h
    subst e
    exact .inl ⟨_, vs.length, rfl, .inr ⟨vs, .inl (.inl r), rfl⟩, fin1 f (p := .int _) rfl (by rw [← i.length]; exact g)⟩
  · rename_i ps
    obtain ⟨x, rfl, h⟩ := lks1 l
    obtain ⟨a, vs, e, r, i⟩ := h
    subst e
    exact .inl ⟨_, vs.length, rfl, .inl ⟨vs, .inl (.inl r), rfl⟩, fin1 f (p := .int _) rfl (by rw [← i.length]; exact g)⟩
  · rename_i ks ps
    obtain ⟨x, rfl, h⟩ := lks1 l
    obtain ⟨a, vs, e, r, le, _, _⟩ := h
    subst e
    exact .inr ⟨a, _, rfl, r, fin1 f (p := .int _) rfl (by rw [zip_len le]; exact g)⟩
  · exact g.elim
def gAbs : GL
  | [.int i], Q => Q (.pv (.int (if i < 0 then -i else i)))
  | _, _ => False
theorem call_absP : CallP X (.builtin "abs") gAbs := by
  refine ⟨_, call_abs, fun H W ps xs Q F m l g f => ?_⟩
  unfold gAbs at g
  split at g
  · obtain ⟨x, rfl, h⟩ := lks1 l
    cases (show x = _ from h)
    exact ⟨_, rfl, fin1 f (p := .int _) rfl g⟩
  · exact g.elim
def b2n (b : Bool) : Int := if b then 1 else 0
def gIntC : GL
  | [.int i], Q => Q (.pv (.int i))
  | [.bl b], Q => Q (.pv (.int (b2n b)))
  | _, _ => False
theorem call_intP : CallP X (.type "int") gIntC := by
  refine ⟨_, call_int1, fun H W ps xs Q F m l g f => ?_⟩
  unfold gIntC at g
  split at g
  · obtain ⟨x, rfl, h⟩ := lks1 l
    cases (show x = _ from h)
    exact .inl ⟨_, rfl, fin1 f (p := .int _) rfl g⟩
  · obtain ⟨x, rfl, h⟩ := lks1 l
    cases (show x = _ from h)
    exact .inr ⟨_, rfl, fin1 f (p := .int _) rfl g⟩
  · exact g.elim
/-- a list of ints; of truths -/
def asInts : List PV → Option (List Int)
  | [] => some []
  | .int i :: ps => (asInts ps).map (i :: ·)
  | _ :: _ => none
def asBls : List PV → Option (List Bool)
  | [] => some []
  | .bl b :: ps => (asBls ps).map (b :: ·)
  | _ :: _ => none
theorem asInts_iss {K : PySem.W.Frag} {H : Hp} {W : Addr → Prop} : ∀ {ps : List PV} {vs : List V} {ns : List Int}, Iss K H W ps vs → asInts ps = some ns → vs = ns.map V.int
  | [], _, _, h, e => by cases (show _ = [] from h); cases e; rfl
  | p :: ps, vs, ns, h, e => by
    obtain ⟨v, r, e1, h1, h2⟩ := h
    subst e1
    cases p with
    | int i =>
      have e' : (asInts ps).map (i :: ·) = some ns := e
      cases z : asInts ps with
      | none => rw [z] at e'; cases e'
      | some ms => rw [z] at e'; cases e'; cases (show v = .int i from h1); rw [asInts_iss h2 z]; rfl
    | _ => cases e
theorem asBls_iss {K : PySem.W.Frag} {H : Hp} {W : Addr → Prop} : ∀ {ps : List PV} {vs : List V} {ns : List Bool}, Iss K H W ps vs → asBls ps = some ns → vs = ns.map V.bl
  | [], _, _, h, e => by cases (show _ = [] from h); cases e; rfl
  | p :: ps, vs, ns, h, e => by
    obtain ⟨v, r, e1, h1, h2⟩ := h
    subst e1
    cases p with
    | bl i =>
      have e' : (asBls ps).map (i :: ·) = some ns := e
      cases z : asBls ps with
      | none => rw [z] at e'; cases e'
      | some ms => rw [z] at e'; cases e'; cases (show v = .bl i from h1); rw [asBls_iss h2 z]; rfl
    | _ => cases e
def gSum (ps : List PV) (Q : R → Prop) : Prop := match ps with
  | [.lst ps] => match asInts ps with
    | some ns => Q (.pv (.int ns.sum))
    | none => False
  | _ => False
theorem call_sumP (hc : X.calm = true) : CallP X (.builtin "sum") gSum := by
  refine ⟨_, cr_sum hc, fun H W ps xs Q F m l g f => ?_⟩
  unfold gSum at g
  split at g
  · split at g
    · rename_i ps _ ns e
      obtain ⟨x, rfl, h⟩ := lks1 l
      obtain ⟨a, vs, e1, r, i⟩ := h
      subst e1
      exact ⟨a, ns, rfl, by rw [← asInts_iss i e]; exact .inl (.inl r), fin1 f (p := .int _) rfl g⟩
    · exact g.elim
  · exact g.elim
def maxI : Int → List Int → Int
  | m, [] => m
  | m, n :: ns => maxI (if n > m then n else m) ns
theorem maxI_ge : ∀ (ns : List Int) (m : Int), m ≤ maxI m ns ∧ (∀ n ∈ ns, n ≤ maxI m ns) ∧ (maxI m ns = m ∨ maxI m ns ∈ ns)
  | [], m => ⟨Int.le_refl _, fun n h => by simp at h, .inl rfl⟩
  | n :: ns, m => by
    obtain ⟨h1, h2, h3⟩ := maxI_ge ns (if n > m then n else m)
    unfold maxI
    refine ⟨?_, fun k hk => ?_, ?_⟩
    · split at h1 <;> split <;> omega
    · rcases List.mem_cons.mp hk with rfl | hk
      · split at h1 <;> split <;> omega
      · exact h2 k hk
    · rcases h3 with e | e
      · rw [e]
        split
        · exact .inr List.mem_cons_self
        · exact .inl rfl
      · exact .inr (List.mem_cons_of_mem _ e)
def gMax (ps : List PV) (Q : R → Prop) : Prop := match ps with
  | [.lst ps] => match asInts ps with
    | some (n :: ns) => Q (.pv (.int (maxI n ns)))
    | _ => False
  | _ => False
theorem call_maxP (hc : X.calm = true) : CallP X (.builtin "max") gMax := by
  refine ⟨_, cr_max hc, fun H W ps xs Q F m l g f => ?_⟩
  unfold gMax at g
  split at g
  · split at g
    · rename_i ps _ n ns e
      obtain ⟨x, rfl, h⟩ := lks1 l
      obtain ⟨a, vs, e1, r, i⟩ := h
      subst e1
      refine ⟨a, n :: ns, rfl, by rw [← asInts_iss i e]; exact .inl (.inl r), by simp, fun k hk hm => ?_⟩
      obtain ⟨h1, h2, h3⟩ := maxI_ge ns n
      have ek : k = maxI n ns := by
        have a1 : k ≤ maxI n ns := by
          rcases List.mem_cons.mp hk with rfl | hk
          · exact h1
          · exact h2 k hk
        have a2 : maxI n ns ≤ k := by
          rcases h3 with e | e
          · rw [e]; exact hm n List.mem_cons_self
          · exact hm _ (List.mem_cons_of_mem _ e)
        omega
      rw [ek]
      exact fin1 f (p := .int _) rfl g
    · exact g.elim
  · exact g.elim
def gAll (ps : List PV) (Q : R → Prop) : Prop := match ps with
  | [.lst ps] => match asBls ps with
    | some bs => Q (.pv (.bl (bs.all id)))
    | none => False
  | _ => False
theorem call_allP (hc : X.calm = true) : CallP X (.builtin "all") gAll := by
  refine ⟨_, cr_all hc, fun H W ps xs Q F m l g f => ?_⟩
  unfold gAll at g
  split at g
  · split at g
    · rename_i ps _ ns e
      obtain ⟨x, rfl, h⟩ := lks1 l
      obtain ⟨a, vs, e1, r, i⟩ := h
      subst e1
      exact ⟨a, ns, rfl, by rw [← asBls_iss i e]; exact .inl (.inl r), fin1 f (p := .bl _) rfl g⟩
    · exact g.elim
  · exact g.elim
def gAny (ps : List PV) (Q : R → Prop) : Prop := match ps with
  | [.lst ps] => match asBls ps with
    | some bs => Q (.pv (.bl (bs.any id)))
    | none => False
  | _ => False
theorem call_anyP (hc : X.calm = true) : CallP X (.builtin "any") gAny := by
  refine ⟨_, cr_any hc, fun H W ps xs Q F m l g f => ?_⟩
  unfold gAny at g
  split at g
  · split at g
    · rename_i ps _ ns e
      obtain ⟨x, rfl, h⟩ := lks1 l
      obtain ⟨a, vs, e1, r, i⟩ := h
      subst e1
      exact ⟨a, ns, rfl, by rw [← asBls_iss i e]; exact .inl (.inl r), fin1 f (p := .bl _) rfl g⟩
    · exact g.elim
  · exact g.elim
/-- list(x), tuple(x) -/
def gList : GL
  | [.lst ps], Q => Q (.fr (.lst ps))
  | [.tup ps], Q => Q (.fr (.lst ps))
  | [.scr ns], Q => Q (.fr (.lst (ns.map PV.int)))
  | _, _ => False
theorem call_listP : CallP X (.type "list") gList := by
  refine ⟨_, call_list_of, fun H W ps xs Q F m l g f => ?_⟩
  unfold gList at g
  split at g
  · rename_i ps
    obtain ⟨x, rfl, h⟩ := lks1 l
    obtain ⟨a, vs, e, r, i⟩ := h
    subst e
    exact ⟨a, vs, rfl, .inl (.inl (.inl r)), fun p hp => f _ _ _ (same_new hp) (resLst m i hp) g⟩
  · rename_i ps
    obtain ⟨x, rfl, h⟩ := lks1 l
    obtain ⟨a, vs, e, r, i⟩ : ∃ a vs, x = .ref a ∧ H a = some (.tup vs) ∧ Iss X.K H W ps vs := h
    subst e
    exact ⟨a, vs, rfl, .inr (.inl (.inl r)), fun p hp => f _ _ _ (same_new hp) (resLst m i hp) g⟩
  · rename_i ns
    obtain ⟨x, rfl, h⟩ := lks1 l
    obtain ⟨a, e, r⟩ : ∃ a, x = .ref a ∧ ((∃ o, H a = some (.frz o (.lst (ns.map V.int)))) ∨ KLst X.K a (ns.map V.int)) := h
    subst e
    refine ⟨a, ns.map V.int, rfl, .inl ?_, fun p hp => f _ _ _ (same_new hp) (resLst m (Iss.ints ns) hp) g⟩
    rcases r with ⟨o, r⟩ | r
    · exact .inl (.inr ⟨o, r⟩)
    · exact .inr r
  · exact g.elim
def gTuple : GL
  | [.lst ps], Q => Q (.pv (.tup ps))
  | [.tup ps], Q => Q (.pv (.tup ps))
  | _, _ => False
theorem call_tupleP : CallP X (.type "tuple") gTuple := by
  refine ⟨_, call_tuple_of, fun H W ps xs Q F m l g f => ?_⟩
  unfold gTuple at g
  split at g
  · rename_i ps
    obtain ⟨x, rfl, h⟩ := lks1 l
    obtain ⟨a, vs, e, r, i⟩ := h
    subst e
    exact ⟨a, vs, rfl, .inl ⟨.inl (.inl r), fun p hp => f _ _ _ (same_new hp) (resTup m i hp) g⟩⟩
  · rename_i ps
    obtain ⟨x, rfl, h⟩ := lks1 l
    obtain ⟨a, vs, e, r, i⟩ : ∃ a vs, x = .ref a ∧ H a = some (.tup vs) ∧ Iss X.K H W ps vs := h
    subst e
    exact ⟨a, vs, rfl, .inr ⟨.inl (.inl r), fin1 f (p := .tup ps) ⟨a, vs, rfl, r, i⟩ g⟩⟩
  · exact g.elim
/-- isinstance with one built-in type -/
def tyN : PV → String
  | .non => "NoneType"
  | .bl _ => "bool"
  | .int _ => "int"
  | .str _ => "str"
  | .tup _ => "tuple"
  | .lst _ => "list"
  | .dic _ _ => "dict"
  | .scr _ => ""
  | .ty _ => ""
def isTy (p : PV) (T : String) : Bool := tyN p == T || (tyN p == "bool" && T == "int")
def tyOk (T : String) : Prop := T ∈ ["str", "tuple", "int", "bool", "list", "dict"]
theorem kit_all : ∀ a ∈ ["NoneType", "bool", "int", "str", "tuple", "list", "dict"], ∀ T ∈ ["str", "tuple", "int", "bool", "list", "dict"], kitB a T = some (a == T || (a == "bool" && T == "int")) := by decide +kernel
def gIsi : GL
  | [p, .ty T], Q => (tyN p ≠ "" ∧ tyOk T) ∧ Q (.pv (.bl (isTy p T)))
  | _, _ => False
theorem tyx_of {K : PySem.W.Frag} {H : Hp} {W : Addr → Prop} {p : PV} {x : V} (l : Lk K H W p x) (n : tyN p ≠ "") : TyX K H x (.type (tyN p)) ∧ tyN p ∈ ["NoneType", "bool", "int", "str", "tuple", "list", "dict"] := by
  cases p with
  | non => cases (show x = _ from l); exact ⟨.base .non, by decide⟩
  | bl b => cases (show x = _ from l); exact ⟨.base (.bl b), by simp [tyN]⟩
  | int i => cases (show x = _ from l); exact ⟨.base (.int i), by simp [tyN]⟩
  | str s => obtain ⟨e, _⟩ : x = .str s ∧ sOk s = true := l; subst e; exact ⟨.base (.str s), by simp [tyN]⟩
  | tup ps => obtain ⟨a, vs, e, r, _⟩ : ∃ a vs, x = .ref a ∧ H a = some (.tup vs) ∧ Iss K H W ps vs := l; subst e; exact ⟨.base (.tup r), by simp [tyN]⟩
  | lst ps => obtain ⟨a, vs, e, r, _⟩ := l; subst e; exact ⟨.base (.lst r), by simp [tyN]⟩
  | dic ks ps =>
    obtain ⟨a, vs, e, r, _⟩ := l
    subst e
    rcases r with r | ⟨o, r⟩
    · exact ⟨.base (.dK r), by simp [tyN]⟩
    · exact ⟨.fDict r, by simp [tyN]⟩
  | scr ns => exact absurd rfl n
  | ty s => exact absurd rfl n
theorem call_isiP : CallP X (.builtin "isinstance") gIsi := by
  refine ⟨_, call_isi, fun H W ps xs Q F m l g f => ?_⟩
  unfold gIsi at g
  split at g
  · rename_i p T
    obtain ⟨x, y, rfl, h1, h2⟩ := lks2 l
    cases (show y = .ty T from h2)
    obtain ⟨t, mem⟩ := tyx_of h1 g.1.1
    exact ⟨x, .ty T, _, _, isTy p T, rfl, .ty T, t, kit_ty (kit_all _ mem T g.1.2), fin1 f (p := .bl _) rfl g.2⟩
  · exact g.elim
theorem qe_ty {T : String} {x : Str} {pos : Pos} (hm : X.mg x = none) (hg : Gl X x := by rfl) (hv : bootBuiltins x = some (.type T) := by decide +kernel) (hn : x ≠ "__name__" := by decide) (hd : (x == ("__debug__" : Str)) = false := by decide) : QE X (.Name x pos) (qK (.ty T)) :=
  ⟨_, pe_bltn (v := .ty T) hg hm hv rfl hn hd, rz_c fun _ _ => rfl⟩
/-- {} -/
def qDict0 (ρ : En) (Q : PK1) : Prop := Q (.fr (.dic [] [])) ρ
theorem qe_dict0 {pos : Pos} : QE X (.Dict [] [] pos) qDict0 := by
  refine ⟨_, pe_dnewK, fun G H σ ρ pd Q F R1 h f => ?_⟩
  intro d hd
  exact f _ ρ _ _ (res_of (z := .fr (.dic [] [])) R1 (same_new hd) ⟨d, .dK [], rfl, hd, upd_same, [], rfl, rfl, rfl, rfl⟩) h
end
end Px
namespace Px
open PySem L2 PyProof.Rows

/-- a def that keeps its promise, under its name -/
structure Has (P : Program) (w : World) (K : PySem.W.Frag) (mg : Str → Option Value) (base : Heap) (x : Str) (k : Nat) (ps : List Str) (S : FS) : Prop where
  ex : ∃ f fd, FnOk P w K mg base CX0 k f fd ps (spP K S) ∧ mg x = some (.ref f) ∧ PySem.W.keepIn K (.ref f) = true ∧ Binds K fd ps [] ∧ ∃ (y : Str) (o : Option Addr) (c : Value) (sl : Array (Option Value)), K.lookup f = some ⟨c, o, .func fd, sl⟩
theorem _root_.L2.Fun.at {K : PySem.W.Frag} {x y : Str} {st : Stmt} {f : Addr} {fd : FuncData} (F : Fun K x y st f fd) : ∃ (y : Str) (o : Option Addr) (c : Value) (sl : Array (Option Value)), K.lookup f = some ⟨c, o, .func fd, sl⟩ := by
  obtain ⟨oc, od, kV, doc, pm, an, cdv, ct, osl, e1, l1, _⟩ := F.ex
  exact ⟨x, od, oc, osl, l1⟩
/-- a def as it stands behind the top -/
structure IsDef (K : PySem.W.Frag) (mg : Str → Option Value) (x : Str) (st : Stmt) : Prop where
  ex : ∃ f fd, Fun K x x st f fd ∧ mg x = some (.ref f)
section
variable {P : Program} {w : World} {K : PySem.W.Frag} {mg : Str → Option Value} {base : Heap} {x : Str} {k j : Nat} {ps : List Str} {S S' : FS}
theorem Has.mono (h : Has P w K mg base x k ps S) (l : k ≤ j) : Has P w K mg base x j ps S := by
  obtain ⟨f, fd, F, r⟩ := h.ex
  exact ⟨f, fd, F.mono l, r⟩
/-- no call is allowed -/
theorem has_none {st : Stmt} (d : IsDef K mg x st) (b : ∀ {f : Addr} {fd : FuncData}, Fun K x x st f fd → Binds K fd ps []) (n : ∀ pvs, ¬ S.pre pvs) : Has P w K mg base x 0 ps S := by
  obtain ⟨f, fd, F, m⟩ := d.ex
  have no : ∀ vs H Q E, ¬ spP K S vs H Q E := fun vs H Q E h => by
    obtain ⟨pvs, _, _, _, _, pre, _⟩ := h
    exact n pvs pre
  exact ⟨f, fd, ⟨fun vs H Q E h => absurd h (no vs H Q E), fun A outer s H args us vs Q E _ _ _ _ h => absurd h (no vs H Q E)⟩, m, F.kp, b F, F.at⟩
end
section
variable {X : Cx} {k j : Nat} {x : Str} {ps : List Str} {S : FS} {e : Expr} {es : List Expr} {t : QTA} {p pos : Pos}
theorem qe_callH (h : Has X.prog X.w X.K X.mg X.base x j ps S) (hr : Room j X.A) (ha : QA X (e :: es) t) (hg : Gl X x := by rfl) (hdb : (x == ("__debug__" : Str)) = false := by decide)
    (he : starEach (e :: es) X.env = (false, eval e X.env) :: starEach es X.env := by rfl) (hpl : (backTo pos (starEach es X.env)).any (·.1) = false := by rfl) : QE X (.Call (.Name x p) (e :: es) [] pos) (qCall S t) := by
  obtain ⟨f, fd, F, m, kk, b, _⟩ := h.ex
  exact qe_call F hr m kk b ha hg hdb he hpl
def qNeg (t : QT) (ρ : En) (Q : PK1) : Prop := t ρ fun r ρ1 => match r with
  | .pv (.int i) => Q (.pv (.int (-i))) ρ1
  | _ => False
theorem qe_neg {a : Expr} {ta : QT} (ha : QE X a ta) : QE X (.UnaryOp .USub a pos) (qNeg ta) := by
  obtain ⟨t1, p1, q1⟩ := ha.ex
  refine ⟨_, pe_un un_neg p1, fun G H σ ρ pd Q F R1 h f => q1 G H σ ρ pd _ _ R1 h fun r ρ' v H' s g => ?_⟩
  cases r with
  | pv p =>
    cases p with
    | int i =>
      have e : v = .int i := s.pd (.int i, v) List.mem_cons_self
      subst e
      exact ⟨i, rfl, f (.pv (.int (-i))) ρ' _ H' (s.re.push rfl) g⟩
    | _ => exact g.elim
  | _ => exact g.elim
theorem room64 {k : Nat} {A : Around} (hr : Room k A) : A.units + 64 < cLine := by have := hr.un; omega
theorem room65 {k : Nat} {A : Around} (hr : Room k A) : A.units + 65 < cLine := by have := hr.un; omega
end

/-- a def's data from its place -/
theorem same_fd {P : Program} {w : World} {K : PySem.W.Frag} {mg : Str → Option Value} {base : Heap} {CX : CXT} {x y : Str} {st : Stmt} {f : Addr} {fd fd' : FuncData} {k : Nat} {ps : List Str} {sp : Sp} (h : Fun K x y st f fd) (F : FnOk P w K mg base CX k f fd' ps sp)
    (h' : ∃ (y : Str) (o : Option Addr) (c : Value) (sl : Array (Option Value)), K.lookup f = some ⟨c, o, .func fd', sl⟩) : FnOk P w K mg base CX k f fd ps sp := by
  obtain ⟨oc, od, kV, doc, pm, an, cdv, ct, osl, e1, l1, _⟩ := h.ex
  obtain ⟨_, _, _, _, l2⟩ := h'
  rw [l1] at l2
  cases l2
  exact F

/-! ### the law -/
def sLaw : FS := { io := [false], pre := fun ps => ∃ ns : List Int, ps = [.scr ns] ∧ ns.length ≤ 63, post := fun _ r _ => r = .bl true }
theorem law_sp {K : PySem.W.Frag} {H : Hp} {a : Addr} {ns : List Int} {E : XK} (hl : ns.length ≤ 63) (ho : Only H) (hs : SqL K H a (ns.map V.int)) : spP K sLaw [.ref a] H (fun v _ => v = .bl true) E := by
  have hi : (∃ o, H a = some (.frz o (.lst (ns.map V.int)))) ∨ KLst K a (ns.map V.int) := by
    rcases hs with (h | ⟨o, h⟩) | h
    · rcases ho a with z | ⟨o, xs, z⟩
      · rw [z] at h; cases h
      · rw [z] at h; cases h
    · exact .inl ⟨o, h⟩
    · exact .inr h
  have nio : ∀ b, ¬ Iob [false] [V.ref a] b := fun b ⟨i, e, _⟩ => by
    cases i with
    | zero => simp at e
    | succ i => simp at e
  have nown : ∀ (i : Nat) (b : Bool) (p : PV), (mk [false] [PV.scr ns])[i]? ≠ some (Sl.own b p) := fun i b p e => by
    obtain ⟨e1, _, _⟩ := mk_own e
    cases i with
    | zero => simp at e1
    | succ i => simp at e1
  refine ⟨[.scr ns], fun _ => False, rfl, rfl, ⟨rfl, fun i p e => ?_, fun i b p e => absurd e (nown i b p), fun i j b c p q d e1 => absurd e1 (nown i b p), fun i b h => ?_, fun b o e => (G0_of e).2, fun b h => h.elim, fun x hx => by simp at hx⟩, ⟨ns, rfl, hl⟩, fun v H' r outs hp _ fin => ?_⟩
  · obtain ⟨e1, e2⟩ := mk_val e
    cases i with
    | zero => cases e2; exact ⟨.ref a, rfl, a, rfl, hi⟩
    | succ i => simp at e2
  · cases i with
    | zero => have := h.1; simp [sLaw] at this
    | succ i => have := h.1; simp [sLaw] at this
  · have hp' : r = .bl true := hp
    subst hp'
    exact fin.res rfl
end Px
namespace Px
open PySem L2 PyProof.Rows

/-! ### facts for readings -/
theorem eqOk_str (s : Str) : eqOk (.str s) := ⟨rfl, Nat.zero_le _⟩
theorem eqOk_int (i : Int) : eqOk (.int i) := ⟨rfl, Nat.zero_le _⟩
theorem eqOk_bl (b : Bool) : eqOk (.bl b) := ⟨rfl, Nat.zero_le _⟩
theorem eqOk_non : eqOk .non := ⟨rfl, Nat.zero_le _⟩
theorem peq_str (a b : Str) : peq (.str a) (.str b) = (a == b) := rfl
theorem peq_int (a b : Int) : peq (.int a) (.int b) = (a == b) := rfl
theorem peq_bl (a b : Bool) : peq (.bl a) (.bl b) = (a == b) := rfl
theorem peq_tup (a b : List PV) : peq (.tup a) (.tup b) = peqs a b := rfl
theorem peq_lst (a b : List PV) : peq (.lst a) (.lst b) = peqs a b := rfl
theorem peqs_nil : peqs [] [] = true := rfl
theorem peqs_cons (a b : PV) (as bs : List PV) : peqs (a :: as) (b :: bs) = (peq a b && peqs as bs) := rfl
theorem peqs_nc (a : PV) (as : List PV) : peqs [] (a :: as) = false := rfl
theorem peqs_cn (a : PV) (as : List PV) : peqs (a :: as) [] = false := rfl
theorem forGo_nil {g : QTG} {body : QTS} {D : PEnds} {ρ : En} : forGo g body D [] ρ = D.nx ρ := rfl
theorem forGo_cons {g : QTG} {body : QTS} {D : PEnds} {p : PV} {ps : List PV} {ρ : En} : forGo g body D (p :: ps) ρ = g p ρ fun ρ1 => body { nx := fun ρ2 => forGo g body D ps ρ2, rt := D.rt, bk := D.nx, ct := fun ρ2 => forGo g body D ps ρ2 } ρ1 := rfl
theorem lcGo_nil {g : QTG} {tt : QTT} {te : QT} {vs : List Nat} {Q : List PV → En → Prop} {acc : List PV} {ρ : En} : lcGo g tt te vs Q [] acc ρ = Q acc ρ := rfl
theorem notIos_nil {ρ : En} : notIos ρ [] = True := by simp [notIos]
theorem notIos_cons {ρ : En} {v : Nat} {vs : List Nat} : notIos ρ (v :: vs) = (notIo ρ v = true ∧ notIos ρ vs) := by simp [notIos]
theorem getP_of {ps : List PV} {i : Int} {p : PV} {Q : R → Prop} (h : atI ps i = some p) (q : Q (.pv p)) : getP ps i Q := by unfold getP; rw [h]; exact q
theorem atI_0 {α : Type} {x : α} {xs : List α} : atI (x :: xs) 0 = some x := atI_nat (j := 0) rfl
theorem atI_1 {α : Type} {x y : α} {xs : List α} : atI (x :: y :: xs) 1 = some y := atI_nat (j := 1) rfl
theorem atI_2 {α : Type} {x y z : α} {xs : List α} : atI (x :: y :: z :: xs) 2 = some z := atI_nat (j := 2) rfl
theorem atI_3 {α : Type} {x y z u : α} {xs : List α} : atI (x :: y :: z :: u :: xs) 3 = some u := atI_nat (j := 3) rfl
theorem atI_in {α : Type} {xs : List α} {i : Int} (h0 : 0 ≤ i) (h : i < (xs.length : Int)) : ∃ x, atI xs i = some x ∧ x ∈ xs := by
  have l : i.toNat < xs.length := by omega
  have e : i = ((i.toNat : Nat) : Int) := by omega
  refine ⟨xs[i.toNat], ?_, List.getElem_mem l⟩
  have z : atI xs ((i.toNat : Nat) : Int) = some xs[i.toNat] := atI_nat (List.getElem?_eq_getElem l)
  rw [← e] at z
  exact z
theorem ixN_of {n : Nat} {k : Nat} (h : k < n) : ixN n (k : Int) = some k := by unfold ixN; simp; omega
theorem ixN_0 {m : Nat} : ixN (m + 1) 0 = some 0 := ixN_of (k := 0) (by omega)
theorem ixN_1 {m : Nat} : ixN (m + 2) 1 = some 1 := ixN_of (k := 1) (by omega)
theorem ixN_2 {m : Nat} : ixN (m + 3) 2 = some 2 := ixN_of (k := 2) (by omega)
theorem ixN_3 {m : Nat} : ixN (m + 4) 3 = some 3 := ixN_of (k := 3) (by omega)
theorem cmul_r {i : Int} {j : Int} (h : -(2 ^ 64) < j ∧ j < 2 ^ 64) : CMul i j := .inr h
theorem atI_int {ns : List Int} {i : Int} (h0 : 0 ≤ i) (h : i < (ns.length : Int)) : ∃ x, atI (ns.map PV.int) i = some (PV.int x) := by
  obtain ⟨x, e, m⟩ := atI_in (xs := ns.map PV.int) h0 (by rw [List.length_map]; exact h)
  obtain ⟨y, _, rfl⟩ := List.mem_map.mp m
  exact ⟨y, e⟩
theorem cut_from1 {α : Type} (x : α) (xs : List α) : cutP (x :: xs) (some 1) none = xs := by
  unfold cutP
  have e1 : HT.sIx (x :: xs).length 0 (some 1) = 1 := by
    rw [show (1 : Int) = ((1 : Nat) : Int) from rfl, HT.sIx_nat]; simp
  have e2 : HT.sIx (x :: xs).length (x :: xs).length none = (x :: xs).length := rfl
  rw [e1, e2]
  simp
theorem lcGo_cons {g : QTG} {tt : QTT} {te : QT} {vs : List Nat} {Q : List PV → En → Prop} {p : PV} {ps acc : List PV} {ρ : En} : lcGo g tt te vs Q (p :: ps) acc ρ = g p ρ fun ρ1 => tt ρ1 fun b ρ2 => Br b (te ρ2 fun r ρ3 => match r.wk with
      | .pv q => small (acc.length + 1) ∧ notIos ρ3 vs ∧ lcGo g tt te vs Q ps (acc ++ [q]) (wipeE ρ3 vs)
      | _ => False) (notIos ρ2 vs ∧ lcGo g tt te vs Q ps acc (wipeE ρ2 vs)) := rfl
/-- a comprehension, by what holds ahead of the rest; N stands for what follows the rest -/
theorem lc_ind {g : QTG} {tt : QTT} {te : QT} {vs : List Nat} {Q : List PV → En → Prop} (I : List PV → List PV → En → Prop) (hn : ∀ acc ρ, I [] acc ρ → Q acc ρ)
    (hc : ∀ p ps acc ρ, I (p :: ps) acc ρ → ∀ N : List PV → En → Prop, (∀ acc' ρ', I ps acc' ρ' → N acc' ρ') → g p ρ fun ρ1 => tt ρ1 fun b ρ2 => Br b (te ρ2 fun r ρ3 => match r.wk with
      | .pv q => small (acc.length + 1) ∧ notIos ρ3 vs ∧ N (acc ++ [q]) (wipeE ρ3 vs)
      | _ => False) (notIos ρ2 vs ∧ N acc (wipeE ρ2 vs))) : ∀ ps acc ρ, I ps acc ρ → lcGo g tt te vs Q ps acc ρ
  | [], acc, ρ, h => hn acc ρ h
  | p :: ps, acc, ρ, h => hc p ps acc ρ h (lcGo g tt te vs Q ps) fun acc' ρ' h' => lc_ind I hn hc ps acc' ρ' h'
theorem tyOk_str : tyOk "str" := by unfold tyOk; decide
theorem tyOk_tuple : tyOk "tuple" := by unfold tyOk; decide
theorem tyOk_int : tyOk "int" := by unfold tyOk; decide
theorem tyOk_bool : tyOk "bool" := by unfold tyOk; decide
theorem tyOk_list : tyOk "list" := by unfold tyOk; decide
theorem tyOk_dict : tyOk "dict" := by unfold tyOk; decide
/-- a slot that the def may store to -/
def Pl (s : Sl) : Prop := s = .un ∨ ∃ p, s = .val p
theorem pl_un : Pl .un := .inl rfl
theorem pl_val {p : PV} : Pl (.val p) := .inr ⟨p, rfl⟩
/-- the items of a list or a tuple -/
def items : PV → List PV
  | .lst qs => qs
  | .tup qs => qs
  | _ => []
def isRow : PV → Prop
  | .lst _ => True
  | .tup _ => True
  | _ => False
theorem call_i {S : FS} {rs : List R} {ρ : En} {Q : PK1} {ps : List PV} {js : List Nat} {dm : Dum Q} (h : splitArgs ρ S.io rs = some (ps, js)) (nd : js.Nodup) (pre : S.pre ps) (k : ∀ r outs, S.post ps r outs → outs.length = js.length → Q (if S.fr = true then .fr r else .pv r) (putOuts js outs ρ)) : callR S rs ρ Q dm := by
  unfold callR
  rw [h]
  exact ⟨nd, pre, k⟩
/-- .. nothing handed on to be changed -/
theorem call_p {S : FS} {rs : List R} {ρ : En} {Q : PK1} {ps : List PV} {dm : Dum Q} (h : splitArgs ρ S.io rs = some (ps, [])) (hf : S.fr = false) (pre : S.pre ps) (k : ∀ r, S.post ps r [] → Q (.pv r) ρ) : callR S rs ρ Q dm :=
  call_i h List.nodup_nil pre fun r outs hp l => by
    have e : outs = [] := List.length_eq_zero_iff.mp l
    subst e
    rw [hf]
    exact k r hp
/-- .. one thing -/
theorem call_1 {S : FS} {rs : List R} {ρ : En} {Q : PK1} {ps : List PV} {j : Nat} {dm : Dum Q} (h : splitArgs ρ S.io rs = some (ps, [j])) (hf : S.fr = false) (pre : S.pre ps) (k : ∀ r d, S.post ps r [d] → Q (.pv r) (setOwn ρ j d)) : callR S rs ρ Q dm :=
  call_i h (List.nodup_cons.mpr ⟨by simp, List.nodup_nil⟩) pre fun r outs hp l => by
    obtain ⟨d, rfl⟩ := List.length_eq_one_iff.mp l
    rw [hf]
    exact k r d hp
theorem lcR_i {g : QTG} {tt : QTT} {te : QT} {vs : List Nat} {ps : List PV} {ρ : En} {Q : PK1} {dm : Dum Q} (h : lcGo g tt te vs (fun acc ρ' => Q (.fr (.lst acc)) ρ') ps [] ρ) : lcR g tt te vs ps ρ Q dm := h
theorem while_i {c : QTT} {body : QTS} {D : PEnds} {ρ : En} (I : Nat → En → Prop) (m : Nat) (h0 : I m ρ) (h : ∀ m ρ, I m ρ → c ρ fun b ρ1 => Br b (body { nx := fun ρ' => ∃ m', m' < m ∧ I m' ρ', rt := D.rt, bk := D.nx, ct := fun ρ' => ∃ m', m' < m ∧ I m' ρ' } ρ1) (D.nx ρ1)) : qWhile c body D ρ := ⟨I, ⟨m, h0⟩, h⟩
/-- a loop, by what holds ahead of the rest; N stands for what follows the rest -/
theorem for_ind {g : QTG} {body : QTS} {D : PEnds} (I : List PV → En → Prop) (hn : ∀ ρ, I [] ρ → D.nx ρ)
    (hc : ∀ p ps ρ, I (p :: ps) ρ → ∀ N : En → Prop, (∀ ρ', I ps ρ' → N ρ') → g p ρ fun ρ1 => body { nx := N, rt := D.rt, bk := D.nx, ct := N } ρ1) : ∀ ps ρ, I ps ρ → forGo g body D ps ρ
  | [], ρ, h => hn ρ h
  | p :: ps, ρ, h => hc p ps ρ h (forGo g body D ps) fun ρ' h' => for_ind I hn hc ps ρ' h'
end Px
set_option maxHeartbeats 1000000
/-! list(zip(xs, ys)), of two lists or two tuples, as the model has it: the pairs are all kept, so the zip's own tuple is never used again -/
namespace PxZ
open PySem PySem.Spec PyProof.Rows RZ
section
variable {prog : Program} {w : World} {A : Around} {E : Value → Shared → Prop} {s : Shared}
theorem freeT {zz TI TO T : Addr} {f : Bool} {oT : Obj} {Q : Bool → Shared → Prop} (e1 : IsZipHeld s.heap zz TI TO T f) (e2 : s.heap.get? T = some oT)
    (h : ∀ h', IsZipHeld h' zz TI TO T true → Heap.SameBut zz s.heap h' → Q false { s with heap := h' }) : wpAny (model prog w) A (Builtin.SmallTypes.ownedTupleIsFree (.ref zz)) Q E s := wpAny_tupleHeld_zip e1 e2 h
/-- the next pair of two tuples, the pair ahead still held -/
theorem heldT {zz TI TO T j1 j2 m1 m2 : Addr} {f : Bool} {oT : Obj} {n1 n2 : Nat} {xs ys : Array Value} {x y : Value} {Q : Option Value → Shared → Prop} (D : ZipApart zz TI TO j1 j2 m1 m2)
    (e1 : IsZipHeld s.heap zz TI TO T f) (e2 : s.heap.get? T = some oT) (e3 : IsPair s.heap TI (.ref j1) (.ref j2))
    (g1 : s.heap.IsTupleIter j1 m1 n1) (g2 : s.heap.IsTupleIter j2 m2 n2) (t1 : s.heap.IsTuple m1 xs) (t2 : s.heap.IsTuple m2 ys) (ex : xs[n1]? = some x) (ey : ys[n2]? = some y)
    (k : ∀ h', IsZipHeld h' zz TI TO T true → h'.IsTupleIter j1 m1 (n1 + 1) → h'.IsTupleIter j2 m2 (n2 + 1) → IsPair h' s.heap.objs.size x y → h'.objs.size = s.heap.objs.size + 1 →
      (∀ c o, c ≠ zz → c ≠ j1 → c ≠ j2 → s.heap.get? c = some o → h'.get? c = some o) → Q (some (.ref s.heap.objs.size)) { s with heap := h' }) :
    wpAny (model prog w) A (pyNext (.ref zz)) Q E s := by
  have ty : s.TypeIs (.ref zz) "zip" := ⟨_, e1, rfl⟩
  unfold pyNext
  refine wpAny_bind (wpAny_attempt (wpAny_callSpecial?_slot (name := Str.ofString "__next__") ty F.slot_zip_next (wpAny_call_entry F.slot_zip_next ty F.entry_zip_next ?_ (F.args_zip_next_1 _))))
  show wpAny _ _ (field (.ref zz) 2 >>= _) _ _ _; refine wpAny_bind (wpAny_field e1 rfl (x := .bool false) rfl ?_)
  show wpAny _ _ (field (.ref zz) 3 >>= _) _ _ _; refine wpAny_bind (wpAny_field e1 rfl (x := .ref TI) rfl ?_)
  refine wpAny_bind (wpAny_seqItems e3 rfl ?_); show wpAny _ _ (Builtin.SmallTypes.ownedTupleIsFree (.ref zz) >>= _) _ _ _
  refine wpAny_bind (freeT e1 e2 fun hA zA sA => ?_)
  simp only [Bool.false_eq_true, if_false]; refine wpAny_bind ?_
  rw [← Array.forIn_toList]; simp only [List.forIn_cons, List.forIn_nil]; refine wpAny_bind (wpAny_bind (wpAny_holding ?_))
  show wpAny _ _ (Builtin.SmallTypes.nextOf (.ref j1) >>= _) _ _ _
  refine wpAny_bind (nextOf_tuple_item (s := { s with heap := hA }) (g1.extBut sA.extBut D.i1z) (t1.extBut sA.extBut D.l1z) ex fun hB gB sB => wpAny_pure ?_)
  refine wpAny_pure ?_; refine wpAny_bind (wpAny_bind (wpAny_holding ?_))
  show wpAny _ _ (Builtin.SmallTypes.nextOf (.ref j2) >>= _) _ _ _
  refine wpAny_bind (nextOf_tuple_item (s := { s with heap := hB }) ((g2.extBut sA.extBut D.i2z).extBut sB.extBut D.i12.symm) ((t2.extBut sA.extBut D.l2z).extBut sB.extBut D.l2i1) ey fun hC gC sC => wpAny_pure ?_)
  refine wpAny_pure (wpAny_pure ?_); show wpAny _ _ (newTuple [x, y] >>= _) _ _ _
  refine wpAny_bind (wpAny_newTuple ?_)
  have sz : hC.objs.size = s.heap.objs.size := by rw [sC.1, sB.1, sA.1]
  have zC : IsZipHeld hC zz TI TO T true := sC.extBut _ _ D.i2z.symm (sB.extBut _ _ D.i1z.symm zA)
  have kp : ∀ c o, c ≠ zz → c ≠ j1 → c ≠ j2 → s.heap.get? c = some o → hC.get? c = some o := fun c o c1 c2 c3 e => sC.extBut _ _ c3 (sB.extBut _ _ c2 (sA.extBut _ _ c1 e))
  have gB' : hC.IsTupleIter j1 m1 (n1 + 1) := gB.extBut sC.extBut D.i12
  refine wpAny_pure ⟨_, rfl, wpAny_pure ?_⟩; show Q (some (.ref hC.objs.size)) _
  have hp : IsPair (hC.push { cls := .type "tuple", data := .seq #[x, y] }) hC.objs.size x y := Heap.get?_push_size _ rfl
  have hz : (hC.push { cls := .type "tuple", data := .seq #[x, y] }).objs.size = hC.objs.size + 1 := Heap.size_push ..
  rw [sz] at hp hz ⊢
  exact k _ (Heap.get?_push_of_some _ zC) (gB'.at fun o e => Heap.get?_push_of_some _ e) (gC.at fun o e => Heap.get?_push_of_some _ e) hp hz fun c o c1 c2 c3 e => Heap.get?_push_of_some _ (kp c o c1 c2 c3 e)
theorem endT {zz TI TO T j1 j2 m1 m2 : Addr} {f : Bool} {oT : Obj} {n1 n2 : Nat} {xs ys : Array Value} {Q : Option Value → Shared → Prop} (hh : A.handled = none) (D : ZipApart zz TI TO j1 j2 m1 m2)
    (e1 : IsZipHeld s.heap zz TI TO T f) (e2 : s.heap.get? T = some oT) (e3 : IsPair s.heap TI (.ref j1) (.ref j2))
    (g1 : s.heap.IsTupleIter j1 m1 n1) (g2 : s.heap.IsTupleIter j2 m2 n2) (t1 : s.heap.IsTuple m1 xs) (t2 : s.heap.IsTuple m2 ys) (en : xs[n1]? = none ∨ ys[n2]? = none)
    (k : ∀ h', (∀ c o, c ≠ zz → c ≠ j1 → c ≠ j2 → s.heap.get? c = some o → h'.get? c = some o) → Q none { s with heap := h' }) : wpAny (model prog w) A (pyNext (.ref zz)) Q E s := by
  have ty : s.TypeIs (.ref zz) "zip" := ⟨_, e1, rfl⟩
  unfold pyNext
  refine wpAny_bind (wpAny_attempt (wpAny_callSpecial?_slot (name := Str.ofString "__next__") ty F.slot_zip_next (wpAny_call_entry F.slot_zip_next ty F.entry_zip_next ?_ (F.args_zip_next_1 _))))
  show wpAny _ _ (field (.ref zz) 2 >>= _) _ _ _; refine wpAny_bind (wpAny_field e1 rfl (x := .bool false) rfl ?_)
  show wpAny _ _ (field (.ref zz) 3 >>= _) _ _ _; refine wpAny_bind (wpAny_field e1 rfl (x := .ref TI) rfl ?_)
  refine wpAny_bind (wpAny_seqItems e3 rfl ?_); show wpAny _ _ (Builtin.SmallTypes.ownedTupleIsFree (.ref zz) >>= _) _ _ _
  refine wpAny_bind (freeT e1 e2 fun hA zA sA => ?_)
  simp only [Bool.false_eq_true, if_false]; refine wpAny_bind ?_
  rw [← Array.forIn_toList]; simp only [List.forIn_cons, List.forIn_nil]; refine wpAny_bind (wpAny_bind (wpAny_holding ?_))
  show wpAny _ _ (Builtin.SmallTypes.nextOf (.ref j1) >>= _) _ _ _
  cases hx : xs[n1]? with
  | none =>
    refine wpAny_bind (nextOf_tuple_end (s := { s with heap := hA }) hh (g1.extBut sA.extBut D.i1z) (t1.extBut sA.extBut D.l1z) hx fun hB e sB he => ?_)
    obtain ⟨o, ho, hc⟩ := he; refine wpAny_bind (wpAny_isInstance (T := "StopIteration") (b := true) ⟨o, ho, hc⟩ isSubtype_stop ?_)
    exact wpAny_pure (k _ fun c o c1 c2 _ x => sB _ _ c2 (sA.extBut _ _ c1 x))
  | some x =>
    have hy : ys[n2]? = none := by rcases en with h | h; rw [hx] at h; cases h; exact h
    refine wpAny_bind (nextOf_tuple_item (s := { s with heap := hA }) (g1.extBut sA.extBut D.i1z) (t1.extBut sA.extBut D.l1z) hx fun hB gB sB => wpAny_pure ?_)
    refine wpAny_pure ?_; refine wpAny_bind (wpAny_bind (wpAny_holding ?_))
    show wpAny _ _ (Builtin.SmallTypes.nextOf (.ref j2) >>= _) _ _ _
    refine wpAny_bind (nextOf_tuple_end (s := { s with heap := hB }) hh ((g2.extBut sA.extBut D.i2z).extBut sB.extBut D.i12.symm) ((t2.extBut sA.extBut D.l2z).extBut sB.extBut D.l2i1) hy fun hC e sC he => ?_)
    obtain ⟨o, ho, hc⟩ := he; refine wpAny_bind (wpAny_isInstance (T := "StopIteration") (b := true) ⟨o, ho, hc⟩ isSubtype_stop ?_)
    exact wpAny_pure (k _ fun c o c1 c2 c3 x => sC _ _ c3 (sB.extBut _ _ c2 (sA.extBut _ _ c1 x)))
end
/-- a zip that is drawn from while the list at S is filled -/
structure ZSrc (prog : Program) (w : World) (zz S : Addr) (fp : List Addr) (n : Nat) (Pv : Nat → Value → Value → Prop) (St : Nat → Heap → Prop) : Prop where
  off : S ∉ fp
  frame : ∀ i h h', St i h → (∀ b o, b ≠ S → h.get? b = some o → h'.get? b = some o) → St i h'
  item : ∀ (A : Around) (s : Shared) (i : Nat) (Q : Option Value → Shared → Prop) (E : Value → Shared → Prop), i < n → St i s.heap → S < s.heap.objs.size →
    (∀ x y h', Pv i x y → IsPair h' s.heap.objs.size x y → h'.objs.size = s.heap.objs.size + 1 → St (i + 1) h' → (∀ b o, b ∉ fp → s.heap.get? b = some o → h'.get? b = some o) → Q (some (.ref s.heap.objs.size)) { s with heap := h' }) →
    wpAny (model prog w) A (pyNext (.ref zz)) Q E s
  done : ∀ (A : Around) (s : Shared) (Q : Option Value → Shared → Prop) (E : Value → Shared → Prop), A.handled = none → St n s.heap →
    (∀ h', (∀ b o, b ∉ fp → s.heap.get? b = some o → h'.get? b = some o) → Q none { s with heap := h' }) → wpAny (model prog w) A (pyNext (.ref zz)) Q E s
section
variable {prog : Program} {w : World}
theorem min_end {xs ys : Array Value} : xs[min xs.size ys.size]? = none ∨ ys[min xs.size ys.size]? = none := by
  rcases Nat.le_total xs.size ys.size with h | h
  · exact .inl (Array.getElem?_eq_none (by omega))
  · exact .inr (Array.getElem?_eq_none (by omega))
theorem zsrcL {zz TI TO j1 j2 m1 m2 S : Addr} (D : ZipApart zz TI TO j1 j2 m1 m2) (xs ys : Array Value) (hS : S ≠ zz ∧ S ≠ TI ∧ S ≠ TO ∧ S ≠ j1 ∧ S ≠ j2 ∧ S ≠ m1 ∧ S ≠ m2) :
    ZSrc prog w zz S [zz, TO, j1, j2] (min xs.size ys.size) (fun i k v => xs[i]? = some k ∧ ys[i]? = some v)
      (fun i h => IsPair h TI (.ref j1) (.ref j2) ∧ h.IsListIter j1 m1 i ∧ h.IsListIter j2 m2 i ∧ h.IsList m1 xs ∧ h.IsList m2 ys ∧
        ((IsZip h zz TI TO .none ∧ ∃ a b, IsPair h TO a b) ∨ ∃ T f oT, IsZipHeld h zz TI TO T f ∧ h.get? T = some oT ∧ T ≠ zz ∧ T ≠ j1 ∧ T ≠ j2 ∧ T ≠ S)) := by
  obtain ⟨s1, s2, s3, s4, s5, s6, s7⟩ := hS
  refine ⟨by simp [s1, s3, s4, s5], fun i h h' st k => ?_, fun A s i Q E hi st hs q => ?_, fun A s Q E hh st q => ?_⟩
  · obtain ⟨p, g1, g2, t1, t2, c⟩ := st
    refine ⟨k _ _ s2.symm p, g1.at fun o => k _ o s4.symm, g2.at fun o => k _ o s5.symm, t1.at fun o => k _ o s6.symm, t2.at fun o => k _ o s7.symm, ?_⟩
    rcases c with ⟨c, a, b, c2⟩ | ⟨T, f, oT, c, hT, r1, r2, r3, r4⟩
    · exact .inl ⟨k _ _ s1.symm c, a, b, k _ _ s3.symm c2⟩
    · exact .inr ⟨T, f, oT, k _ _ s1.symm c, k _ _ r4 hT, r1, r2, r3, r4⟩
  · obtain ⟨p, g1, g2, t1, t2, c⟩ := st
    have ex := Array.getElem?_eq_getElem (Nat.lt_of_lt_of_le hi (Nat.min_le_left xs.size ys.size))
    have ey := Array.getElem?_eq_getElem (Nat.lt_of_lt_of_le hi (Nat.min_le_right xs.size ys.size))
    have lt : ∀ {c o}, s.heap.get? c = some o → s.heap.objs.size ≠ c := fun e => Nat.ne_of_gt (Heap.lt_size e)
    have n1 : s.heap.objs.size ≠ j1 := let ⟨_, e, _⟩ := g1; lt e
    have n2 : s.heap.objs.size ≠ j2 := let ⟨_, e, _⟩ := g2; lt e
    rcases c with ⟨c, a, b, c2⟩ | ⟨T, f, oT, c, hT, r1, r2, r3, r4⟩
    · refine wpAny_pyNext_zip_item D c p c2 g1 g2 t1 t2 ex ey fun h' a1 a2 a3 a4 a5 a6 hk => ?_
      refine q _ _ h' ⟨ex, ey⟩ a5 a6 ⟨hk _ _ D.TIz D.TITO D.TIi1 D.TIi2 p, a3, a4, t1.at fun o => hk _ o D.l1z D.l1TO D.l1i1 D.l1i2, t2.at fun o => hk _ o D.l2z D.l2TO D.l2i1 D.l2i2, .inr ⟨_, false, _, a1, a5, lt c, n1, n2, Nat.ne_of_gt hs⟩⟩ fun d o hd e => ?_
      simp only [List.mem_cons, List.not_mem_nil, or_false, not_or] at hd
      exact hk d o hd.1 hd.2.1 hd.2.2.1 hd.2.2.2 e
    · refine wpAny_pyNext_zip_item_held D c hT p g1 g2 t1 t2 ex ey fun h' a1 a3 a4 a5 a6 hk => ?_
      refine q _ _ h' ⟨ex, ey⟩ a5 a6 ⟨hk _ _ D.TIz D.TIi1 D.TIi2 p, a3, a4, t1.at fun o => hk _ o D.l1z D.l1i1 D.l1i2, t2.at fun o => hk _ o D.l2z D.l2i1 D.l2i2, .inr ⟨T, true, oT, a1, hk _ _ r1 r2 r3 hT, r1, r2, r3, r4⟩⟩ fun d o hd e => ?_
      simp only [List.mem_cons, List.not_mem_nil, or_false, not_or] at hd
      exact hk d o hd.1 hd.2.2.1 hd.2.2.2 e
  · obtain ⟨p, g1, g2, t1, t2, c⟩ := st
    rcases c with ⟨c, a, b, c2⟩ | ⟨T, f, oT, c, hT, r1, r2, r3, r4⟩
    · exact wpAny_pyNext_zip_end hh D c p c2 g1 g2 t1 t2 min_end fun h' hk => q h' fun d o hd e => by
        simp only [List.mem_cons, List.not_mem_nil, or_false, not_or] at hd
        exact hk d o hd.1 hd.2.1 hd.2.2.1 hd.2.2.2 e
    · exact wpAny_pyNext_zip_end_held hh D c hT p g1 g2 t1 t2 min_end fun h' hk => q h' fun d o hd e => by
        simp only [List.mem_cons, List.not_mem_nil, or_false, not_or] at hd
        exact hk d o hd.1 hd.2.2.1 hd.2.2.2 e
theorem zsrcT {zz TI TO j1 j2 m1 m2 S : Addr} (D : ZipApart zz TI TO j1 j2 m1 m2) (xs ys : Array Value) (hS : S ≠ zz ∧ S ≠ TI ∧ S ≠ TO ∧ S ≠ j1 ∧ S ≠ j2 ∧ S ≠ m1 ∧ S ≠ m2) :
    ZSrc prog w zz S [zz, TO, j1, j2] (min xs.size ys.size) (fun i k v => xs[i]? = some k ∧ ys[i]? = some v)
      (fun i h => IsPair h TI (.ref j1) (.ref j2) ∧ h.IsTupleIter j1 m1 i ∧ h.IsTupleIter j2 m2 i ∧ h.IsTuple m1 xs ∧ h.IsTuple m2 ys ∧
        ((IsZip h zz TI TO .none ∧ ∃ a b, IsPair h TO a b) ∨ ∃ T f oT, IsZipHeld h zz TI TO T f ∧ h.get? T = some oT ∧ T ≠ zz ∧ T ≠ j1 ∧ T ≠ j2 ∧ T ≠ S)) := by
  obtain ⟨s1, s2, s3, s4, s5, s6, s7⟩ := hS
  refine ⟨by simp [s1, s3, s4, s5], fun i h h' st k => ?_, fun A s i Q E hi st hs q => ?_, fun A s Q E hh st q => ?_⟩
  · obtain ⟨p, g1, g2, t1, t2, c⟩ := st
    refine ⟨k _ _ s2.symm p, g1.at fun o => k _ o s4.symm, g2.at fun o => k _ o s5.symm, t1.at fun o => k _ o s6.symm, t2.at fun o => k _ o s7.symm, ?_⟩
    rcases c with ⟨c, a, b, c2⟩ | ⟨T, f, oT, c, hT, r1, r2, r3, r4⟩
    · exact .inl ⟨k _ _ s1.symm c, a, b, k _ _ s3.symm c2⟩
    · exact .inr ⟨T, f, oT, k _ _ s1.symm c, k _ _ r4 hT, r1, r2, r3, r4⟩
  · obtain ⟨p, g1, g2, t1, t2, c⟩ := st
    have ex := Array.getElem?_eq_getElem (Nat.lt_of_lt_of_le hi (Nat.min_le_left xs.size ys.size))
    have ey := Array.getElem?_eq_getElem (Nat.lt_of_lt_of_le hi (Nat.min_le_right xs.size ys.size))
    have lt : ∀ {c o}, s.heap.get? c = some o → s.heap.objs.size ≠ c := fun e => Nat.ne_of_gt (Heap.lt_size e)
    have n1 : s.heap.objs.size ≠ j1 := let ⟨_, e, _⟩ := g1; lt e
    have n2 : s.heap.objs.size ≠ j2 := let ⟨_, e, _⟩ := g2; lt e
    rcases c with ⟨c, a, b, c2⟩ | ⟨T, f, oT, c, hT, r1, r2, r3, r4⟩
    · refine pyNext_zipT_item D c p c2 g1 g2 t1 t2 ex ey fun h' a1 a2 a3 a4 a5 a6 hk => ?_
      refine q _ _ h' ⟨ex, ey⟩ a5 a6 ⟨hk _ _ D.TIz D.TITO D.TIi1 D.TIi2 p, a3, a4, t1.at fun o => hk _ o D.l1z D.l1TO D.l1i1 D.l1i2, t2.at fun o => hk _ o D.l2z D.l2TO D.l2i1 D.l2i2, .inr ⟨_, false, _, a1, a5, lt c, n1, n2, Nat.ne_of_gt hs⟩⟩ fun d o hd e => ?_
      simp only [List.mem_cons, List.not_mem_nil, or_false, not_or] at hd
      exact hk d o hd.1 hd.2.1 hd.2.2.1 hd.2.2.2 e
    · refine heldT D c hT p g1 g2 t1 t2 ex ey fun h' a1 a3 a4 a5 a6 hk => ?_
      refine q _ _ h' ⟨ex, ey⟩ a5 a6 ⟨hk _ _ D.TIz D.TIi1 D.TIi2 p, a3, a4, t1.at fun o => hk _ o D.l1z D.l1i1 D.l1i2, t2.at fun o => hk _ o D.l2z D.l2i1 D.l2i2, .inr ⟨T, true, oT, a1, hk _ _ r1 r2 r3 hT, r1, r2, r3, r4⟩⟩ fun d o hd e => ?_
      simp only [List.mem_cons, List.not_mem_nil, or_false, not_or] at hd
      exact hk d o hd.1 hd.2.2.1 hd.2.2.2 e
  · obtain ⟨p, g1, g2, t1, t2, c⟩ := st
    rcases c with ⟨c, a, b, c2⟩ | ⟨T, f, oT, c, hT, r1, r2, r3, r4⟩
    · exact pyNext_zipT_end hh D c p c2 g1 g2 t1 t2 min_end fun h' hk => q h' fun d o hd e => by
        simp only [List.mem_cons, List.not_mem_nil, or_false, not_or] at hd
        exact hk d o hd.1 hd.2.1 hd.2.2.1 hd.2.2.2 e
    · exact endT hh D c hT p g1 g2 t1 t2 min_end fun h' hk => q h' fun d o hd e => by
        simp only [List.mem_cons, List.not_mem_nil, or_false, not_or] at hd
        exact hk d o hd.1 hd.2.2.1 hd.2.2.2 e
/-- the pairs that were laid -/
structure ZG (n : Nat) (Pv : Nat → Value → Value → Prop) (lo : Addr) (h : Heap) (as : List Addr) : Prop where
  rise : as.Pairwise (· < ·)
  above : ∀ a ∈ as, lo ≤ a
  pairs : ∀ (j : Nat) (a : Addr), as[j]? = some a → ∃ x y, Pv j x y ∧ IsPair h a x y
theorem ZG.lt {n : Nat} {Pv : Nat → Value → Value → Prop} {lo : Addr} {h : Heap} {as : List Addr} (g : ZG n Pv lo h as) {a : Addr} (ha : a ∈ as) : a < h.objs.size := by
  obtain ⟨j, hj⟩ := List.mem_iff_getElem?.mp ha
  obtain ⟨_, _, _, e⟩ := g.pairs j a hj
  exact Heap.lt_size e
theorem zloop {A : Around} {s : Shared} {R : Result → Shared → Prop} {zz S : Addr} {fp : List Addr} {n : Nat} {Pv : Nat → Value → Value → Prop} {St : Nat → Heap → Prop} (Z : ZSrc prog w zz S fp n Pv St) (hh : A.handled = none) (hn : n ≤ sizeLine) (res : Value) {h1 : Heap} {lo : Addr} (hSl : S < lo) (hfp : ∀ b ∈ fp, b < lo)
    (hR : ∀ h' acc c as, (∀ b o, b ≠ S → b ∉ fp → h1.get? b = some o → h'.get? b = some o) → h'.get? S = some { cls := .type "list", dict := none, data := .seq acc c, slots := #[] } → as.length = n → ZG n Pv lo h' as → acc.toList = as.map Value.ref → R (.ok (.ret res)) { s with heap := h' }) :
    ∀ (k i : Nat) (h : Heap) (c : Nat) (acc : Array Value) (as : List Addr), n - i = k → i ≤ n → St i h → (∀ b o, b ≠ S → b ∉ fp → h1.get? b = some o → h.get? b = some o) →
      h.get? S = some { cls := .type "list", dict := none, data := .seq acc c, slots := #[] } → acc.toList = as.map Value.ref → as.length = i → ZG n Pv lo h as → lo ≤ h.objs.size →
      codeAny (model prog w) A (.builtin "list.extend.loop" ⟨[.ref S, .ref zz, res], []⟩) R { s with heap := h } := by
  intro k
  induction k with
  | zero =>
    intro i h c acc as hk hi hst hkeep hS hacc hal hG hlo
    have hin : i = n := by omega
    subst hin
    refine codeAny_builtin PySem.F.entry_extend_loop ?_
    rw [Around.under_plainId PySem.F.plain_extend_loop _]; show wpAny _ A.in1 (pyNext (.ref zz) >>= _) _ _ _
    refine wpAny_bind (Z.done A.in1 { s with heap := h } _ _ hh hst fun h' hk' => ?_)
    refine wpAny_pure (hR h' acc c as (fun b o b1 b2 e => hk' b o b2 (hkeep b o b1 b2 e)) (hk' S _ Z.off hS) hal ⟨hG.rise, hG.above, fun j a hj => ?_⟩ hacc)
    obtain ⟨x, y, pv, e3⟩ := hG.pairs j a hj
    exact ⟨x, y, pv, hk' a _ (fun m => absurd (hfp a m) (Nat.not_lt.mpr (hG.above a (List.mem_of_getElem? hj)))) e3⟩
  | succ k ih =>
    intro i h c acc as hk hi hst hkeep hS hacc hal hG hlo
    have hlt : i < n := by omega
    have hsz : acc.size = i := by rw [← Array.length_toList, hacc, List.length_map, hal]
    have hSz : S < h.objs.size := Heap.lt_size hS
    refine codeAny_builtin PySem.F.entry_extend_loop ?_
    rw [Around.under_plainId PySem.F.plain_extend_loop _]; show wpAny _ A.in1 (pyNext (.ref zz) >>= _) _ _ _
    refine wpAny_bind (Z.item A.in1 { s with heap := h } i _ _ hlt hst hSz fun x y h' pv ht hz hst' hkp => ?_)
    dsimp only at ht hz hkp ⊢
    have hS' := hkp S _ Z.off hS
    have up : ∀ b o, b ≠ S → h'.get? b = some o → (h'.update S (Obj.mapSeq (·.push (Value.ref h.objs.size)))).get? b = some o := fun b o hb e => (Heap.get?_update_other _ _ (Ne.symm hb)).trans e
    have nS : h.objs.size ≠ S := Nat.ne_of_gt hSz
    show wpAny _ A.in1 (updateSeq S (·.push (Value.ref h.objs.size)) >>= _) _ _ _; refine wpAny_bind ?_
    refine wpAny_updateSeq hS' rfl (wpAny_pure ⟨plainId_quiet PySem.F.plain_extend_loop _, ih (i + 1) _ _ (acc.push (Value.ref h.objs.size)) (as ++ [h.objs.size]) (by omega) hlt (Z.frame _ _ _ hst' up)
      (fun b o b1 b2 e => up b o b1 (hkp b o b2 (hkeep b o b1 b2 e))) (Heap.get?_update_self _ hS' rfl) (by rw [Array.toList_push, hacc, List.map_append]; rfl) (by rw [List.length_append, hal]; rfl) ⟨?_, ?_, ?_⟩ ?_⟩) (by rw [hsz]; omega) (by show (acc.push (Value.ref h.objs.size)).size ≤ sizeLine + 1; rw [Array.size_push, hsz]; omega)
    · refine List.pairwise_append.mpr ⟨hG.rise, List.pairwise_singleton _ _, fun a ha b hb => ?_⟩
      rw [List.mem_singleton.mp hb]; exact hG.lt ha
    · intro a ha
      rcases List.mem_append.mp ha with ha | ha
      · exact hG.above a ha
      · rw [List.mem_singleton.mp ha]; exact hlo
    · intro j b hj
      rcases Nat.lt_trichotomy j as.length with q1 | q1 | q1
      · rw [List.getElem?_append_left q1] at hj
        obtain ⟨x', y', pv', e3⟩ := hG.pairs j b hj
        have hb := hG.above b (List.mem_of_getElem? hj)
        exact ⟨x', y', pv', up b _ (fun z => by rw [z] at hb; exact absurd hSl (Nat.not_lt.mpr hb)) (hkp b _ (fun m => absurd (hfp b m) (Nat.not_lt.mpr hb)) e3)⟩
      · subst q1
        have hb : h.objs.size = b := by simpa using hj
        subst hb
        exact ⟨x, y, by rw [hal]; exact pv, up _ _ nS ht⟩
      · rw [List.getElem?_eq_none (by rw [List.length_append, List.length_singleton]; omega)] at hj; cases hj
    · have e : (h'.update S (Obj.mapSeq (·.push (Value.ref h.objs.size)))).get? h.objs.size = _ := up _ _ nS ht
      exact Nat.le_trans hlo (Nat.le_of_lt (Heap.lt_size e))
theorem zip_nolen : typeLookup (.type "zip") "__len__" = pure none := am_miss_of_fast (by decide +kernel)
theorem zip_nohint : typeLookup (.type "zip") "__length_hint__" = pure none := am_miss_of_fast (by decide +kernel)
theorem zhint {A : Around} {E : Value → Shared → Prop} {s : Shared} {zz : Addr} {Q : Bool → Shared → Prop} (ty : s.TypeIs (.ref zz) "zip") (h : Q true s) : wpAny (model prog w) A (Builtin.List.listLengthHint (.ref zz)) Q E s := by
  unfold Builtin.List.listLengthHint
  refine wpAny_bind (wpAny_specialOf ty zip_nolen ?_)
  refine PySem.W.KFB.if_not rfl ?_
  refine PySem.W.KFB.if_not rfl ?_
  refine wpAny_bind (wpAny_specialOf ty zip_nohint ?_)
  exact wpAny_pure h
theorem zextend {A : Around} {s : Shared} {R : Result → Shared → Prop} {zz S : Addr} {fp : List Addr} {n : Nat} {Pv : Nat → Value → Value → Prop} {St : Nat → Heap → Prop} (Z : ZSrc prog w zz S fp n Pv St) (hh : A.handled = none) (hn : n ≤ sizeLine) (res : Value) {lo : Addr} (hSl : S < lo) (hfp : ∀ b ∈ fp, b < lo) (hz : zz ∈ fp)
    {TI TO : Addr} {f0 : Value} (hZ : IsZip s.heap zz TI TO f0) (st : St 0 s.heap) (c0 : Nat) (hS : s.heap.get? S = some { cls := .type "list", data := .seq #[] c0 }) (hlo : lo ≤ s.heap.objs.size)
    (hR : ∀ h' acc c as, (∀ b o, b ≠ S → b ∉ fp → s.heap.get? b = some o → h'.get? b = some o) → h'.get? S = some { cls := .type "list", dict := none, data := .seq acc c, slots := #[] } → as.length = n → ZG n Pv lo h' as → acc.toList = as.map Value.ref → R (.ok (.ret res)) { s with heap := h' }) :
    wpAny (model prog w) A.in1 (Builtin.List.listExtendWith (.ref S) (.ref zz) res)
      (fun fin s' => match fin with | .done f => R (.ok f) s' | .again c' => c'.quiet = true ∧ codeAny (model prog w) A c' R s') (fun e s' => R (.error e) s') s := by
  have ty : s.TypeIs (.ref zz) "zip" := ⟨_, hZ, rfl⟩
  have ne : S ≠ zz := fun e => Z.off (by rw [e]; exact hz)
  unfold Builtin.List.listExtendWith
  refine wpAny_bind (wpAny_typeOf (T := "zip") ty ?_)
  have q1 : Builtin.List.listSameRef (.ref S) (.ref zz) = false := by simp [Builtin.List.listSameRef, ne]
  have q2 : (Value.type "zip" == Value.type "list") = false := by decide
  have q3 : (Value.type "zip" == Value.type "tuple") = false := by decide
  simp only [q1, q2, q3, Bool.or_false, Bool.false_eq_true, if_false]
  refine wpAny_bind (wpAny_pyIter_zip hZ ?_)
  refine wpAny_bind (wpAny_holding (zhint ty ?_))
  refine wpAny_ite_split (fun _ => ?_) (fun hf => absurd rfl hf)
  refine wpAny_bind (wpAny_rule ?_); refine wpAny_bind ?_
  show wpAny _ _ (updateSeq S (·.push .none) >>= fun _ => updateSeq S (·.pop)) _ _ _; refine wpAny_bind (wpAny_updateSeq hS rfl ?_)
  have hS2 := Heap.get?_update_self (Obj.mapSeq (·.push Value.none)) hS rfl
  refine wpAny_updateSeq (hz := by seq_fits) hS2 rfl ?_
  have hS3 := Heap.get?_update_self (Obj.mapSeq (·.pop)) hS2 rfl
  have up : ∀ b o, b ≠ S → s.heap.get? b = some o → ((s.heap.update S (Obj.mapSeq (·.push Value.none))).update S (Obj.mapSeq (·.pop))).get? b = some o := fun b o hb e =>
    (Heap.get?_update_other _ _ (Ne.symm hb)).trans ((Heap.get?_update_other _ _ (Ne.symm hb)).trans e)
  refine wpAny_pure ⟨plainId_quiet PySem.F.plain_extend_loop _, ?_⟩
  exact zloop (s := { s with heap := _ }) Z hh hn res (h1 := s.heap) hSl hfp (fun h' acc c as k1 k2 k3 k4 k5 => hR h' acc c as k1 k2 k3 k4 k5) n 0 _ _ #[] [] (Nat.sub_zero _) (Nat.zero_le _) (Z.frame _ _ _ st up) (fun b o b1 _ e => up b o b1 e) hS3 rfl rfl
    ⟨List.Pairwise.nil, (fun _ ha => nomatch ha), (fun j a hj => by simp at hj)⟩ (by rw [Heap.size_update, Heap.size_update]; exact hlo)
theorem zcall {A : Around} {E : Value → Shared → Prop} {s : Shared} {zz : Addr} {fp : List Addr} {n : Nat} {Pv : Nat → Value → Value → Prop} {St : Nat → Heap → Prop} {Q : Value → Shared → Prop} (Z : ZSrc prog w zz s.heap.objs.size fp n Pv St) (hh : A.handled = none) (hn : n ≤ sizeLine) (hfp : ∀ b ∈ fp, b < s.heap.objs.size) (hz : zz ∈ fp)
    {TI TO : Addr} {f0 : Value} (hZ : IsZip s.heap zz TI TO f0) (st : ∀ h', (∀ b o, s.heap.get? b = some o → h'.get? b = some o) → St 0 h')
    (hQ : ∀ h' acc c as, (∀ b o, b ∉ fp → s.heap.get? b = some o → h'.get? b = some o) → h'.get? s.heap.objs.size = some { cls := .type "list", dict := none, data := .seq acc c, slots := #[] } → as.length = n → ZG n Pv (s.heap.objs.size + 1) h' as → acc.toList = as.map Value.ref → Q (.ref s.heap.objs.size) { s with heap := h' }) :
    wpAny (model prog w) A (call (.type "list") [.ref zz]) Q E s := by
  refine callType_codes (Q₁ := fun obj s₁ => obj = .ref s.heap.objs.size ∧ s₁ = { s with heap := s.heap.push { cls := .type "list", data := .seq #[] } }) PySem.F.called_list (PySem.F.typeCall_list_1 _) PySem.F.entry_list_init (code_list_new _ ⟨rfl, rfl⟩) fun obj s₁ g => ?_
  obtain ⟨rfl, rfl⟩ := g
  have hS : (s.heap.push { cls := .type "list", data := .seq #[] }).get? s.heap.objs.size = some { cls := .type "list", data := .seq #[] } := Heap.get?_push_size _ rfl
  have lS : ∀ b o, s.heap.get? b = some o → b ≠ s.heap.objs.size := fun b o e => Nat.ne_of_lt (Heap.lt_size e)
  refine ⟨⟨_, hS, rfl⟩, PySem.F.args_list_init_2 _ _, ?_⟩
  show wpAny _ _ (do let old ← Builtin.List.listItems (.ref s.heap.objs.size); Builtin.List.listUpdate (.ref s.heap.objs.size) (fun _ => #[]); letGo old.toList.reverse; Builtin.List.listExtendWith (.ref s.heap.objs.size) (.ref zz) .none) _ _ _; refine wpAny_bind ?_
  unfold Builtin.List.listItems
  refine wpAny_bind (wpAny_seqItems hS rfl (wpAny_pure ?_))
  show wpAny _ _ (updateSeq s.heap.objs.size (fun _ => #[]) >>= fun _ => letGo (#[] : Array Value).toList.reverse >>= fun _ => Builtin.List.listExtendWith (.ref s.heap.objs.size) (.ref zz) .none) _ _ _; refine wpAny_bind (wpAny_updateSeq hS rfl ?_)
  have hS2 := Heap.get?_update_self (Obj.mapSeq (fun _ => (#[] : Array Value))) hS rfl
  have up : ∀ b o, s.heap.get? b = some o → ((s.heap.push { cls := .type "list", data := .seq #[] }).update s.heap.objs.size (Obj.mapSeq (fun _ => (#[] : Array Value)))).get? b = some o :=
    fun b o e => (Heap.get?_update_other _ _ (lS b o e).symm).trans (Heap.get?_push_of_some _ e)
  refine wpAny_bind (wpAny_letGo ?_)
  refine zextend (A := A.in1) (s := { s with heap := (s.heap.push { cls := .type "list", data := .seq #[] }).update s.heap.objs.size (Obj.mapSeq (fun _ => (#[] : Array Value))) }) (lo := s.heap.objs.size + 1) Z hh hn .none (Nat.lt_succ_self _) (fun b hb => Nat.lt_succ_of_lt (hfp b hb)) hz (up _ _ hZ) (st _ up) _ hS2 (by show _ ≤ (Heap.update _ _ _).objs.size; rw [Heap.size_update, Heap.size_push]; exact Nat.le_refl _) fun h' acc c as k1 k2 k3 k4 k5 => ?_
  exact ⟨rfl, hQ h' acc c as (fun b o b1 e => k1 b o (lS b o e) b1 (up b o e)) k2 k3 k4 k5⟩
end
end PxZ
namespace Px
open PySem L2 PySem.Spec PyProof.Rows RZ PxZ
/-- many new objects tracked at once -/
theorem inv_more {X : Cx} {pins : List (Addr × Obj)} {σ : L2.St} {H H' : Hp} {s : Shared} {h' : Heap} {t' : Nat} (I : Inv X pins σ H s) (k : ∀ b u, s.heap.get? b = some u → h'.get? b = some u) (sm : ∀ b o, H b = some o → H' b = some o)
    (fr : ∀ b o, H b = none → H' b = some o → s.heap.objs.size ≤ b) (new : ∀ b o, H b = none → H' b = some o → ObjOk X.prog X.w H' h' b o) : Inv X pins σ H' { s with heap := h', toks := t' } := by
  refine I.un ⟨fun b u q _ _ _ => k b u q, fun b u q _ _ _ => ⟨u.slots, k b u q⟩, fun b u q n _ => ?_, fun b u q _ => ⟨u, k b u q⟩, fun b xs q => sm b _ q, fun b u xs q => sm b _ q, fun b ps q => ⟨#[], by rw [sm b _ q]; simp⟩⟩ fun b o e => ?_
  · cases e : H' b with
    | none => rfl
    | some o => exact absurd (fr b o n e) (Nat.not_le.mpr (Heap.lt_size q))
  · cases e2 : H b with
    | none => exact new b o e2 e
    | some u =>
      have e3 := sm b u e2
      rw [e] at e3; cases e3
      exact (I.hok b o e2).stay (fun c v _ q => k c v q) (fun c q => sm c _ q) fun c xs q => sm c _ q
/-- list(zip(xs, ys)) -/
def rLZ (K : PySem.W.Frag) (vs : List V) (H : Hp) (Q : VK) : Prop := ∃ a b xs ys, vs = [.ref a, .ref b] ∧ ((SqL K H a xs ∧ SqL K H b ys) ∨ (SqT K H a xs ∧ SqT K H b ys)) ∧
  ∀ (H' : Hp) (p : Addr) (as : List Addr), Same H H' → H p = none → H' p = some (.lst (as.map V.ref)) → as.length = min xs.length ys.length → (∀ (j : Nat) (c : Addr), as[j]? = some c → ∃ x y, xs[j]? = some x ∧ ys[j]? = some y ∧ H' c = some (.tup [x, y])) → Q (.ref p) H'
def tLZ (K : PySem.W.Frag) (ta : TA) : TE := fun σ H Q => ta σ H fun vs H1 => rLZ K vs H1 Q
theorem vals_get {xs : List V} {us : List Value} (h : Vals xs us) : ∀ {j : Nat} {u : Value}, us[j]? = some u → ∃ x, xs[j]? = some x ∧ RelV x u := by
  induction h with
  | nil => intro j u e; simp at e
  | cons r _ ih =>
    intro j u e
    cases j with
    | zero => simp at e; subst e; exact ⟨_, rfl, r⟩
    | succ j => simpa using ih (by simpa using e)
theorem lz_end {X : Cx} {pins : List (Addr × Obj)} {σ : L2.St} {H : Hp} {s : Shared} {xs ys : List V} {its its2 : List Value} {h' : Heap} {acc : Array Value} {c : Nat} {as : List Addr} {S lo : Addr} {Q : VK} (I : Inv X pins σ H s) (rv : Vals xs its) (rv2 : Vals ys its2) (zx : xs.length ≤ sizeLine)
    (k : ∀ b u, s.heap.get? b = some u → h'.get? b = some u) (hS : h'.get? S = some { cls := .type "list", dict := none, data := .seq acc c, slots := #[] }) (sS : s.heap.objs.size ≤ S) (sl : S < lo)
    (hl : as.length = min its.toArray.size its2.toArray.size) (g : ZG (min its.toArray.size its2.toArray.size) (fun i k v => its.toArray[i]? = some k ∧ its2.toArray[i]? = some v) lo h' as) (ea : acc.toList = as.map Value.ref)
    (q : ∀ (H' : Hp) (p : Addr) (as : List Addr), Same H H' → H p = none → H' p = some (.lst (as.map V.ref)) → as.length = min xs.length ys.length → (∀ (j : Nat) (c : Addr), as[j]? = some c → ∃ x y, xs[j]? = some x ∧ ys[j]? = some y ∧ H' c = some (.tup [x, y])) → Q (.ref p) H') :
    ∃ v H', Inv X pins σ H' { s with heap := h' } ∧ RelV v (.ref S) ∧ Q v H' := by
  have pr : ∀ (j : Nat) (c : Addr), as[j]? = some c → ∃ x y u v, xs[j]? = some x ∧ ys[j]? = some y ∧ RelV x u ∧ RelV y v ∧ IsPair h' c u v := fun j c e => by
    obtain ⟨u, v, ⟨e1, e2⟩, e3⟩ := g.pairs j c e
    obtain ⟨x, e4, r4⟩ := vals_get rv (j := j) (u := u) (by simpa using e1)
    obtain ⟨y, e5, r5⟩ := vals_get rv2 (j := j) (u := v) (by simpa using e2)
    exact ⟨x, y, u, v, e4, e5, r4, r5, e3⟩
  have nd : as.Nodup := g.rise.imp fun h => Nat.ne_of_lt h
  let H' : Hp := fun d => if d = S then some (.lst (as.map V.ref)) else match as.idxOf? d with
    | some j => match xs[j]?, ys[j]? with
      | some x, some y => some (.tup [x, y])
      | _, _ => H d
    | none => H d
  have hS' : H' S = some (.lst (as.map V.ref)) := if_pos rfl
  have ix : ∀ (j : Nat) (c : Addr), as[j]? = some c → as.idxOf? c = some j := fun j c e => by
    rw [List.idxOf?, List.findIdx?_eq_some_iff_getElem]
    obtain ⟨l, e1⟩ := List.getElem?_eq_some_iff.mp e
    refine ⟨l, by simp [e1], fun i hi => ?_⟩
    have := (List.pairwise_iff_getElem.mp g.rise) i j (by omega) l hi
    rw [e1] at this
    simpa using Nat.ne_of_lt this
  have hc : ∀ (j : Nat) (c : Addr) (x y : V), as[j]? = some c → xs[j]? = some x → ys[j]? = some y → H' c = some (.tup [x, y]) := fun j c x y e e1 e2 => by
    have ne : c ≠ S := fun z => by have := g.above c (List.mem_of_getElem? e); rw [z] at this; exact absurd sl (Nat.not_lt.mpr this)
    show (if c = S then _ else _) = _
    rw [if_neg ne, ix j c e]
    simp only [e1, e2]
  have old : ∀ d, d ≠ S → d ∉ as → H' d = H d := fun d n m => by
    show (if d = S then _ else _) = _
    rw [if_neg n]
    have : as.idxOf? d = none := by
      rw [List.idxOf?, List.findIdx?_eq_none_iff]
      intro x hx
      simpa using fun z => m (by rw [← z]; exact hx)
    rw [this]
  have big : ∀ d, d = S ∨ d ∈ as → s.heap.objs.size ≤ d := fun d h => by
    rcases h with rfl | h
    · exact sS
    · exact Nat.le_trans sS (Nat.le_trans (Nat.le_of_lt sl) (g.above d h))
  have fresh : ∀ d, d = S ∨ d ∈ as → H d = none := fun d h => I.hok.fresh (big d h)
  have sm : Same H H' := fun d o e => by
    have n1 : d ≠ S := fun z => by rw [fresh d (.inl z)] at e; cases e
    have n2 : d ∉ as := fun z => by rw [fresh d (.inr z)] at e; cases e
    rw [old d n1 n2]; exact e
  have hal : as.length = min xs.length ys.length := by rw [hl, List.size_toArray, List.size_toArray, ← rv.length, ← rv2.length]
  refine ⟨.ref S, H', inv_more (t' := s.toks) I k sm (fun d o n e => ?_) fun d o n e => ?_, rfl, q H' S as sm (fresh S (.inl rfl)) hS' hal fun j c e => ?_⟩
  · refine big d (Classical.byContradiction fun z => ?_)
    rw [old d (fun y => z (.inl y)) fun y => z (.inr y), n] at e
    cases e
  · by_cases e1 : d = S
    · subst e1
      rw [hS'] at e; cases e
      refine ⟨by rw [List.length_map, hal]; omega, acc.toList, c, ?_, by rw [Array.toArray_toList]; exact hS⟩
      rw [ea]
      clear hl ea g pr hal nd ix hc old big fresh sm hS' n
      induction as with
      | nil => exact .nil
      | cons d as ih => exact .cons rfl ih
    · by_cases e2 : d ∈ as
      · obtain ⟨j, ej⟩ := List.mem_iff_getElem?.mp e2
        obtain ⟨x, y, u, v, ex, ey, rx, ry, e3⟩ := pr j d ej
        rw [hc j d x y ej ex ey] at e; cases e
        exact ⟨by show 2 ≤ sizeLine; rw [sizeLine_eq]; decide, [u, v], .cons rx (.cons ry .nil), _, e3, rfl, _, rfl⟩
      · rw [old d e1 e2, n] at e; cases e
  · obtain ⟨x, y, u, v, ex, ey, _⟩ := pr j c e
    exact ⟨x, y, ex, ey, hc j c x y e ex ey⟩
section
variable {X : Cx} {e e2 : Expr} {ta : TA} {p p2 q pos : Pos}
theorem pe_lz (hg : Gl X "list") (hm : X.mg "list" = none) (hg2 : Gl X "zip") (hm2 : X.mg "zip" = none) (ha : PA X [e, e2] ta) (hc : X.calm = true := by rfl)
    (na : starEach [.Call (.Name "zip" p2) [e, e2] [] q] X.env = (false, eval (.Call (.Name "zip" p2) [e, e2] [] q) X.env) :: starEach [] X.env := by rfl)
    (hs : starEach [e, e2] X.env = (false, eval e X.env) :: starEach [e2] X.env := by rfl) (hpl : (backTo q (starEach [e2] X.env)).any (·.1) = false := by rfl) :
    PE X (.Call (.Name "list" p) [.Call (.Name "zip" p2) [e, e2] [] q] [] pos) (tLZ X.K ta) := by
  refine ⟨fun pins s σ H Q I h => ?_⟩
  refine Call_ (ld_blt I hg hm PyProof.Rows.boot_list ?_)
  refine PyProof.Rows.callWith_type1 (PyProof.Rows.args_cons ?_ na) na rfl
  refine Call_ (ld_blt I hg2 hm2 PyProof.Rows.boot_zip (PyProof.Rows.callWith_type1 (thn (ha.run q pins s σ H _ I h) fun us s1 ⟨vs, H1, I1, r1, q1⟩ => ?_) hs hpl))
  obtain ⟨a, b, xs, ys, rfl, hq, qq⟩ := q1
  cases r1 with
  | cons r rr =>
    cases rr with
    | cons r' rr =>
      cases rr
      cases r
      cases r'
      have fpn : ∀ (n : Nat), ∀ c ∈ [n + 4, n + 3, n, n + 1], n ≤ c ∧ c < n + 5 := fun n c hc => by
        simp only [List.mem_cons, List.not_mem_nil, or_false] at hc
        rcases hc with rfl | rfl | rfl | rfl <;> omega
      have five : ∀ (n m : Nat), m = n + 5 → ∀ l1 l2 : Nat, l1 < n → l2 < n → m ≠ n + 4 ∧ m ≠ n + 2 ∧ m ≠ n + 3 ∧ m ≠ n ∧ m ≠ n + 1 ∧ m ≠ l1 ∧ m ≠ l2 := fun n m e l1 l2 h1 h2 => by omega
      rcases hq with ⟨hqx, hqy⟩ | ⟨hqx, hqy⟩
      · obtain ⟨its, rv, p1, zx⟩ := I1.list hqx
        obtain ⟨its2, rv2, p2, _⟩ := I1.list hqy
        have la : a < s1.heap.objs.size := p1.lt
        have lb : b < s1.heap.objs.size := p2.lt
        refine call_zip_2 p1.isList p2.isList fun h' hz hTI hTO h1 h2 hsz hk => PyProof.Rows.args_nil ?_
        have D := PySem.W.ktu_apart s1.heap.objs.size a b la lb
        refine zcall (s := { s1 with heap := h' }) (zsrcL D its.toArray its2.toArray (five _ _ hsz _ _ la lb)) (I1.ok.hd hc) (Nat.le_trans (Nat.min_le_left _ _) (by rw [List.size_toArray, ← rv.length]; exact zx)) (fun c hc => by show c < h'.objs.size; rw [hsz]; exact (fpn _ c hc).2) List.mem_cons_self hz
          (fun h2' k => ⟨k _ _ hTI, h1.at fun o => k _ o, h2.at fun o => k _ o, (p1.isList.at fun o e => hk _ o e).at fun o => k _ o, (p2.isList.at fun o e => hk _ o e).at fun o => k _ o, .inl ⟨k _ _ hz, _, _, k _ _ hTO⟩⟩) fun h2' acc c as k1 k2 k3 k4 k5 => ?_
        exact lz_end (s := s1) I1 rv rv2 zx (fun d o e => k1 d o (fun m => absurd (Heap.lt_size e) (Nat.not_lt.mpr (fpn _ d m).1)) (hk d o e)) k2 (by show _ ≤ h'.objs.size; rw [hsz]; exact Nat.le_add_right _ _) (Nat.lt_succ_self _) k3 k4 k5 qq
      · obtain ⟨its, rv, p1, zx⟩ := I1.tuple hqx
        obtain ⟨its2, rv2, p2, _⟩ := I1.tuple hqy
        have p1' : s1.heap.IsTuple a its.toArray := p1
        have p2' : s1.heap.IsTuple b its2.toArray := p2
        have la : a < s1.heap.objs.size := p1.lt
        have lb : b < s1.heap.objs.size := p2.lt
        refine call_zipT p1' p2' fun h' hz hTI hTO h1 h2 hsz hk => PyProof.Rows.args_nil ?_
        have D := PySem.W.ktu_apart s1.heap.objs.size a b la lb
        refine zcall (s := { s1 with heap := h' }) (zsrcT D its.toArray its2.toArray (five _ _ hsz _ _ la lb)) (I1.ok.hd hc) (Nat.le_trans (Nat.min_le_left _ _) (by rw [List.size_toArray, ← rv.length]; exact zx)) (fun c hc => by show c < h'.objs.size; rw [hsz]; exact (fpn _ c hc).2) List.mem_cons_self hz
          (fun h2' k => ⟨k _ _ hTI, h1.at fun o => k _ o, h2.at fun o => k _ o, (p1'.at fun o e => hk _ o e).at fun o => k _ o, (p2'.at fun o e => hk _ o e).at fun o => k _ o, .inl ⟨k _ _ hz, _, _, k _ _ hTO⟩⟩) fun h2' acc c as k1 k2 k3 k4 k5 => ?_
        exact lz_end (s := s1) I1 rv rv2 zx (fun d o e => k1 d o (fun m => absurd (Heap.lt_size e) (Nat.not_lt.mpr (fpn _ d m).1)) (hk d o e)) k2 (by show _ ≤ h'.objs.size; rw [hsz]; exact Nat.le_add_right _ _) (Nat.lt_succ_self _) k3 k4 k5 qq
end
end Px
namespace Px
open PySem L2 PySem.Spec PyProof.Rows
section
variable {X : Cx} {a b c e o : Expr} {es : List Expr} {ta tb tc te : QT} {tr : QTA} {pos p p2 q apos cpos : Pos}
/-! ### d.get -/
def isDic : Option PV → Prop
  | some (.dic _ _) => True
  | _ => False
def qGet1 (td ty : QT) (ρ : En) (Q : PK1) : Prop := td ρ fun r ρ1 => isDic (r.look ρ1) ∧ ty ρ1 fun r2 ρ2 => match r.look ρ2, r2.wk with
  | some (.dic ks ps), .pv k => match keyP k with
    | some j => match getD ks ps j with
      | some z => Q (.pv z) ρ2
      | none => Q (.pv .non) ρ2
    | none => False
  | _, _ => False
def qGet2 (td ty tx : QT) (ρ : En) (Q : PK1) : Prop := td ρ fun r ρ1 => isDic (r.look ρ1) ∧ ty ρ1 fun r2 ρ2 => tx ρ2 fun r3 ρ3 => match r.look ρ3, r2.wk with
  | some (.dic ks ps), .pv k => match keyP k with
    | some j => match getD ks ps j with
      | some z => Q (.pv z) ρ3
      | none => Q r3.wk ρ3
    | none => False
  | _, _ => False
theorem isDic_rd {K : PySem.W.Frag} {G : Gd} {H : Hp} {σ : L2.St} {ρ : En} {pd : Pds} {r : R} {v : V} (s : Res K G H σ ρ pd r v) (h : isDic (r.look ρ)) : ∃ a, v = .ref a ∧ IsD H a := by
  unfold isDic at h
  split at h
  · rename_i ks ps e
    obtain ⟨a, vs, e1, r, _⟩ := s.lk e
    exact ⟨a, e1, .inl ⟨_, r⟩⟩
  · exact h.elim
theorem get_at {K : PySem.W.Frag} {H : Hp} {W : Addr → Prop} {ks : List Key} {ps : List PV} {a : Addr} {k : PV} {kv : V} {j : Key} (l : Lk K H W (.dic ks ps) (.ref a)) (hk : Is K H W k kv) (e : keyP k = some j) :
    ∃ o, DGet H a kv o ∧ (∀ z, getD ks ps j = some z → ∃ v, o = some v ∧ Is K H W z v) ∧ (getD ks ps j = none → o = none) := by
  obtain ⟨b, vs, e1, r, le, ok, i⟩ := l
  cases e1
  obtain ⟨e2, _⟩ := keyP_is hk e
  refine ⟨valV (ks.zip vs) j, .inl ⟨_, j, r, e2, rfl⟩, fun z hz => ?_, fun hz => ?_⟩
  · rw [getD_val le]; exact getD_is i hz
  · rw [getD_val le]; exact getD_no i hz
theorem qe_get1 (hu : X.A.units + 65 < cLine) (ho : QE X o ta) (he : QE X e tb) (m : M1 X o "get" apos e cpos := by exact ⟨rfl, rfl, rfl, rfl⟩) : QE X (.Call (.Attribute o "get" apos) [e] [] cpos) (qGet1 ta tb) := by
  obtain ⟨t1, p1, q1⟩ := ho.ex
  obtain ⟨t2, p2, q2⟩ := he.ex
  refine ⟨_, pe_dget1 (by omega) p1 p2 m, fun G H σ ρ pd Q F R1 h f => ?_⟩
  refine q1 G H σ ρ pd _ _ R1 h fun r ρ1 v H1 s ⟨hd, g⟩ => ?_
  obtain ⟨x, rfl, dd⟩ := isDic_rd s hd
  refine ⟨x, rfl, dd, ?_⟩
  obtain ⟨pd1, sb, R2, a1⟩ := s.arg
  refine q2 G H1 σ ρ1 pd1 _ _ R2 g fun r2 ρ2 kv H2 s2 g2 => ?_
  obtain ⟨pd2, sb2, R3, a2⟩ := s2.arg
  split at g2
  · rename_i ks ps k e1 e2
    rw [e2] at a2
    have hk : Is X.K H2 (WS G σ ρ2) k kv := R3.pd _ a2
    cases ek : keyP k with
    | none => rw [ek] at g2; exact g2.elim
    | some j =>
      rw [ek] at g2
      dsimp only at g2
      obtain ⟨ov, dg, h1, h2⟩ := get_at ((a1.mono sb2).lk R3 (by rw [look_wk]; exact e1)) hk ek
      refine ⟨ov, dg, ?_⟩
      have R4 := R3.pds fun y hy => sb2 y (sb y hy)
      cases ez : getD ks ps j with
      | none =>
        rw [ez] at g2
        rw [h2 ez]
        exact f (.pv .non) ρ2 _ H2 (R4.push rfl) g2
      | some z =>
        rw [ez] at g2
        obtain ⟨w, ew, iw⟩ := h1 z ez
        rw [ew]
        exact f (.pv z) ρ2 _ H2 (R4.push iw) g2
  · exact g2.elim
theorem qe_get2 (hu : X.A.units + 65 < cLine) (ho : QE X o ta) (he : QE X e tb) (hf : QE X c tc) (m : M2 X o "get" apos e c cpos := by exact ⟨rfl, rfl, rfl, rfl⟩) : QE X (.Call (.Attribute o "get" apos) [e, c] [] cpos) (qGet2 ta tb tc) := by
  obtain ⟨t1, p1, q1⟩ := ho.ex
  obtain ⟨t2, p2, q2⟩ := he.ex
  obtain ⟨t3, p3, q3⟩ := hf.ex
  refine ⟨_, pe_dget2 (by omega) p1 p2 p3 m, fun G H σ ρ pd Q F R1 h f => ?_⟩
  refine q1 G H σ ρ pd _ _ R1 h fun r ρ1 v H1 s ⟨hd, g⟩ => ?_
  obtain ⟨x, rfl, dd⟩ := isDic_rd s hd
  refine ⟨x, rfl, dd, ?_⟩
  obtain ⟨pd1, sb, R2, a1⟩ := s.arg
  refine q2 G H1 σ ρ1 pd1 _ _ R2 g fun r2 ρ2 kv H2 s2 g2 => ?_
  obtain ⟨pd2, sb2, R3, a2⟩ := s2.arg
  refine q3 G H2 σ ρ2 pd2 _ _ R3 g2 fun r3 ρ3 xv H3 s3 g3 => ?_
  obtain ⟨pd3, sb3, R4, a3⟩ := s3.arg
  split at g3
  · rename_i ks ps k e1 e2
    rw [e2] at a2
    have hk : Is X.K H3 (WS G σ ρ3) k kv := R4.pd _ (sb3 _ a2)
    cases ek : keyP k with
    | none => rw [ek] at g3; exact g3.elim
    | some j =>
      rw [ek] at g3
      dsimp only at g3
      obtain ⟨ov, dg, h1, h2⟩ := get_at ((a1.mono fun y hy => sb3 y (sb2 y hy)).lk R4 (by rw [look_wk]; exact e1)) hk ek
      refine ⟨ov, dg, ?_⟩
      cases ez : getD ks ps j with
      | none =>
        rw [ez] at g3
        rw [h2 ez]
        exact f _ ρ3 xv H3 (s3.wk.pds fun y hy => sb2 y (sb y hy)) g3
      | some z =>
        rw [ez] at g3
        obtain ⟨w, ew, iw⟩ := h1 z ez
        rw [ew]
        exact f (.pv z) ρ3 _ H3 ((R4.pds fun y hy => sb3 y (sb2 y (sb y hy))).push iw) g3
  · exact g3.elim
/-! ### list(zip(xs, ys)) -/
def zipP : List PV → List PV → List PV
  | p :: ps, q :: qs => .tup [p, q] :: zipP ps qs
  | _, _ => []
def gZip (ps : List PV) (Q : R → Prop) : Prop := match ps with
  | [.lst ps, .lst qs] => Q (.fr (.lst (zipP ps qs)))
  | [.tup ps, .tup qs] => Q (.fr (.lst (zipP ps qs)))
  | _ => False
theorem zipP_iss {K : PySem.W.Frag} {H : Hp} {W : Addr → Prop} : ∀ {ps qs : List PV} {xs ys : List V} {as : List Addr}, Iss K H W ps xs → Iss K H W qs ys → as.length = min xs.length ys.length → (∀ (j : Nat) (c : Addr), as[j]? = some c → ∃ x y, xs[j]? = some x ∧ ys[j]? = some y ∧ H c = some (.tup [x, y])) → Iss K H W (zipP ps qs) (as.map V.ref)
  | [], qs, xs, ys, as, h1, h2, hl, _ => by
    cases (show xs = [] from h1)
    have : as = [] := List.length_eq_zero_iff.mp (by simpa using hl)
    subst this
    cases qs <;> exact rfl
  | p :: ps, [], xs, ys, as, h1, h2, hl, _ => by
    cases (show ys = [] from h2)
    have : as = [] := List.length_eq_zero_iff.mp (by simpa using hl)
    subst this
    exact rfl
  | p :: ps, q :: qs, xs, ys, as, h1, h2, hl, hp => by
    obtain ⟨v, r, e1, i1, j1⟩ := h1
    obtain ⟨u, s, e2, i2, j2⟩ := h2
    subst e1 e2
    cases as with
    | nil => simp at hl
    | cons c as =>
      obtain ⟨x, y, ex, ey, ec⟩ := hp 0 c rfl
      simp only [List.getElem?_cons_zero, Option.some.injEq] at ex ey
      subst ex ey
      exact ⟨_, _, rfl, ⟨c, [v, u], rfl, ec, v, [u], rfl, i1, u, [], rfl, i2, rfl⟩, zipP_iss j1 j2 (by simp only [List.length_cons] at hl; omega) fun j d e => by
        obtain ⟨x, y, e1, e2, e3⟩ := hp (j + 1) d (by simpa using e)
        exact ⟨x, y, by simpa using e1, by simpa using e2, e3⟩⟩
def qLZ (tr : QTA) : QT := qCB gZip tr
theorem qe_lz (hm : X.mg "list" = none) (hm2 : X.mg "zip" = none) (ha : QA X [a, b] tr) (hg : Gl X "list" := by rfl) (hg2 : Gl X "zip" := by rfl) (hc : X.calm = true := by rfl)
    (na : starEach [.Call (.Name "zip" p2) [a, b] [] q] X.env = (false, eval (.Call (.Name "zip" p2) [a, b] [] q) X.env) :: starEach [] X.env := by rfl)
    (hs : starEach [a, b] X.env = (false, eval a X.env) :: starEach [b] X.env := by rfl) (hpl : (backTo q (starEach [b] X.env)).any (·.1) = false := by rfl) :
    QE X (.Call (.Name "list" p) [.Call (.Name "zip" p2) [a, b] [] q] [] pos) (qLZ tr) := by
  obtain ⟨t, p1, q1⟩ := ha.ex
  refine ⟨_, pe_lz hg hm hg2 hm2 p1 hc na hs hpl, fun G H σ ρ pd Q F R1 h f => ?_⟩
  refine q1 G H σ ρ pd _ _ R1 h fun rs ρ1 pd1 vs H1 sb R2 ar g => ?_
  cases el : looks ρ1 rs with
  | none => rw [el] at g; exact g.elim
  | some ps =>
    rw [el] at g
    have lk := ar.lks R2 el
    dsimp only at g
    have fin : ∀ {ps qs : List PV} {a b : Addr} {xs ys : List V} {H' : Hp} {p : Addr} {as : List Addr}, Iss X.K H1 (WS G σ ρ1) ps xs → Iss X.K H1 (WS G σ ρ1) qs ys → Q (.fr (.lst (zipP ps qs))) ρ1 → Same H1 H' → H1 p = none → H' p = some (.lst (as.map V.ref)) → as.length = min xs.length ys.length → (∀ (j : Nat) (c : Addr), as[j]? = some c → ∃ x y, xs[j]? = some x ∧ ys[j]? = some y ∧ H' c = some (.tup [x, y])) → F (.ref p) H' := by
      intro ps qs a b xs ys H' p as i1 i2 hq sm hn hp hl hc
      have mv : ∀ {ps : List PV} {xs : List V}, Iss X.K H1 (WS G σ ρ1) ps xs → Iss X.K H' (fun b => b = p ∨ WS G σ ρ1 b) ps xs := fun {ps xs} i =>
        Iss.move (fun b o e _ => sm b o e) R2.mut (fun b t w => by
          rcases w with w | w
          · obtain ⟨u, t⟩ := t; rw [w, hn] at t; cases t
          · exact w) ps xs i
      exact f (.fr (.lst (zipP ps qs))) ρ1 _ H' (res_of (z := .fr (.lst (zipP ps qs))) (R2.pds sb) sm ⟨p, .lst (as.map V.ref), rfl, hn, hp, zipP_iss (mv i1) (mv i2) hl hc⟩) hq
    unfold gZip at g
    split at g
    · rename_i ps qs
      obtain ⟨x, y, rfl, l1, l2⟩ := lks2 lk
      obtain ⟨a1, xs, e1, r1, i1⟩ := l1
      obtain ⟨a2, ys, e2, r2, i2⟩ := l2
      subst e1 e2
      exact ⟨a1, a2, xs, ys, rfl, .inl ⟨.inl (.inl r1), .inl (.inl r2)⟩, fun H' p as sm hn hp hl hc => fin (a := a1) (b := a2) i1 i2 g sm hn hp hl hc⟩
    · rename_i ps qs
      obtain ⟨x, y, rfl, l1, l2⟩ := lks2 lk
      obtain ⟨a1, xs, e1, r1, i1⟩ : ∃ a vs, x = .ref a ∧ H1 a = some (.tup vs) ∧ Iss X.K H1 (WS G σ ρ1) ps vs := l1
      obtain ⟨a2, ys, e2, r2, i2⟩ : ∃ a vs, y = .ref a ∧ H1 a = some (.tup vs) ∧ Iss X.K H1 (WS G σ ρ1) qs vs := l2
      subst e1 e2
      exact ⟨a1, a2, xs, ys, rfl, .inr ⟨.inl (.inl r1), .inl (.inl r2)⟩, fun H' p as sm hn hp hl hc => fin (a := a1) (b := a2) i1 i2 g sm hn hp hl hc⟩
    · exact g.elim

/-! ### {k: v, ..} -/
def qPairs : List (QT × QT) → En → (List (PV × PV) → En → Prop) → Prop
  | [], ρ, Q => Q [] ρ
  | (tk, tv) :: r, ρ, Q => tk ρ fun r1 ρ1 => match r1.wk with
    | .pv k => tv ρ1 fun r2 ρ2 => match r2.wk with
      | .pv z => qPairs r ρ2 fun ps ρ3 => Q ((k, z) :: ps) ρ3
      | _ => False
    | _ => False
def mergeP : List (PV × PV) → List Key → List PV → Option (List Key × List PV)
  | [], ks, ps => some (ks, ps)
  | (k, z) :: r, ks, ps => match keyP k with
    | some j => mergeP r (putKs ks j) (putPs ks ps j z)
    | none => none
def qDisp (prs : List (QT × QT)) (ρ : En) (Q : PK1) : Prop := qPairs prs ρ fun ps ρ1 => match mergeP ps [] [] with
  | some (ks, zs) => Q (.fr (.dic ks zs)) ρ1
  | none => False
inductive QPs (X : Cx) (pos : Pos) : List (Option Expr) → List Expr → List (QT × QT) → Prop where
  | nil : QPs X pos [] [] []
  | cons {k v : Expr} {ks : List (Option Expr)} {vs : List Expr} {tk tv : QT} {r : List (QT × QT)} (hk : QE X k tk) (hv : QE X v tv) (t : QPs X pos ks vs r) : QPs X pos (some k :: ks) (v :: vs) ((tk, tv) :: r)
theorem qps_ex {ks : List (Option Expr)} {vs : List Expr} {r : List (QT × QT)} (h : QPs X pos ks vs r) : ∃ trs : List (TE × TE), PPs X pos ks vs trs ∧ trs.length = ks.length ∧
    ∀ (G : Gd) (H : Hp) (σ : L2.St) (ρ : En) (pd : Pds) (Q : List (PV × PV) → En → Prop) (F : List (V × V) → Hp → Prop), RE X.K G H σ ρ pd → qPairs r ρ Q →
      (∀ ps ρ' pd' vs H', (∀ x ∈ pd, x ∈ pd') → RE X.K G H' σ ρ' pd' → ps.length = ks.length → vs.length = ps.length → (∀ x ∈ ps.zip vs, (x.1.1, x.2.1) ∈ pd' ∧ (x.1.2, x.2.2) ∈ pd') → Q ps ρ' → F vs H') → tPairs trs σ H F := by
  induction h with
  | nil => exact ⟨[], pps_nil, rfl, fun G H σ ρ pd Q F R1 h f => f [] ρ pd [] H (fun _ h => h) R1 rfl rfl (fun x hx => by simp at hx) h⟩
  | cons hk hv t ih =>
    obtain ⟨trs, p3, l3, q3⟩ := ih
    obtain ⟨t1, p1, q1⟩ := hk.ex
    obtain ⟨t2, p2, q2⟩ := hv.ex
    refine ⟨(t1, t2) :: trs, pps_cons p1 p2 p3, by simp [l3], fun G H σ ρ pd Q F R1 h f => ?_⟩
    refine q1 G H σ ρ pd _ _ R1 h fun r1 ρ1 kv H1 s1 g1 => ?_
    have s1' := s1.wk
    cases e1 : r1.wk with
    | sl _ => rw [e1] at g1; exact g1.elim
    | fr _ => rw [e1] at g1; exact g1.elim
    | pv k =>
      rw [e1] at g1 s1'
      have R2 : RE X.K G H1 σ ρ1 ((k, kv) :: pd) := s1'
      refine q2 G H1 σ ρ1 _ _ _ R2 g1 fun r2 ρ2 zv H2 s2 g2 => ?_
      have s2' := s2.wk
      cases e2 : r2.wk with
      | sl _ => rw [e2] at g2; exact g2.elim
      | fr _ => rw [e2] at g2; exact g2.elim
      | pv z =>
        rw [e2] at g2 s2'
        have R3 : RE X.K G H2 σ ρ2 ((z, zv) :: (k, kv) :: pd) := s2'
        refine q3 G H2 σ ρ2 _ _ _ R3 g2 fun ps ρ3 pd3 vs3 H3 sb R4 l4 l5 m4 g4 => ?_
        refine f ((k, z) :: ps) ρ3 pd3 ((kv, zv) :: vs3) H3 (fun x hx => sb x (List.mem_cons_of_mem _ (List.mem_cons_of_mem _ hx))) R4 (by simp [l4]) (by simp [l5]) (fun x hx => ?_) g4
        rcases List.mem_cons.mp hx with e | hx
        · rw [e]; exact ⟨sb _ (List.mem_cons_of_mem _ List.mem_cons_self), sb _ List.mem_cons_self⟩
        · exact m4 x hx
theorem merge_is {K : PySem.W.Frag} {H : Hp} {W : Addr → Prop} : ∀ {ps : List (PV × PV)} {vs : List (V × V)} {ks : List Key} {zs : List PV} {us : List V} {ks' : List Key} {zs' : List PV}, vs.length = ps.length → (∀ x ∈ ps.zip vs, Is K H W x.1.1 x.2.1 ∧ Is K H W x.1.2 x.2.2) → mergeP ps ks zs = some (ks', zs') → ks.length = us.length → ks.all keyOk = true → Iss K H W zs us →
    ∃ kvs : List (Key × V), vs = kvs.map (fun kv => (kV kv.1, kv.2)) ∧ ∃ us', mergeK (ks.zip us) kvs = ks'.zip us' ∧ ks'.length = us'.length ∧ ks'.all keyOk = true ∧ Iss K H W zs' us'
  | [], vs, ks, zs, us, ks', zs', hl, _, e, le, ok, i => by
    have : vs = [] := List.length_eq_zero_iff.mp hl
    subst this
    cases e
    exact ⟨[], rfl, us, rfl, le, ok, i⟩
  | (k, z) :: ps, vs, ks, zs, us, ks', zs', hl, m, e, le, ok, i => by
    cases vs with
    | nil => simp at hl
    | cons v vs =>
      obtain ⟨i1, i2⟩ := m ((k, z), v) (by simp)
      unfold mergeP at e
      cases ek : keyP k with
      | none => rw [ek] at e; cases e
      | some j =>
        rw [ek] at e
        dsimp only at e
        obtain ⟨e1, ko⟩ := keyP_is i1 ek
        obtain ⟨e2, le2⟩ := put_zip (j := j) (v := v.2) le
        obtain ⟨kvs, e3, us', e4, r⟩ := merge_is (ps := ps) (vs := vs) (by simpa using hl) (fun x hx => m x (by simp [hx])) e le2 (putKs_ok ok ko) (putPs_is i i2)
        refine ⟨(j, v.2) :: kvs, ?_, us', ?_, r⟩
        · rw [List.map_cons, ← e3]
          obtain ⟨v1, v2⟩ := v
          have : v1 = kV j := e1
          rw [this]
        · rw [← e4]
          show mergeK (putK (ks.zip us) j v.2) kvs = _
          rw [e2]
theorem qe_disp {ks : List (Option Expr)} {vs : List Expr} {r : List (QT × QT)} (h : QPs X pos ks vs r) (hall : ks.all (·.isSome) = true := by rfl) (hl : ks.length = vs.length := by rfl) (h0 : ks ≠ [] := by intro z; cases z) (h15 : ks.length ≤ 15 := by decide) : QE X (.Dict ks vs pos) (qDisp r) := by
  obtain ⟨trs, p1, l1, q1⟩ := qps_ex h
  refine ⟨_, pe_disp p1 hall hl h0 h15, fun G H σ ρ pd Q F R1 hw f => ?_⟩
  intro D hD
  have kx := R1.exk
  have kD : G.keep D = none := by
    cases q : G.keep D with
    | none => rfl
    | some u => rw [R1.keep D u q] at hD; cases hD
  have R2 := R1.add (o := .dK []) hD (same_new hD) upd_same trivial
  refine q1 (G.add D (.dK [])) _ σ ρ pd _ _ R2 hw fun ps ρ1 pd1 vs1 H1 sb R3 l3 l4 m3 g => ?_
  cases em : mergeP ps [] [] with
  | none => rw [em] at g; exact g.elim
  | some kz =>
    rw [em] at g
    obtain ⟨ks', zs'⟩ := kz
    have hD1 : H1 D = some (.dK []) := R3.keep D _ upd_same
    obtain ⟨kvs, e1, us, e2, le, ok, i⟩ := merge_is (K := X.K) (H := H1) (W := WS (G.add D (.dK [])) σ ρ1) (us := []) l4 (fun x hx => ⟨R3.pd _ (m3 x hx).1, R3.pd _ (m3 x hx).2⟩) em rfl rfl Iss.nil
    refine ⟨hD1, kvs, e1, ?_, ?_⟩
    · have : kvs.length = ps.length := by rw [← l4, e1, List.length_map]
      omega
    · have R4 := R3.readd (o' := .dK (mergeK [] kvs)) trivial
      refine f (.fr (.dic ks' zs')) ρ1 (.ref D) _ ⟨D, .dK (mergeK [] kvs), rfl, kD, kx, R4.pds sb, ?_⟩ g
      refine ⟨us, e2, le, ok, ?_⟩
      have Wa : WS (G.add D (.dK [])) σ ρ1 D := .inl (.inl rfl)
      exact Iss.move (W' := WS (G.add D (.dK (mergeK [] kvs))) σ ρ1) (fun b u e n => by
        have ne : b ≠ D := fun z => n (by rw [z]; exact Wa)
        rw [upd_ne ne]; exact e) R3.mut (fun _ _ w => w) zs' us i
end
end Px
namespace Px
open PySem L2 PySem.Spec PyProof.Rows
section
variable {X : Cx} {a b c e o : Expr} {es : List Expr} {ta tb tc te : QT} {tr : QTA} {pos p p2 q apos cpos : Pos}
/-! ### dict(d), list(d), sorted -/
def gDictC (ps : List PV) (Q : R → Prop) : Prop := match ps with
  | [.dic ks ps] => Q (.fr (.dic ks ps))
  | _ => False
theorem call_dictC : CallP X (.type "dict") gDictC := by
  refine ⟨_, call_dictD, fun H W ps xs Q F m l g f => ?_⟩
  unfold gDictC at g
  split at g
  · rename_i ks ps
    obtain ⟨x, rfl, h⟩ := lks1 l
    obtain ⟨a, vs, e, r, le, ok, i⟩ := h
    subst e
    exact ⟨a, _, rfl, r, fun p hp => f _ _ (.fr (.dic ks ps)) (same_new hp) ⟨p, _, rfl, hp, upd_same, vs, rfl, le, ok, issNew m i hp⟩ g⟩
  · exact g.elim
def gListD (ps : List PV) (Q : R → Prop) : Prop := match ps with
  | [.dic ks _] => Q (.fr (.lst (ks.map keyV)))
  | ps => gList ps Q
theorem keys_iss {K : PySem.W.Frag} {H : Hp} {W : Addr → Prop} : ∀ {ks : List Key} {vs : List V}, ks.all keyOk = true → ks.length = vs.length → Iss K H W (ks.map keyV) ((ks.zip vs).map fun kv => kV kv.1)
  | [], _, _, _ => rfl
  | k :: ks, [], _, h => by simp at h
  | k :: ks, v :: vs, ok, h => by
    rw [List.all_cons, Bool.and_eq_true] at ok
    exact ⟨_, _, rfl, keyV_is ok.1, keys_iss ok.2 (by simpa using h)⟩
theorem call_listPD (hc : X.calm = true) : CallP X (.type "list") gListD := by
  obtain ⟨r1, h1, h2⟩ := call_listP (X := X)
  refine ⟨_, CallR.or h1 (call_listD hc), fun H W ps xs Q F m l g f => ?_⟩
  unfold gListD at g
  split at g
  · rename_i ks ps
    obtain ⟨x, rfl, h⟩ := lks1 l
    obtain ⟨a, vs, e, r, le, ok, i⟩ := h
    subst e
    exact .inr ⟨a, _, rfl, r, fun p hp => f _ _ _ (same_new hp) (resLst m (keys_iss ok le) hp) g⟩
  · exact .inl (h2 H W ps xs Q F m l g f)
def asStrs : List PV → Option (List Str)
  | [] => some []
  | .str s :: ps => (asStrs ps).map (s :: ·)
  | _ :: _ => none
theorem asStrs_iss {K : PySem.W.Frag} {H : Hp} {W : Addr → Prop} : ∀ {ps : List PV} {vs : List V} {ss : List Str}, Iss K H W ps vs → asStrs ps = some ss → vs = ss.map V.str ∧ ∀ s ∈ ss, sOk s = true
  | [], _, _, h, e => by cases (show _ = [] from h); cases e; exact ⟨rfl, fun s hs => by simp at hs⟩
  | p :: ps, vs, ns, h, e => by
    obtain ⟨v, r, e1, h1, h2⟩ := h
    subst e1
    cases p with
    | str s =>
      have e' : (asStrs ps).map (s :: ·) = some ns := e
      cases z : asStrs ps with
      | none => rw [z] at e'; cases e'
      | some ms =>
        rw [z] at e'; cases e'
        obtain ⟨e2, o⟩ : v = .str s ∧ sOk s = true := h1
        obtain ⟨h3, h4⟩ := asStrs_iss h2 z
        subst e2
        exact ⟨by rw [h3]; rfl, fun t ht => by rcases List.mem_cons.mp ht with e | ht; rw [e]; exact o; exact h4 t ht⟩
    | _ => cases e
theorem strs_iss {K : PySem.W.Frag} {H : Hp} {W : Addr → Prop} : ∀ {ss : List Str}, (∀ s ∈ ss, sOk s = true) → Iss K H W (ss.map PV.str) (ss.map V.str)
  | [], _ => rfl
  | s :: ss, h => ⟨_, _, rfl, ⟨rfl, h s List.mem_cons_self⟩, strs_iss fun t ht => h t (List.mem_cons_of_mem _ ht)⟩
def keyS : List Key → Option (List Str)
  | [] => some []
  | .inr s :: ks => (keyS ks).map (s :: ·)
  | _ :: _ => none
theorem keyS_map : ∀ {ks : List Key} {ss : List Str}, keyS ks = some ss → ks = ss.map Sum.inr
  | [], _, e => by cases e; rfl
  | .inr s :: ks, ss, e => by
    have e' : (keyS ks).map (s :: ·) = some ss := e
    cases z : keyS ks with
    | none => rw [z] at e'; cases e'
    | some r => rw [z] at e'; cases e'; rw [keyS_map z]; rfl
  | .inl _ :: _, _, e => by cases e
/-- sorted of texts, of numbers, of a dict with texts -/
def gSorted (ps : List PV) (Q : R → Prop) : Prop := match ps with
  | [.lst ps] => match asStrs ps with
    | some ss => ss.length < 64 ∧ ∀ ys, ys.Perm ss → sortedS ys = true → Q (.fr (.lst (ys.map PV.str)))
    | none => match asInts ps with
      | some ns => ∀ ms : List Int, ms.Perm ns → ms.Pairwise (· ≤ ·) → Q (.fr (.lst (ms.map PV.int)))
      | none => False
  | [.dic ks _] => match keyS ks with
    | some ss => ss.length < 64 ∧ ∀ ys, ys.Perm ss → sortedS ys = true → Q (.fr (.lst (ys.map PV.str)))
    | none => False
  | _ => False
theorem call_sortedP (hc : X.calm = true) : CallP X (.builtin "sorted") gSorted := by
  refine ⟨_, CallR.or cr_sortedS (CallR.or cr_sortedI (call_sortedD hc)), fun H W ps xs Q F m l g f => ?_⟩
  unfold gSorted at g
  split at g
  · rename_i ps
    obtain ⟨x, rfl, h⟩ := lks1 l
    obtain ⟨a, vs, e, r, i⟩ := h
    subst e
    cases es : asStrs ps with
    | some ss =>
      rw [es] at g
      obtain ⟨e2, ok⟩ := asStrs_iss i es
      subst e2
      exact .inl ⟨a, ss, rfl, .inl (.inl r), g.1, fun ys p pm so hp => f _ _ _ (same_new hp) (resLst m (strs_iss fun s hs => ok s (pm.mem_iff.mp hs)) hp) (g.2 ys pm so)⟩
    | none =>
      rw [es] at g
      dsimp only at g
      cases ei : asInts ps with
      | some ns =>
        rw [ei] at g
        have e2 := asInts_iss i ei
        subst e2
        exact .inr (.inl ⟨a, ns, rfl, .inl (.inl r), fun ms p pm so hp => f _ _ _ (same_new hp) (resLst m (Iss.ints ms) hp) (g ms pm so)⟩)
      | none => rw [ei] at g; exact g.elim
  · rename_i ks ps
    obtain ⟨x, rfl, h⟩ := lks1 l
    obtain ⟨a, vs, e, r, le, ok, i⟩ := h
    subst e
    cases es : keyS ks with
    | some ss =>
      rw [es] at g
      have ek := keyS_map es
      have oks : ∀ s ∈ ss, sOk s = true := fun s hs => by
        have := List.all_eq_true.mp ok (.inr s) (by rw [ek]; exact List.mem_map_of_mem hs)
        exact this
      refine .inr (.inr ⟨a, _, ss, rfl, r, ?_, g.1, fun ys p pm so hp => f _ _ _ (same_new hp) (resLst m (strs_iss fun s hs => oks s (pm.mem_iff.mp hs)) hp) (g.2 ys pm so)⟩)
      rw [List.map_fst_zip (Nat.le_of_eq le), ek]
    | none => rw [es] at g; exact g.elim
  · exact g.elim
/-! ### str(i) -/
def gStr (ps : List PV) (Q : R → Prop) : Prop := match ps with
  | [.int i] => i.natAbs.log2 < 1920 ∧ sOk (toString i) = true ∧ Q (.pv (.str (toString i)))
  | _ => False
theorem call_strP : CallP X (.type "str") gStr := by
  refine ⟨_, call_str_int, fun H W ps xs Q F m l g f => ?_⟩
  unfold gStr at g
  split at g
  · obtain ⟨x, rfl, h⟩ := lks1 l
    cases (show x = _ from h)
    exact ⟨_, rfl, g.1, fin1 f (p := .str _) ⟨rfl, g.2.1⟩ g.2.2⟩
  · exact g.elim
/-! ### isinstance with several types -/
def asTys : List PV → Option (List String)
  | [] => some []
  | .ty s :: ps => (asTys ps).map (s :: ·)
  | _ :: _ => none
def gIsiT (ps : List PV) (Q : R → Prop) : Prop := match ps with
  | [p, .tup ts] => match asTys ts with
    | some Ts => (tyN p ≠ "" ∧ ∀ T ∈ Ts, tyOk T) ∧ Q (.pv (.bl (Ts.any fun T => isTy p T)))
    | none => False
  | ps => gIsi ps Q
theorem kit_anys {K : PySem.W.Frag} {t : String} (ht : t ∈ ["NoneType", "bool", "int", "str", "tuple", "list", "dict"]) : ∀ {Ts : List String}, (∀ T ∈ Ts, tyOk T) → PySem.W.kitAny K (.type t) (Ts.map Value.type) = some (Ts.any fun T => t == T || (t == "bool" && T == "int"))
  | [], _ => kitAny_nil
  | T :: Ts, h => by
    have ih := kit_anys (K := K) ht (Ts := Ts) fun U hU => h U (List.mem_cons_of_mem _ hU)
    rw [List.map_cons]
    refine kitAny_cons (kit_ty (kit_all t ht T (h T List.mem_cons_self))) (fun e => ?_) fun e => ?_
    · rw [ih, List.any_cons, e, Bool.false_or]
    · rw [List.any_cons, e, Bool.true_or]
theorem asTys_iss {K : PySem.W.Frag} {H : Hp} {W : Addr → Prop} : ∀ {ps : List PV} {vs : List V} {Ts : List String}, Iss K H W ps vs → asTys ps = some Ts → Paired ClsV vs (Ts.map Value.type)
  | [], _, _, h, e => by cases (show _ = [] from h); cases e; exact .nil
  | p :: ps, vs, ns, h, e => by
    obtain ⟨v, r, e1, h1, h2⟩ := h
    subst e1
    cases p with
    | ty s =>
      have e' : (asTys ps).map (s :: ·) = some ns := e
      cases z : asTys ps with
      | none => rw [z] at e'; cases e'
      | some ms =>
        rw [z] at e'; cases e'
        cases (show v = .ty s from h1)
        exact .cons (.ty s) (asTys_iss h2 z)
    | _ => cases e
theorem call_isiPT : CallP X (.builtin "isinstance") gIsiT := by
  obtain ⟨r1, h1, h2⟩ := call_isiP (X := X)
  refine ⟨_, CallR.or h1 call_isiT, fun H W ps xs Q F m l g f => ?_⟩
  unfold gIsiT at g
  split at g
  · rename_i p ts
    cases et : asTys ts with
    | none => rw [et] at g; exact g.elim
    | some Ts =>
      rw [et] at g
      obtain ⟨x, y, rfl, l1, l2⟩ := lks2 l
      obtain ⟨a, vs, e, r, i⟩ : ∃ a vs, y = .ref a ∧ H a = some (.tup vs) ∧ Iss X.K H W ts vs := l2
      subst e
      obtain ⟨t, mem⟩ := tyx_of l1 g.1.1
      exact .inr ⟨x, a, vs, _, _, _, rfl, r, asTys_iss i et, t, kit_anys mem g.1.2, fin1 f (p := .bl _) rfl g.2⟩
  · exact .inl (h2 H W ps xs Q F m l g f)
/-! ### a < b < c -/
def qChain (g g' : G2) (ta tb tc : QT) (ρ : En) (Q : PK1) : Prop := ta ρ fun r1 ρ1 => tb ρ1 fun r2 ρ2 => match r1.look ρ2, r2.look ρ2 with
  | some p, some q => g p q fun z => match z with
    | .pv (.bl k) => Br k (tc ρ2 fun r3 ρ3 => match r2.look ρ3, r3.look ρ3 with
      | some q, some r => g' q r fun z => Q z ρ3
      | _, _ => False) (Q (.pv (.bl false)) ρ2)
    | _ => False
  | _, _ => False
theorem rz_chain {op op' : CmpOp} {g g' : G2} (ho : OpP X (compareOp op) g) (ho' : OpP X (compareOp op') g') {t1 t2 t3 : TE} (h1 : Rz X.K t1 ta) (h2 : Rz X.K t2 tb) (h3 : Rz X.K t3 tc) : Rz X.K (tChain (Classical.choose ho) (Classical.choose ho') t1 t2 t3) (qChain g g' ta tb tc) := by
  have o1 := (Classical.choose_spec ho).2
  have o2 := (Classical.choose_spec ho').2
  intro G H σ ρ pd Q F R1 h f
  refine h1 G H σ ρ pd _ _ R1 h fun r1 ρ1 x H1 s1 g1 => ?_
  obtain ⟨pd1, sb1, R2, a1⟩ := s1.arg
  refine h2 G H1 σ ρ1 pd1 _ _ R2 g1 fun r2 ρ2 y H2 s2 g2 => ?_
  obtain ⟨pd2, sb2, R3, a2⟩ := s2.arg
  cases e1 : r1.look ρ2 with
  | none => rw [e1] at g2; exact g2.elim
  | some p =>
    cases e2 : r2.look ρ2 with
    | none => rw [e1, e2] at g2; exact g2.elim
    | some q =>
      rw [e1, e2] at g2
      refine o1 H2 _ p q x y _ _ R3.mut ((a1.mono sb2).lk R3 (by rw [look_wk]; exact e1)) (a2.lk R3 (by rw [look_wk]; exact e2)) g2 fun v H3 z sm rv hq => ?_
      cases z with
      | pv z =>
        cases z with
        | bl k =>
          cases (show v = .bl k from rv)
          refine ⟨k, rfl, ?_⟩
          have R4 := R3.same sm
          cases k with
          | true =>
            have hq' := hq.1 rfl
            show t3 σ H3 _
            refine h3 G H3 σ ρ2 pd2 _ _ R4 hq' fun r3 ρ3 w H4 s3 g3 => ?_
            obtain ⟨pd3, sb3, R5, a3⟩ := s3.arg
            cases e3 : r2.look ρ3 with
            | none => rw [e3] at g3; exact g3.elim
            | some q' =>
              cases e4 : r3.look ρ3 with
              | none => rw [e3, e4] at g3; exact g3.elim
              | some r =>
                rw [e3, e4] at g3
                refine o2 H4 _ q' r y w _ F R5.mut ((a2.mono sb3).lk R5 (by rw [look_wk]; exact e3)) (a3.lk R5 (by rw [look_wk]; exact e4)) g3 fun v' H5 z' sm' rv' hz => ?_
                exact f z' ρ3 v' H5 (res_of (R5.pds fun u hu => sb3 u (sb2 u (sb1 u hu))) sm' rv') hz
          | false => exact f (.pv (.bl false)) ρ2 _ H3 ((R4.pds fun u hu => sb2 u (sb1 u hu)).push (p := .bl false) rfl) (hq.2 rfl)
        | _ => exact hq.elim
      | _ => exact hq.elim
theorem qe_chain {op op' : CmpOp} {g g' : G2} (ho : OpP X (compareOp op) g) (ho' : OpP X (compareOp op') g') (ha : QE X a ta) (hb : QE X b tb) (hc : QE X c tc) (hm : lastMarks [op, op'] [b, c] = false := by with_unfolding_all rfl) : QE X (.Compare a [op, op'] [b, c] pos) (qChain g g' ta tb tc) := by
  obtain ⟨t1, p1, q1⟩ := ha.ex
  obtain ⟨t2, p2, q2⟩ := hb.ex
  obtain ⟨t3, p3, q3⟩ := hc.ex
  exact ⟨_, pe_chain (Classical.choose_spec ho).1 (Classical.choose_spec ho').1 p1 p2 p3 hm, rz_chain ho ho' q1 q2 q3⟩
theorem qc_chain {op op' : CmpOp} {g g' : G2} (ho : OpP X (compareOp op) g) (ho' : OpP X (compareOp op') g') (ha : QE X a ta) (hb : QE X b tb) (hc : QE X c tc) (hm : lastMarks [op, op'] [b, c] = false := by with_unfolding_all rfl) : QC X (.Compare a [op, op'] [b, c] pos) (qB (qChain g g' ta tb tc)) := by
  obtain ⟨t1, p1, q1⟩ := ha.ex
  obtain ⟨t2, p2, q2⟩ := hb.ex
  obtain ⟨t3, p3, q3⟩ := hc.ex
  refine ⟨_, pt_chain (Classical.choose_spec ho).1 (Classical.choose_spec ho').1 p1 p2 p3 hm, fun G H σ ρ pd Q F R1 h f => ?_⟩
  refine rz_chain ho ho' q1 q2 q3 G H σ ρ pd _ _ R1 h fun r ρ' v H' s hq => ?_
  cases r with
  | pv p =>
    cases p with
    | bl k =>
      have e : v = .bl k := s.pd (.bl k, v) List.mem_cons_self
      exact ⟨k, e, f k ρ' H' s.tl hq⟩
    | _ => exact hq.elim
  | _ => exact hq.elim
/-! ### a, b = x, y; x += e -/
def qPar (i j : Nat) (tr : QTA) (D : PEnds) (ρ : En) : Prop := tr ρ fun rs ρ1 => match rs with
  | [.pv p, .pv q] => notIo ρ1 i = true ∧ notIo ρ1 j = true ∧ D.nx ((ρ1.set i (.val p)).set j (.val q))
  | _ => False
theorem qs_par (i j : Nat) {x y : Str} {px py pt : Pos} {kt k2 : Nat} {pt2 : Pos} (hN : X.N.Nodup) (ha : QA X [a, b] tr) (hc : X.calm = true := by rfl) (hi : X.N[i]? = some x := by rfl) (hj : X.N[j]? = some y := by rfl) (hij : i ≠ j := by decide)
    (hx : X.env.scope.names.lookup x = some .local := by rfl) (hy : X.env.scope.names.lookup y = some .local := by rfl)
    (hw : swappedStores [.Tuple [.Name x px, .Name y py] kt pt] (.Tuple [a, b] k2 pt2) X.env = pure (some [x, y]) := by rfl)
    (hs : swapsWithSole [.Tuple [.Name x px, .Name y py] kt pt] (.Tuple [a, b] k2 pt2) pos.line X.env = pure false := by rfl) : QS X (.Assign [.Tuple [.Name x px, .Name y py] kt pt] (.Tuple [a, b] k2 pt2) pos) (qPar i j tr) := by
  obtain ⟨t, p, q⟩ := ha.ex
  refine ⟨_, ps_par hc hN hi hj hij hx hy p hw hs, fun G H σ ρ pd D' D R1 h ee => ?_⟩
  refine q G H σ ρ pd _ _ R1 h fun rs ρ1 pd1 vs H1 sb R2 ar g => ?_
  unfold qPar at h
  cases ar with
  | nil => exact g.elim
  | @cons r v rs vs h1 t1 =>
    cases t1 with
    | nil => cases r <;> exact g.elim
    | @cons r2 v2 rs2 vs2 h2 t2 =>
      cases t2 with
      | cons _ _ => cases r <;> cases r2 <;> exact g.elim
      | nil =>
        cases r with
        | pv p =>
          cases r2 with
          | pv q =>
            obtain ⟨n1, n2, g⟩ := g
            refine ⟨v, v2, rfl, ee.nx _ _ H1 ?_ g⟩
            have R3 : RE X.K G H1 σ ρ1 ((p, v) :: (q, v2) :: pd) := R2.pds fun x hx => by
              rcases List.mem_cons.mp hx with e | hx
              · rw [e]; exact h1
              rcases List.mem_cons.mp hx with e | hx
              · rw [e]; exact h2
              exact sb x hx
            refine RE.set (R3.set n1) ?_
            unfold notIo at n2 ⊢
            rw [ix_ne hij]; exact n2
          | _ => exact g.elim
        | _ => cases r2 <;> exact g.elim
/-- x += e of numbers -/
def qAug (i : Nat) (g : Int → Int → Int) (te : QT) (D : PEnds) (ρ : En) : Prop := match ρ[i]? with
  | some (.val (.int a)) => te ρ fun r ρ1 => match r with
    | .pv (.int b) => notIo ρ1 i = true ∧ D.nx (ρ1.set i (.val (.int (g a b))))
    | _ => False
  | _ => False
theorem qs_aug (i : Nat) {op : Operator} {g : Int → Int → Int} {x : Str} {pos' : Pos} (hN : X.N.Nodup) (ho : PIp X op (ipI g)) (he : QE X e te) (hi : X.N[i]? = some x := by rfl) (hx : Loc X.env.scope x := by first | exact Or.inl rfl | exact Or.inr rfl) (hf : X.fn x = true ∨ X.env.scope.names.lookup x = some .local := by first | exact .inl rfl | exact .inr rfl) :
    QS X (.AugAssign (.Name x pos') op e pos) (qAug i g te) := by
  obtain ⟨t, p, q⟩ := he.ex
  refine ⟨_, ps_aug hN hi hx p ho hf, fun G H σ ρ pd D' D R1 h ee => ?_⟩
  unfold qAug at h
  split at h
  · rename_i a ea
    obtain ⟨v, ev, iv⟩ := R1.val i _ ea
    cases (show v = .int a from iv)
    refine ⟨_, ev, q G H σ ρ pd _ _ R1 h fun r ρ1 w H1 s g1 => ?_⟩
    cases r with
    | pv p =>
      cases p with
      | int b =>
        have R2 : RE X.K G H1 σ ρ1 ((.int b, w) :: pd) := s
        cases (show w = .int b from R2.pd (.int b, w) List.mem_cons_self)
        exact ⟨a, b, rfl, rfl, ee.nx _ _ H1 ((R2.tl.push (p := .int (g a b)) (v := .int (g a b)) rfl).set g1.1) g1.2⟩
      | _ => exact g1.elim
    | _ => exact g1.elim
  · exact h.elim
/-! ### a method of a value that changes nothing -/
def tyIs (T : String) : Option PV → Prop
  | some (.lst _) => T = "list"
  | some (.dic _ _) => False
  | some (.str _) => T = "str"
  | _ => False
abbrev MethP (X : Cx) (id : String) (g : PV → List PV → (R → Prop) → Prop) : Prop := ∃ r, MtR X id r ∧ ∀ (H : Hp) (W : Addr → Prop) (p : PV) (x : V) (ps : List PV) (xs : List V) (Q : R → Prop) (F : VK), MutT H W → Lk X.K H W p x → Lks X.K H W ps xs → g p ps Q → (∀ v H' z, Same H H' → ResV X.K H W H' z v → Q z → F v H') → r x xs H F
def qMeth (T : String) (g : PV → List PV → (R → Prop) → Prop) (to : QT) (ta : QTA) (ρ : En) (Q : PK1) : Prop := to ρ fun r ρ1 => tyIs T (r.look ρ1) ∧ ta ρ1 fun rs ρ2 => match r.look ρ2, looks ρ2 rs with
  | some p, some ps => g p ps fun z => Q z ρ2
  | _, _ => False
theorem tyIs_v {K : PySem.W.Frag} {H : Hp} {W : Addr → Prop} {T : String} {p : PV} {v : V} (l : Lk K H W p v) (h : tyIs T (some p)) : tyV K T v H := by
  cases p with
  | lst ps => obtain ⟨a, vs, e, r, _⟩ := l; subst e; exact .inl ⟨h, vs, .inl (.inl r)⟩
  | str s => obtain ⟨e, _⟩ : v = .str s ∧ sOk s = true := l; subst e; exact h
  | _ => exact h.elim
theorem qe_meth {T id : String} {nm : Str} {g : PV → List PV → (R → Prop) → Prop} (hm : MethP X id g) (pa : PlainAttrs T) (slot : Slot T nm id) (hty : typeOf (.builtin id) = pure (.type "method_descriptor")) (ho : QE X o te) (ha : QA X (e :: es) tr)
    (hbase : attributeBase o nm X.env (eval o X.env) = eval o X.env := by rfl)
    (hfew : ((backTo cpos (starEach (e :: es) X.env)).all (fun x => !x.1) && (backToKw cpos (keywordEach [] X.env)).all (fun x => x.1.isSome)
      && decide ((e :: es).length + ([] : List Keyword).length + (if ([] : List Keyword).isEmpty then 0 else 1) < 30)) = true := by rfl)
    (hline : (apos.endLine == cpos.line) = true := by rfl) (hs : starEach (e :: es) X.env = (false, eval e X.env) :: starEach es X.env := by rfl) (hplain : (backTo cpos (starEach es X.env)).any (·.1) = false := by rfl) :
    QE X (.Call (.Attribute o nm apos) (e :: es) [] cpos) (qMeth T g te tr) := by
  obtain ⟨r, h1, h2⟩ := hm
  obtain ⟨t1, p1, q1⟩ := ho.ex
  obtain ⟨t2, p2, q2⟩ := ha.ex
  refine ⟨_, pe_bm pa slot hty h1 p1 p2 hbase hfew hline hs hplain, fun G H σ ρ pd Q F R1 h f => ?_⟩
  refine q1 G H σ ρ pd _ _ R1 h fun r ρ1 v H1 s ⟨ht, g1⟩ => ?_
  obtain ⟨pd1, sb, R2, a1⟩ := s.arg
  cases el : r.look ρ1 with
  | none => rw [el] at ht; exact ht.elim
  | some p =>
    rw [el] at ht
    refine ⟨tyIs_v (s.lk el) ht, ?_⟩
    refine q2 G H1 σ ρ1 pd1 _ _ R2 g1 fun rs ρ2 pd2 vs H2 sb2 R3 ar g2 => ?_
    cases e1 : r.look ρ2 with
    | none => rw [e1] at g2; exact g2.elim
    | some p' =>
      cases e2 : looks ρ2 rs with
      | none => rw [e1, e2] at g2; exact g2.elim
      | some ps =>
        rw [e1, e2] at g2
        refine h2 H2 _ p' v ps vs _ F R3.mut ((a1.mono sb2).lk R3 (by rw [look_wk]; exact e1)) (ar.lks R3 e2) g2 fun v' H' z sm rv hq => ?_
        exact f z ρ2 v' H' (res_of (R3.pds fun x hx => sb2 x (sb x hx)) sm rv) hq
/-- xs.index(y): the first place -/
def idxP (y : PV) : List PV → Option Nat
  | [] => none
  | p :: ps => if peq p y = true then some 0 else (idxP y ps).map (· + 1)
def gIndex (p : PV) (ps : List PV) (Q : R → Prop) : Prop := match p, ps with
  | .lst xs, [y] => eqOk y ∧ eqOk (.lst xs) ∧ match idxP y xs with
    | some j => Q (.pv (.int (j : Nat)))
    | none => False
  | _, _ => False
theorem idxP_at {y : PV} : ∀ {xs : List PV} {j : Nat}, idxP y xs = some j → ∃ z, (toDs xs)[j]? = some z ∧ PyData.eqv z (toD y) = true ∧ ∀ (m : Nat) (z' : PyData), m < j → (toDs xs)[m]? = some z' → PyData.eqv z' (toD y) = false
  | [], _, e => by cases e
  | p :: xs, j, e => by
    unfold idxP at e
    split at e
    · rename_i h
      cases e
      exact ⟨toD p, rfl, h, fun m z hm => by omega⟩
    · rename_i h
      cases z : idxP y xs with
      | none => rw [z] at e; cases e
      | some k =>
        rw [z] at e; cases e
        obtain ⟨w, h1, h2, h3⟩ := idxP_at z
        refine ⟨w, by rw [toDs]; simpa using h1, h2, fun m z' hm hz => ?_⟩
        cases m with
        | zero =>
          rw [toDs] at hz
          simp only [List.getElem?_cons_zero, Option.some.injEq] at hz
          rw [← hz]
          exact Bool.eq_false_iff.mpr h
        | succ m => exact h3 m z' (by have hm' : m + 1 < k + 1 := hm; omega) (by rw [toDs] at hz; simpa using hz)
theorem me_index (hu : X.A.units + 65 < cLine) : MethP X "list.index" gIndex := by
  refine ⟨_, mt_indexD hu, fun H W p x ps xs Q F m l ls g f => ?_⟩
  unfold gIndex at g
  split at g
  · rename_i qs y
    obtain ⟨h1, h2, g⟩ := g
    obtain ⟨v, rfl, ly⟩ := lks1 ls
    cases ei : idxP y qs with
    | none => rw [ei] at g; exact g.elim
    | some j =>
      rw [ei] at g
      obtain ⟨d1, c1, z1⟩ := lk_dp h1.1 ly
      obtain ⟨d2, c2, z2⟩ := lk_dp h2.1 l
      obtain ⟨z, e1, e2, e3⟩ := idxP_at ei
      obtain ⟨a, vs, e, r, i⟩ := l
      subst e
      exact ⟨a, v, _, _, j, z, rfl, rfl, d2, d1, shaped_of c2 z2 h2, shaped_of c1 z1 h1, e1, e2, e3, fin1 f (p := .int _) rfl g⟩
  · exact g.elim
end
end Px
namespace Px
open PySem L2 PySem.Spec PyProof.Rows
/-! ### a dict walked: it stands locked -/
structure HM (H H' : Hp) : Prop where
  lst : ∀ b xs, H b = some (.lst xs) → H' b = some (.lst xs)
  tup : ∀ b xs, H b = some (.tup xs) → H' b = some (.tup xs)
  dK : ∀ b kvs, Rd H b (.dK kvs) → Rd H' b (.dK kvs)
  fl : ∀ b o xs, H b = some (.frz o (.lst xs)) → H' b = some (.frz o (.lst xs))
mutual
theorem Is.hm {K : PySem.W.Frag} {H H' : Hp} {W : Addr → Prop} (m : HM H H') : ∀ (p : PV) (v : V), Is K H W p v → Is K H' W p v
  | .non, _, h => h
  | .bl _, _, h => h
  | .int _, _, h => h
  | .ty _, _, h => h
  | .str _, _, h => h
  | .tup ps, v, h => by
    obtain ⟨a, vs, e, r, q⟩ := h
    exact ⟨a, vs, e, m.tup a vs r, Iss.hm m ps vs q⟩
  | .lst ps, v, h => by
    obtain ⟨a, vs, e, n, r, q⟩ := h
    exact ⟨a, vs, e, n, m.lst a vs r, Iss.hm m ps vs q⟩
  | .dic ks ps, v, h => by
    obtain ⟨a, vs, e, n, r, l, kk, q⟩ := h
    exact ⟨a, vs, e, n, m.dK a _ r, l, kk, Iss.hm m ps vs q⟩
  | .scr ns, v, h => by
    obtain ⟨a, e, q⟩ := h
    rcases q with ⟨o, q⟩ | q
    · exact ⟨a, e, .inl ⟨o, m.fl a o _ q⟩⟩
    · exact ⟨a, e, .inr q⟩
theorem Iss.hm {K : PySem.W.Frag} {H H' : Hp} {W : Addr → Prop} (m : HM H H') : ∀ (ps : List PV) (vs : List V), Iss K H W ps vs → Iss K H' W ps vs
  | [], _, h => h
  | p :: ps, vs, h => by
    obtain ⟨v, r, e, h1, h2⟩ := h
    exact ⟨v, r, e, Is.hm m p v h1, Iss.hm m ps r h2⟩
end
theorem OwnO.hm {K : PySem.W.Frag} {H H' : Hp} {W : Addr → Prop} (m : HM H H') {p : PV} {o : HO} (h : OwnO K H W p o) : OwnO K H' W p o := by
  cases p <;> cases o <;> first
    | exact h.elim
    | exact Iss.hm m _ _ h
    | (obtain ⟨vs, e, l, kk, q⟩ := h; exact ⟨vs, e, l, kk, Iss.hm m _ _ q⟩)
theorem hm_lock {H : Hp} {d : Addr} {o : Obj} {kvs : List (Key × V)} (h : H d = some (.dK kvs)) : HM H (upd H d (.frz o (.dK kvs))) := by
  have ne : ∀ b (u : HO), H b = some u → u ≠ .dK kvs → b ≠ d := fun b u e n z => by rw [z, h] at e; cases e; exact n rfl
  refine ⟨fun b xs e => by rw [upd_ne (ne b _ e (by intro z; cases z))]; exact e, fun b xs e => by rw [upd_ne (ne b _ e (by intro z; cases z))]; exact e, fun b ks e => ?_, fun b o xs e => by rw [upd_ne (ne b _ e (by intro z; cases z))]; exact e⟩
  by_cases z : b = d
  · subst z
    rcases e with e | ⟨u, e⟩
    · rw [h] at e; cases e; exact .inr ⟨o, upd_same⟩
    · rw [h] at e; cases e
  · rcases e with e | ⟨u, e⟩
    · exact .inl (by rw [upd_ne z]; exact e)
    · exact .inr ⟨u, by rw [upd_ne z]; exact e⟩
theorem hm_unlock {H : Hp} {d : Addr} {o : Obj} {kvs : List (Key × V)} (h : H d = some (.frz o (.dK kvs))) : HM H (upd H d (.dK kvs)) := by
  have ne : ∀ b (u : HO), H b = some u → u ≠ .frz o (.dK kvs) → b ≠ d := fun b u e n z => by rw [z, h] at e; cases e; exact n rfl
  refine ⟨fun b xs e => by rw [upd_ne (ne b _ e (by intro z; cases z))]; exact e, fun b xs e => by rw [upd_ne (ne b _ e (by intro z; cases z))]; exact e, fun b ks e => ?_, fun b o' xs e => by rw [upd_ne (ne b _ e (by intro z; cases z))]; exact e⟩
  by_cases z : b = d
  · subst z
    rcases e with e | ⟨u, e⟩
    · rw [h] at e; cases e
    · rw [h] at e; cases e; exact .inl upd_same
  · rcases e with e | ⟨u, e⟩
    · exact .inl (by rw [upd_ne z]; exact e)
    · exact .inr ⟨u, by rw [upd_ne z]; exact e⟩
def Gd.lk (G : Gd) (d : Addr) (u : HO) : Gd := ⟨upd G.keep d u, G.ex, G.io⟩
theorem lk_add {G : Gd} {a d : Addr} {u v : HO} (ne : a ≠ d) : (G.lk d u).add a v = (G.add a v).lk d u := by
  have : upd (upd G.keep d u) a v = upd (upd G.keep a v) d u := by
    funext b
    by_cases z1 : b = a
    · subst z1; rw [upd_same, upd_ne ne, upd_same]
    · by_cases z2 : b = d
      · subst z2; rw [upd_ne z1, upd_same, upd_same]
      · rw [upd_ne z1, upd_ne z2, upd_ne z2, upd_ne z1]
  exact congrArg (fun k => Gd.mk k (fun b => b = a ∨ G.ex b) G.io) this
section
variable {K : PySem.W.Frag} {G : Gd} {H : Hp} {σ : L2.St} {ρ : En} {pd : Pds} {d : Addr} {o : Obj} {kvs : List (Key × V)}
theorem RE.lock (R : RE K G H σ ρ pd) (n : ¬ WS G σ ρ d) (h : H d = some (.dK kvs)) : RE K (G.lk d (.frz o (.dK kvs))) (upd H d (.frz o (.dK kvs))) σ ρ pd := by
  have m := hm_lock (o := o) h
  refine ⟨R.len, fun i p e => ?_, fun i b p e => ?_, R.inj, R.io, fun b u e => ?_, fun b w => ?_, fun x hx => Is.hm m _ _ (R.pd x hx)⟩
  · obtain ⟨v, e1, q⟩ := R.val i p e
    exact ⟨v, e1, Is.hm m _ _ q⟩
  · obtain ⟨a, e1, k, u, e2, q⟩ := R.own i b p e
    have ne : a ≠ d := fun z => n (by rw [← z]; exact .inr ⟨i, b, p, e, e1⟩)
    exact ⟨a, e1, by show upd G.keep d _ a = none; rw [upd_ne ne]; exact k, u, by rw [upd_ne ne]; exact e2, q.hm m⟩
  · have e' : upd G.keep d (.frz o (.dK kvs)) b = some u := e
    by_cases z : b = d
    · rw [z] at e' ⊢; rw [upd_same] at e' ⊢; exact e'
    · rw [upd_ne z] at e' ⊢; exact R.keep b u e'
  · obtain ⟨u, e1, m1⟩ := R.exk b w
    have ne : b ≠ d := fun z => n (by rw [← z]; exact .inl w)
    exact ⟨u, by show upd G.keep d _ b = some u; rw [upd_ne ne]; exact e1, m1⟩
theorem RE.unlock (R : RE K (G.lk d (.frz o (.dK kvs))) H σ ρ pd) (kd : ∀ u, G.keep d = some u → u = .dK kvs) : H d = some (.frz o (.dK kvs)) ∧ RE K G (upd H d (.dK kvs)) σ ρ pd := by
  have h : H d = some (.frz o (.dK kvs)) := R.keep d _ upd_same
  have m := hm_unlock h
  have kne : ∀ a, (G.lk d (.frz o (.dK kvs))).keep a = none → a ≠ d ∧ G.keep a = none := fun a e => by
    have e' : upd G.keep d (.frz o (.dK kvs)) a = none := e
    by_cases z : a = d
    · rw [z, upd_same] at e'; cases e'
    · rw [upd_ne z] at e'; exact ⟨z, e'⟩
  refine ⟨h, R.len, fun i p e => ?_, fun i b p e => ?_, R.inj, R.io, fun b u e => ?_, fun b w => ?_, fun x hx => Is.hm m _ _ (R.pd x hx)⟩
  · obtain ⟨v, e1, q⟩ := R.val i p e
    exact ⟨v, e1, Is.hm m _ _ q⟩
  · obtain ⟨a, e1, k, u, e2, q⟩ := R.own i b p e
    obtain ⟨ne, k'⟩ := kne a k
    exact ⟨a, e1, k', u, by rw [upd_ne ne]; exact e2, q.hm m⟩
  · by_cases z : b = d
    · rw [z] at e ⊢; rw [kd u e, upd_same]
    · rw [upd_ne z]
      exact R.keep b u (by show upd G.keep d _ b = some u; rw [upd_ne z]; exact e)
  · obtain ⟨u, e1, m1⟩ := R.exk b w
    have e' : upd G.keep d (.frz o (.dK kvs)) b = some u := e1
    by_cases z : b = d
    · rw [z, upd_same] at e'; cases e'; exact m1.elim
    · rw [upd_ne z] at e'; exact ⟨u, e', m1⟩
theorem Res.unlock {r : R} {v : V} (s : Res K (G.lk d (.frz o (.dK kvs))) H σ ρ pd r v) (kd : ∀ u, G.keep d = some u → u = .dK kvs) (kx : exkOk G) : H d = some (.frz o (.dK kvs)) ∧ Res K G (upd H d (.dK kvs)) σ ρ pd r v := by
  cases r with
  | pv p => exact RE.unlock (pd := (p, v) :: pd) s kd
  | sl i =>
    obtain ⟨R1, e1, x⟩ := s
    obtain ⟨h, R2⟩ := R1.unlock kd
    exact ⟨h, R2, e1, x⟩
  | fr p =>
    obtain ⟨a, u, e1, n, _, R1, w⟩ := s
    have n' : upd G.keep d (.frz o (.dK kvs)) a = none := n
    have ne : a ≠ d := fun z => by rw [z, upd_same] at n'; cases n'
    rw [upd_ne ne] at n'
    have eg : (G.lk d (.frz o (.dK kvs))).add a u = (G.add a u).lk d (.frz o (.dK kvs)) := lk_add ne
    rw [eg] at R1 w
    obtain ⟨h, R2⟩ := R1.unlock (fun x e => kd x (by
      have e' : upd G.keep a u d = some x := e
      rw [upd_ne ne.symm] at e'; exact e'))
    exact ⟨h, a, u, e1, n', kx, R2, w.hm (hm_unlock h)⟩
end
theorem pe_either {X : Cx} {e : Expr} {t t' : TE} (h : PE X e t) (h' : PE X e t') : PE X e (fun σ H Q => t σ H Q ∨ t' σ H Q) := ⟨fun pins s σ H Q I q => q.elim (h.run pins s σ H Q I) (h'.run pins s σ H Q I)⟩
theorem ps_either {X : Cx} {st : Stmt} {t t' : TS} (h : PS X st t) (h' : PS X st t') : PS X st (fun D σ H => t D σ H ∨ t' D σ H) := ⟨fun pins s σ H D I q => q.elim (h.run pins s σ H D I) (h'.run pins s σ H D I)⟩
theorem wk_keys {K : PySem.W.Frag} {d : Addr} {o : Obj} {ks : List Key} {vs : List V} {pd : Pds} {kp : Hp} (hl : ks.length = vs.length) (ok : ks.all keyOk = true) (hk : kp d = some (.frz o (.dK (ks.zip vs)))) : Wk K (Itk d o (ks.zip vs)) (ks.map keyV) pd kp := by
  constructor
  · intro G H σ ρ pd' i p sb kk R1 hp
    have hd := R1.keep d _ (kk d _ hk)
    rw [List.getElem?_map] at hp
    cases e : ks[i]? with
    | none => rw [e] at hp; cases hp
    | some k =>
      rw [e] at hp; cases hp
      have l : i < ks.length := (List.getElem?_eq_some_iff.mp e).1
      refine ⟨⟨hd, by rw [zip_len hl]; exact l⟩, fun x H' y => ?_⟩
      obtain ⟨rfl, k', v, e2, rfl⟩ := y
      rw [List.getElem?_zip_eq_some] at e2
      rw [e] at e2
      obtain ⟨e3, _⟩ := e2
      have okk := List.all_eq_true.mp ok k (List.mem_of_getElem? e)
      cases e3
      exact R1.push (keyV_is okk)
  · intro G H σ ρ pd' i sb kk R1 hp
    refine ⟨R1.keep d _ (kk d _ hk), ?_⟩
    rw [zip_len hl]
    simpa using hp
/-- the dict at a slot -/
def dicAt (ρ : En) (i : Nat) : Option (List Key × List PV) := match ρ[i]? with
  | some (.val (.dic ks ps)) => some (ks, ps)
  | _ => none
def qLcK (i : Nat) (g : QTG) (tt : QTT) (te : QT) (vs : List Nat) (ρ : En) (Q : PK1) : Prop := match dicAt ρ i with
  | some (ks, _) => notIos ρ vs ∧ lcR g tt te vs (ks.map keyV) (wipeE ρ vs) Q .mk
  | none => False
def qForK (i : Nat) (g : QTG) (body : QTS) (D : PEnds) (ρ : En) : Prop := match dicAt ρ i with
  | some (ks, _) => forGo g body D (ks.map keyV) ρ
  | none => False
theorem dicAt_is {K : PySem.W.Frag} {G : Gd} {H : Hp} {σ : L2.St} {ρ : En} {pd : Pds} {i : Nat} {ks : List Key} {ps : List PV} (R1 : RE K G H σ ρ pd) (e : dicAt ρ i = some (ks, ps)) :
    ∃ d vs, σ[i]? = some (some (V.ref d)) ∧ ¬ WS G σ ρ d ∧ Rd H d (.dK (ks.zip vs)) ∧ ks.length = vs.length ∧ ks.all keyOk = true := by
  unfold dicAt at e
  split at e
  · rename_i ks' ps' e1
    cases e
    obtain ⟨v, e2, a, vs, e3, n, r, l, ok, _⟩ := R1.val i _ e1
    subst e3
    exact ⟨a, vs, e2, n, r, l, ok⟩
  · cases e
section
variable {X : Cx} {elt tg : Expr} {ifs : List Expr} {scope : Scope} {own : List (Str × Nat)} {pos npos : Pos} {g : QTG} {tt : QTT} {te : QT} {sl : List Nat} {x : Str}
theorem rz_lcK {g1 : TG} {t1 : TT} {e1 : TE} {vs : List Nat} {i : Nat} (q2 : RzG X.K g1 sl g) (q3 : RzT X.K t1 tt) (q4 : Rz X.K e1 te) (hs : ∀ i ∈ sl, i ∈ vs) :
    Rz X.K (fun σ H Q => tLockE (tLc (iKeys (tVar i)) g1 t1 e1 vs) σ H Q ∨ tLc (iKeys (tVar i)) g1 t1 e1 vs σ H Q) (qLcK i g tt te vs) := by
  intro G H σ ρ pd Q F R1 h f
  unfold qLcK at h
  cases e : dicAt ρ i with
  | none => rw [e] at h; exact h.elim
  | some kp =>
    obtain ⟨ks, ps⟩ := kp
    rw [e] at h
    obtain ⟨nio, go⟩ := h
    obtain ⟨d, us, e2, n, r, hl, ok⟩ := dicAt_is R1 e
    rcases r with r | ⟨o, r⟩
    · refine .inl ⟨d, _, r, trivial, fun od => ?_⟩
      have R2 := R1.lock (o := od) n r
      refine ⟨.ref d, e2, d, od, rfl, .inl ⟨_, upd_same, ?_⟩⟩
      have kd : ∀ u, G.keep d = some u → u = .dK (ks.zip us) := fun u eu => by have := R1.keep d u eu; rw [r] at this; cases this; rfl
      refine lc_walk (F := fun v H' => H' d = some (.frz od (.dK (ks.zip us))) ∧ F v (upd H' d (.dK (ks.zip us)))) q2 q3 q4 hs (pd1 := pd) (fun _ hx => hx) R2 (wk_keys hl ok upd_same) nio go fun r ρ' v H' s hq => ?_
      obtain ⟨h1, s'⟩ := s.unlock kd R1.exk
      exact ⟨h1, f r ρ' v _ s' hq⟩
    · refine .inr ⟨.ref d, e2, d, o, rfl, .inl ⟨_, r, ?_⟩⟩
      by_cases hk : G.keep d = some (.frz o (.dK (ks.zip us)))
      · exact lc_walk q2 q3 q4 hs (pd1 := pd) (fun _ hx => hx) R1 (wk_keys hl ok hk) nio go f
      · have kn : G.keep d = none := by
          cases eq : G.keep d with
          | none => rfl
          | some u => have := R1.keep d u eq; rw [r] at this; cases this; exact absurd eq hk
        have R2 : RE X.K (G.lk d (.frz o (.dK (ks.zip us)))) H σ ρ pd := by
          refine ⟨R1.len, R1.val, fun j b p e => ?_, R1.inj, R1.io, fun b u e => ?_, fun b w => ?_, R1.pd⟩
          · obtain ⟨a, e1, k, rest⟩ := R1.own j b p e
            have ne : a ≠ d := fun z => n (by rw [← z]; exact .inr ⟨j, b, p, e, e1⟩)
            exact ⟨a, e1, by show upd G.keep d _ a = none; rw [upd_ne ne]; exact k, rest⟩
          · have e' : upd G.keep d (.frz o (.dK (ks.zip us))) b = some u := e
            by_cases z : b = d
            · rw [z] at e' ⊢; rw [upd_same] at e'; rw [r]; exact e'
            · rw [upd_ne z] at e'; exact R1.keep b u e'
          · obtain ⟨u, e1, m1⟩ := R1.exk b w
            have ne : b ≠ d := fun z => n (by rw [← z]; exact .inl w)
            exact ⟨u, by show upd G.keep d _ b = some u; rw [upd_ne ne]; exact e1, m1⟩
        refine lc_walk q2 q3 q4 hs (pd1 := pd) (fun _ hx => hx) R2 (wk_keys hl ok upd_same) nio go fun r ρ' v H' s hq => ?_
        refine f r ρ' v H' ?_ hq
        have dn : ∀ {H' : Hp} {σ : L2.St} {ρ : En} {pd : Pds} {G : Gd}, G.keep d = none → RE X.K (G.lk d (.frz o (.dK (ks.zip us)))) H' σ ρ pd → RE X.K G H' σ ρ pd := fun {H' σ ρ pd G} kn R => by
          refine ⟨R.len, R.val, fun j b p e => ?_, R.inj, R.io, fun b u e => ?_, fun b w => ?_, R.pd⟩
          · obtain ⟨a, e1, k, rest⟩ := R.own j b p e
            have k' : upd G.keep d (.frz o (.dK (ks.zip us))) a = none := k
            by_cases z : a = d
            · rw [z, upd_same] at k'; cases k'
            · rw [upd_ne z] at k'; exact ⟨a, e1, k', rest⟩
          · have ne : b ≠ d := fun z => by rw [z, kn] at e; cases e
            exact R.keep b u (by show upd G.keep d _ b = some u; rw [upd_ne ne]; exact e)
          · obtain ⟨u, e1, m1⟩ := R.exk b w
            have e' : upd G.keep d (.frz o (.dK (ks.zip us))) b = some u := e1
            by_cases z : b = d
            · rw [z, upd_same] at e'; cases e'; exact m1.elim
            · rw [upd_ne z] at e'; exact ⟨u, e', m1⟩
        cases r with
        | pv p => exact dn kn s
        | sl j => exact ⟨dn kn s.1, s.2⟩
        | fr p =>
          obtain ⟨a, u, e1, na, _, R3, w⟩ := s
          have n' : upd G.keep d (.frz o (.dK (ks.zip us))) a = none := na
          have ne : a ≠ d := fun z => by rw [z, upd_same] at n'; cases n'
          rw [upd_ne ne] at n'
          have eg : (G.lk d (.frz o (.dK (ks.zip us)))).add a u = (G.add a u).lk d (.frz o (.dK (ks.zip us))) := lk_add ne
          rw [eg] at R3 w
          exact ⟨a, u, e1, n', R1.exk, dn (G := G.add a u) (by show upd G.keep a u d = none; rw [upd_ne ne.symm]; exact kn) R3, w⟩
theorem qe_lcK (i : Nat) (hc : X.calm = true) (hN : X.N.Nodup) (ok : BlkOk X.N X.env.scope scope own) (hg : ∀ c, QG (blkX X scope c) tg sl g) (ht : ∀ c, QCs (blkX X scope c) ifs tt) (he : ∀ c, QE (blkX X scope c) elt te)
    (hs : ∀ i ∈ sl, i ∈ own.map (·.2) := by decide) (hNx : X.N[i]? = some x := by rfl) (hv : Vis X.env.scope x := by first | exact Or.inl rfl | exact Or.inr (Or.inl rfl) | exact Or.inr (Or.inr rfl)) (hd : (x == ("__debug__" : Str)) = false := by decide)
    (hcd : (x == ("__classdict__" : Str)) = false := by decide) (hf : ∀ y, foldedSetIterable (.Name x npos) X.env y = pure y := by intro _; rfl) {vs : List Nat} (hvs : vs = own.map (·.2) := by rfl) : QE X (.ListComp elt [⟨tg, .Name x npos, ifs, 0⟩] scope pos) (qLcK i g tt te vs) := by
  subst hvs
  obtain ⟨g1, p2, q2⟩ := QG.all (X := blkX X scope) (K := X.K) (fun _ => rfl) hg
  obtain ⟨t1, p3, q3⟩ := QCs.all (X := blkX X scope) (K := X.K) (fun _ => rfl) ht
  obtain ⟨e1, p4, q4⟩ := QE.all (X := blkX X scope) (K := X.K) (fun _ => rfl) he
  have base := pe_lc (pos := pos) hc hN (pi_keys (pe_var (pos := npos) hNx hv hd hcd)) ok (fun s H C cl fp => p2 (s, H, C, cl, fp)) (fun s H C cl fp => p3 (s, H, C, cl, fp)) (fun s H C cl fp => p4 (s, H, C, cl, fp)) hf
  exact ⟨_, pe_either (pe_lock base) base, rz_lcK q2 q3 q4 hs⟩
/-- for x in d -/
theorem endsLock {K : PySem.W.Frag} {G : Gd} {pd : Pds} {D' : PEnds} {D : Ends} {d : Addr} {o : Obj} {kvs : List (Key × V)} (kd : ∀ u, G.keep d = some u → u = .dK kvs) (kx : exkOk G) (e : EndsOk K G pd D' D) :
    EndsOk K (G.lk d (.frz o (.dK kvs))) pd D' ⟨fun σ' H' => H' d = some (.frz o (.dK kvs)) ∧ D.nx σ' (upd H' d (.dK kvs)), fun v H' => H' d = some (.frz o (.dK kvs)) ∧ D.rt v (upd H' d (.dK kvs)), fun σ' H' => H' d = some (.frz o (.dK kvs)) ∧ D.bk σ' (upd H' d (.dK kvs)), fun σ' H' => H' d = some (.frz o (.dK kvs)) ∧ D.ct σ' (upd H' d (.dK kvs))⟩ := by
  refine ⟨fun σ ρ H R h => ?_, fun r v σ ρ H R h => ?_, fun σ ρ H R h => ?_, fun σ ρ H R h => ?_⟩
  · obtain ⟨h1, R2⟩ := R.unlock kd; exact ⟨h1, e.nx σ ρ _ R2 h⟩
  · obtain ⟨h1, R2⟩ := R.unlock kd kx; exact ⟨h1, e.rt r v σ ρ _ R2 h⟩
  · obtain ⟨h1, R2⟩ := R.unlock kd; exact ⟨h1, e.bk σ ρ _ R2 h⟩
  · obtain ⟨h1, R2⟩ := R.unlock kd; exact ⟨h1, e.ct σ ρ _ R2 h⟩
/-- the dict must not be locked already -/
theorem qs_forK (i : Nat) {body : List Stmt} {t : QTS} (hp : PassesOwn (model X.prog X.w) X.A X.env X.xe) (hc : X.calm = true) (hg : QG X tg sl g) (hb : QSs X body t)
    (hNx : X.N[i]? = some x := by rfl) (hv : Vis X.env.scope x := by first | exact Or.inl rfl | exact Or.inr (Or.inl rfl) | exact Or.inr (Or.inr rfl)) (hd : (x == ("__debug__" : Str)) = false := by decide)
    (hcd : (x == ("__classdict__" : Str)) = false := by decide) (hf : ∀ y, foldedSetIterable (.Name x npos) X.env y = pure y := by intro _; rfl) : QS X (.For tg (.Name x npos) body [] pos) (qForK i g t) := by
  obtain ⟨g1, p2, q2⟩ := hg.ex
  obtain ⟨t1, p3, q3⟩ := hb.ex
  have base := ps_for (pos := pos) hp hc (pi_keys (pe_var (pos := npos) hNx hv hd hcd)) p2 p3 hf
  refine ⟨_, ps_either (ps_lock base) base, fun G H σ ρ pd D' D R1 h ee => ?_⟩
  unfold qForK at h
  cases e : dicAt ρ i with
  | none => rw [e] at h; exact h.elim
  | some kp =>
    obtain ⟨ks, ps⟩ := kp
    rw [e] at h
    obtain ⟨d, us, e2, n, r, hl, ok⟩ := dicAt_is R1 e
    rcases r with r | ⟨o, r⟩
    · refine .inl ⟨d, _, r, trivial, fun od => ?_⟩
      have R2 := R1.lock (o := od) n r
      have kd : ∀ u, G.keep d = some u → u = .dK (ks.zip us) := fun u eu => by have := R1.keep d u eu; rw [r] at this; cases this; rfl
      refine ⟨.ref d, e2, d, od, rfl, .inl ⟨_, upd_same, ?_⟩⟩
      exact for_walk q2 q3 (pd1 := pd) (fun _ hx => hx) R2 (wk_keys hl ok upd_same) h (endsLock kd R1.exk ee)
    · refine .inr ⟨.ref d, e2, d, o, rfl, .inl ⟨_, r, ?_⟩⟩
      have dn : ∀ {H' : Hp} {σ : L2.St} {ρ : En} {pd : Pds} {G : Gd}, G.keep d = none → RE X.K (G.lk d (.frz o (.dK (ks.zip us)))) H' σ ρ pd → RE X.K G H' σ ρ pd := fun {H' σ ρ pd G} kn R => by
        refine ⟨R.len, R.val, fun j b p e => ?_, R.inj, R.io, fun b u e => ?_, fun b w => ?_, R.pd⟩
        · obtain ⟨a, e1, k, rest⟩ := R.own j b p e
          have k' : upd G.keep d (.frz o (.dK (ks.zip us))) a = none := k
          by_cases z : a = d
          · rw [z, upd_same] at k'; cases k'
          · rw [upd_ne z] at k'; exact ⟨a, e1, k', rest⟩
        · have ne : b ≠ d := fun z => by rw [z, kn] at e; cases e
          exact R.keep b u (by show upd G.keep d _ b = some u; rw [upd_ne ne]; exact e)
        · obtain ⟨u, e1, m1⟩ := R.exk b w
          have e' : upd G.keep d (.frz o (.dK (ks.zip us))) b = some u := e1
          by_cases z : b = d
          · rw [z, upd_same] at e'; cases e'; exact m1.elim
          · rw [upd_ne z] at e'; exact ⟨u, e', m1⟩
      by_cases hk : G.keep d = some (.frz o (.dK (ks.zip us)))
      · exact for_walk q2 q3 (pd1 := pd) (fun _ hx => hx) R1 (wk_keys hl ok hk) h ee
      · have kn : G.keep d = none := by
          cases eq : G.keep d with
          | none => rfl
          | some u => have := R1.keep d u eq; rw [r] at this; cases this; exact absurd eq hk
        have R2 : RE X.K (G.lk d (.frz o (.dK (ks.zip us)))) H σ ρ pd := by
          refine ⟨R1.len, R1.val, fun j b p e => ?_, R1.inj, R1.io, fun b u e => ?_, fun b w => ?_, R1.pd⟩
          · obtain ⟨a, e1, k, rest⟩ := R1.own j b p e
            have ne : a ≠ d := fun z => n (by rw [← z]; exact .inr ⟨j, b, p, e, e1⟩)
            exact ⟨a, e1, by show upd G.keep d _ a = none; rw [upd_ne ne]; exact k, rest⟩
          · have e' : upd G.keep d (.frz o (.dK (ks.zip us))) b = some u := e
            by_cases z : b = d
            · rw [z] at e' ⊢; rw [upd_same] at e'; rw [r]; exact e'
            · rw [upd_ne z] at e'; exact R1.keep b u e'
          · obtain ⟨u, e1, m1⟩ := R1.exk b w
            have ne : b ≠ d := fun z => n (by rw [← z]; exact .inl w)
            exact ⟨u, by show upd G.keep d _ b = some u; rw [upd_ne ne]; exact e1, m1⟩
        refine for_walk q2 q3 (pd1 := pd) (fun _ hx => hx) R2 (wk_keys hl ok upd_same) h ⟨fun σ ρ H R h => ee.nx σ ρ H (dn kn R) h, fun r v σ ρ H s h => ee.rt r v σ ρ H ?_ h, fun σ ρ H R h => ee.bk σ ρ H (dn kn R) h, fun σ ρ H R h => ee.ct σ ρ H (dn kn R) h⟩
        cases r with
        | pv p => exact dn kn s
        | sl j => exact ⟨dn kn s.1, s.2⟩
        | fr p =>
          obtain ⟨a, u, e1, na, _, R3, w⟩ := s
          have n' : upd G.keep d (.frz o (.dK (ks.zip us))) a = none := na
          have ne : a ≠ d := fun z => by rw [z, upd_same] at n'; cases n'
          rw [upd_ne ne] at n'
          have eg : (G.lk d (.frz o (.dK (ks.zip us)))).add a u = (G.add a u).lk d (.frz o (.dK (ks.zip us))) := lk_add ne
          rw [eg] at R3 w
          exact ⟨a, u, e1, n', R1.exk, dn (G := G.add a u) (by show upd G.keep a u d = none; rw [upd_ne ne.symm]; exact kn) R3, w⟩
end
/-! ### zip and enumerate walked -/
section
variable {X : Cx} {a b e : Expr} {es elts : List Expr} {tr : QTA} {te : QT} {p pos tpos : Pos} {kk : Nat}
theorem zipP_get {ps : List PV} : ∀ {qs : List PV} {i : Nat} {z : PV}, (zipP ps qs)[i]? = some z → ∃ p q, ps[i]? = some p ∧ qs[i]? = some q ∧ z = .tup [p, q] := by
  induction ps with
  | nil => intro qs i z h; unfold zipP at h; simp at h
  | cons p ps ih =>
    intro qs i z h
    cases qs with
    | nil => unfold zipP at h; simp at h
    | cons q qs =>
      cases i with
      | zero => unfold zipP at h; simp at h; exact ⟨p, q, rfl, rfl, h.symm⟩
      | succ i =>
        rw [zipP, List.getElem?_cons_succ] at h
        obtain ⟨p', q', h1, h2, h3⟩ := ih h
        exact ⟨p', q', by simpa using h1, by simpa using h2, h3⟩
theorem zipP_len : ∀ (ps qs : List PV), (zipP ps qs).length = min ps.length qs.length
  | [], qs => by unfold zipP; simp
  | p :: ps, [] => by unfold zipP; simp
  | p :: ps, q :: qs => by unfold zipP; rw [List.length_cons, zipP_len ps qs]; simp only [List.length_cons]; omega
theorem wk_zipL {K : PySem.W.Frag} {a b : Addr} {ps qs : List PV} {pd : Pds} {kp : Hp} (h1 : (PV.lst ps, V.ref a) ∈ pd) (h2 : (PV.lst qs, V.ref b) ∈ pd) : Wk K (Itz K a b) (zipP ps qs) pd kp := by
  constructor
  · intro G H σ ρ pd' i p s _ R1 hp
    obtain ⟨c, vs, e, n, hc, q⟩ : ∃ b vs, V.ref a = .ref b ∧ ¬ WS G σ ρ b ∧ H b = some (.lst vs) ∧ Iss K H (WS G σ ρ) ps vs := R1.pd _ (s _ h1)
    cases e
    obtain ⟨c, us, e, n, hd, q2⟩ : ∃ c vs, V.ref b = .ref c ∧ ¬ WS G σ ρ c ∧ H c = some (.lst vs) ∧ Iss K H (WS G σ ρ) qs vs := R1.pd _ (s _ h2)
    cases e
    obtain ⟨x, y, ex, ey, rfl⟩ := zipP_get hp
    obtain ⟨v, hv, iv⟩ := q.getP ex
    obtain ⟨u, hu, iu⟩ := q2.getP ey
    refine ⟨⟨vs, us, v, u, .inl (.inl hc), .inl (.inl hd), hv, hu⟩, fun z H' yl => ?_⟩
    obtain ⟨T, x', y', rfl, nT, rfl, f1, f2⟩ := yl
    have z1 := f1 vs (.inl (.inl hc))
    have z2 := f2 us (.inl (.inl hd))
    rw [hv] at z1; rw [hu] at z2; cases z1; cases z2
    exact (R1.same (same_new nT)).push ⟨T, [v, u], rfl, upd_same, v, [u], rfl, isNew R1.mut iv nT, u, [], rfl, isNew R1.mut iu nT, rfl⟩
  · intro G H σ ρ pd' i s _ R1 hp
    obtain ⟨c, vs, e, n, hc, q⟩ : ∃ b vs, V.ref a = .ref b ∧ ¬ WS G σ ρ b ∧ H b = some (.lst vs) ∧ Iss K H (WS G σ ρ) ps vs := R1.pd _ (s _ h1)
    cases e
    obtain ⟨c, us, e, n, hd, q2⟩ : ∃ c vs, V.ref b = .ref c ∧ ¬ WS G σ ρ c ∧ H c = some (.lst vs) ∧ Iss K H (WS G σ ρ) qs vs := R1.pd _ (s _ h2)
    cases e
    rw [zipP_len] at hp
    exact ⟨vs, us, .inl (.inl hc), .inl (.inl hd), by rw [← q.length, ← q2.length]; omega⟩
theorem wk_zipT {K : PySem.W.Frag} {a b : Addr} {ps qs : List PV} {pd : Pds} {kp : Hp} (h1 : (PV.tup ps, V.ref a) ∈ pd) (h2 : (PV.tup qs, V.ref b) ∈ pd) : Wk K (RZ.ItzT K a b) (zipP ps qs) pd kp := by
  constructor
  · intro G H σ ρ pd' i p s _ R1 hp
    obtain ⟨c, vs, e, hc, q⟩ : ∃ b vs, V.ref a = .ref b ∧ H b = some (.tup vs) ∧ Iss K H (WS G σ ρ) ps vs := R1.pd _ (s _ h1)
    cases e
    obtain ⟨c, us, e, hd, q2⟩ : ∃ c vs, V.ref b = .ref c ∧ H c = some (.tup vs) ∧ Iss K H (WS G σ ρ) qs vs := R1.pd _ (s _ h2)
    cases e
    obtain ⟨x, y, ex, ey, rfl⟩ := zipP_get hp
    obtain ⟨v, hv, iv⟩ := q.getP ex
    obtain ⟨u, hu, iu⟩ := q2.getP ey
    refine ⟨⟨vs, us, v, u, .inl (.inl hc), .inl (.inl hd), hv, hu⟩, fun z H' yl => ?_⟩
    obtain ⟨T, x', y', rfl, nT, rfl, f1, f2⟩ := yl
    have z1 := f1 vs (.inl (.inl hc))
    have z2 := f2 us (.inl (.inl hd))
    rw [hv] at z1; rw [hu] at z2; cases z1; cases z2
    exact (R1.same (same_new nT)).push ⟨T, [v, u], rfl, upd_same, v, [u], rfl, isNew R1.mut iv nT, u, [], rfl, isNew R1.mut iu nT, rfl⟩
  · intro G H σ ρ pd' i s _ R1 hp
    obtain ⟨c, vs, e, hc, q⟩ : ∃ b vs, V.ref a = .ref b ∧ H b = some (.tup vs) ∧ Iss K H (WS G σ ρ) ps vs := R1.pd _ (s _ h1)
    cases e
    obtain ⟨c, us, e, hd, q2⟩ : ∃ c vs, V.ref b = .ref c ∧ H c = some (.tup vs) ∧ Iss K H (WS G σ ρ) qs vs := R1.pd _ (s _ h2)
    cases e
    rw [zipP_len] at hp
    exact ⟨vs, us, .inl (.inl hc), .inl (.inl hd), by rw [← q.length, ← q2.length]; omega⟩
/-- for a, b in zip(xs, ys) -/
def qZipI (t : QTA) (ρ : En) (Q : List PV → En → Prop) : Prop := t ρ fun rs ρ1 => match rs with
  | [.pv (.lst ps), .pv (.lst qs)] => Q (zipP ps qs) ρ1
  | [.pv (.tup ps), .pv (.tup qs)] => Q (zipP ps qs) ρ1
  | _ => False
theorem qi_zip (hm : X.mg "zip" = none) (ha : QA X [a, b] tr) (hg : Gl X "zip" := by rfl) (hs : starEach [a, b] X.env = (false, eval a X.env) :: starEach [b] X.env := by rfl) (hpl : (backTo pos (starEach [b] X.env)).any (·.1) = false := by rfl) : QI X (.Tuple elts kk tpos) (.Call (.Name "zip" p) [a, b] [] pos) (qZipI tr) := by
  obtain ⟨t, p1, q1⟩ := ha.ex
  refine ⟨_, RZ.pi_zipA hg hm p1 hs hpl, fun G H σ ρ pd Q F R1 hw f => ?_⟩
  refine q1 G H σ ρ pd _ _ R1 hw fun rs ρ1 pd1 vs H1 sb R2 ar g => ?_
  match rs, vs, ar, g with
  | [.pv (.lst ps), .pv (.lst qs)], [v, w], .cons h1 (.cons h2 .nil), g =>
    obtain ⟨a, us, e1, _, r1, _⟩ : ∃ a vs, v = .ref a ∧ ¬ WS G σ ρ1 a ∧ H1 a = some (.lst vs) ∧ Iss X.K H1 (WS G σ ρ1) ps vs := R2.pd _ h1
    obtain ⟨b, ws, e2, _, r2, _⟩ : ∃ a vs, w = .ref a ∧ ¬ WS G σ ρ1 a ∧ H1 a = some (.lst vs) ∧ Iss X.K H1 (WS G σ ρ1) qs vs := R2.pd _ h2
    subst e1 e2
    exact ⟨a, b, us, ws, rfl, .inl ⟨.inl (.inl r1), .inl (.inl r2), f _ _ ρ1 pd1 H1 sb R2 (wk_zipL h1 h2) g⟩⟩
  | [.pv (.tup ps), .pv (.tup qs)], [v, w], .cons h1 (.cons h2 .nil), g =>
    obtain ⟨a, us, e1, r1, _⟩ : ∃ a vs, v = .ref a ∧ H1 a = some (.tup vs) ∧ Iss X.K H1 (WS G σ ρ1) ps vs := R2.pd _ h1
    obtain ⟨b, ws, e2, r2, _⟩ : ∃ a vs, w = .ref a ∧ H1 a = some (.tup vs) ∧ Iss X.K H1 (WS G σ ρ1) qs vs := R2.pd _ h2
    subst e1 e2
    exact ⟨a, b, us, ws, rfl, .inr ⟨.inl (.inl r1), .inl (.inl r2), f _ _ ρ1 pd1 H1 sb R2 (wk_zipT h1 h2) g⟩⟩
end
end Px
namespace Px
open PySem L2 PyProof.Rows
/-- nothing in it can be changed, but itself -/
def immO : PV → Bool
  | .lst ps => imms ps
  | .dic _ ps => imms ps
  | _ => true
theorem OwnO.immO {K : PySem.W.Frag} {H : Hp} {W W' : Addr → Prop} {p : PV} {o : HO} (h : OwnO K H W p o) (i : immO p = true) : OwnO K H W' p o := by
  cases p <;> cases o <;> first
    | exact h.elim
    | exact Iss.imm _ _ i h
    | (obtain ⟨vs, e, l, kk, q⟩ := h; exact ⟨vs, e, l, kk, Iss.imm _ _ i q⟩)
def Bo (σ : L2.St) (bs : List Nat) (b : Addr) : Prop := ∃ j ∈ bs, σ[j]? = some (some (V.ref b))
/-- the arguments, one by one: a value, a slot's own that is looked at alone, or the j-th slot that is handed on -/
inductive SplB (σ : L2.St) (ρ : En) (pd : Pds) : List Bool → List V → List PV → List Nat → List Nat → Prop where
  | nil : SplB σ ρ pd [] [] [] [] []
  | val {fs : List Bool} {v : V} {vs : List V} {p : PV} {ps : List PV} {js bs : List Nat} (h : (p, v) ∈ pd) (t : SplB σ ρ pd fs vs ps js bs) : SplB σ ρ pd (false :: fs) (v :: vs) (p :: ps) js bs
  | bor {fs : List Bool} {v : V} {vs : List V} {p : PV} {ps : List PV} {j : Nat} {js bs : List Nat} {b : Bool} (e : ρ[j]? = some (Sl.own b p)) (h : σ[j]? = some (some v)) (t : SplB σ ρ pd fs vs ps js bs) : SplB σ ρ pd (false :: fs) (v :: vs) (p :: ps) js (j :: bs)
  | own {fs : List Bool} {v : V} {vs : List V} {p : PV} {ps : List PV} {j : Nat} {js bs : List Nat} {b : Bool} (e : ρ[j]? = some (Sl.own b p)) (h : σ[j]? = some (some v)) (t : SplB σ ρ pd fs vs ps js bs) : SplB σ ρ pd (true :: fs) (v :: vs) (p :: ps) (j :: js) bs
def splitB (ρ : En) : List Bool → List R → Option (List PV × List Nat × List Nat)
  | [], [] => some ([], [], [])
  | false :: fs, .pv p :: rs => match splitB ρ fs rs with
    | some (ps, js, bs) => some (p :: ps, js, bs)
    | none => none
  | false :: fs, .sl j :: rs => match ρ[j]?, splitB ρ fs rs with
    | some (Sl.own _ p), some (ps, js, bs) => some (p :: ps, js, j :: bs)
    | _, _ => none
  | true :: fs, .sl j :: rs => match ρ[j]?, splitB ρ fs rs with
    | some (Sl.own _ p), some (ps, js, bs) => some (p :: ps, j :: js, bs)
    | _, _ => none
  | _, _ => none
theorem splB_of {σ : L2.St} {ρ : En} {pd : Pds} : ∀ {fs : List Bool} {rs : List R} {vs : List V} {ps : List PV} {js bs : List Nat}, ArgsR σ pd rs vs → splitB ρ fs rs = some (ps, js, bs) → SplB σ ρ pd fs vs ps js bs
  | [], [], _, _, _, _, a, e => by cases a; cases e; exact .nil
  | [], _ :: _, _, _, _, _, a, e => by simp [splitB] at e
  | false :: fs, [], _, _, _, _, a, e => by simp [splitB] at e
  | true :: fs, [], _, _, _, _, a, e => by simp [splitB] at e
  | false :: fs, r :: rs, _, _, _, _, a, e => by
    cases r with
    | pv p =>
      cases a with
      | cons h t =>
        unfold splitB at e
        cases e1 : splitB ρ fs rs with
        | none => rw [e1] at e; cases e
        | some x => rw [e1] at e; cases e; exact .val h (splB_of t e1)
    | sl j =>
      cases a with
      | cons h t =>
        unfold splitB at e
        cases e2 : ρ[j]? with
        | none => rw [e2] at e; simp at e
        | some s =>
          rw [e2] at e
          cases s with
          | own b p =>
            cases e1 : splitB ρ fs rs with
            | none => rw [e1] at e; simp at e
            | some x => rw [e1] at e; cases e; exact .bor e2 h (splB_of t e1)
          | _ => simp at e
    | _ => simp [splitB] at e
  | true :: fs, r :: rs, _, _, _, _, a, e => by
    cases r with
    | sl j =>
      cases a with
      | cons h t =>
        unfold splitB at e
        cases e2 : ρ[j]? with
        | none => rw [e2] at e; simp at e
        | some s =>
          rw [e2] at e
          cases s with
          | own b p =>
            cases e1 : splitB ρ fs rs with
            | none => rw [e1] at e; simp at e
            | some x => rw [e1] at e; cases e; exact .own e2 h (splB_of t e1)
          | _ => simp at e
    | _ => simp [splitB] at e
theorem SplB.len {σ : L2.St} {ρ : En} {pd : Pds} {fs : List Bool} {vs : List V} {ps : List PV} {js bs : List Nat} (s : SplB σ ρ pd fs vs ps js bs) : vs.length = fs.length ∧ ps.length = fs.length ∧ js.length = (fs.filter id).length := by
  induction s with
  | nil => exact ⟨rfl, rfl, rfl⟩
  | val _ _ ih => exact ⟨by simp [ih.1], by simp [ih.2.1], by simp [ih.2.2]⟩
  | bor _ _ _ ih => exact ⟨by simp [ih.1], by simp [ih.2.1], by simp [ih.2.2]⟩
  | own _ _ _ ih => exact ⟨by simp [ih.1], by simp [ih.2.1], by simp [ih.2.2]⟩
theorem SplB.get {σ : L2.St} {ρ : En} {pd : Pds} {fs : List Bool} {vs : List V} {ps : List PV} {js bs : List Nat} (s : SplB σ ρ pd fs vs ps js bs) : ∀ {i : Nat} {b : Bool} {p : PV}, fs[i]? = some b → ps[i]? = some p → ∃ v, vs[i]? = some v ∧
    (b = false → (p, v) ∈ pd ∨ ∃ (j : Nat) (c : Bool), j ∈ bs ∧ ρ[j]? = some (Sl.own c p) ∧ σ[j]? = some (some v)) ∧ (b = true → ∃ (j : Nat) (c : Bool), j ∈ js ∧ ρ[j]? = some (Sl.own c p) ∧ σ[j]? = some (some v)) := by
  induction s with
  | nil => intro i b p e; simp at e
  | val h t ih =>
    intro i b p e1 e2
    cases i with
    | zero => cases e1; cases e2; exact ⟨_, rfl, fun _ => .inl h, (fun z => nomatch z)⟩
    | succ i => simpa using ih (i := i) (by simpa using e1) (by simpa using e2)
  | bor e h t ih =>
    intro i b p e1 e2
    cases i with
    | zero => cases e1; cases e2; exact ⟨_, rfl, fun _ => .inr ⟨_, _, List.mem_cons_self, e, h⟩, (fun z => nomatch z)⟩
    | succ i =>
      obtain ⟨v, h1, h2, h3⟩ := ih (i := i) (by simpa using e1) (by simpa using e2)
      refine ⟨v, by simpa using h1, fun z => ?_, h3⟩
      rcases h2 z with h2 | ⟨j, c, m, r⟩
      · exact .inl h2
      · exact .inr ⟨j, c, List.mem_cons_of_mem _ m, r⟩
  | own e h t ih =>
    intro i b p e1 e2
    cases i with
    | zero => cases e1; cases e2; exact ⟨_, rfl, (fun z => nomatch z), fun _ => ⟨_, _, List.mem_cons_self, e, h⟩⟩
    | succ i =>
      obtain ⟨v, h1, h2, h3⟩ := ih (i := i) (by simpa using e1) (by simpa using e2)
      exact ⟨v, by simpa using h1, h2, fun z => let ⟨j, c, m, r⟩ := h3 z; ⟨j, c, List.mem_cons_of_mem _ m, r⟩⟩
/-- the k-th owned slot and its parameter -/
theorem SplB.io {σ : L2.St} {ρ : En} {pd : Pds} {fs : List Bool} {vs : List V} {ps : List PV} {js bs : List Nat} (s : SplB σ ρ pd fs vs ps js bs) : ∀ {outs : List PV} {k j : Nat} {q : PV}, js[k]? = some j → outs[k]? = some q → ∃ (i : Nat) (v : V), fs[i]? = some true ∧ vs[i]? = some v ∧ σ[j]? = some (some v) ∧ (sel fs outs)[i]? = some (some q) := by
  induction s with
  | nil => intro outs k j q e; simp at e
  | val h t ih =>
    intro outs k j q e1 e2
    obtain ⟨i, v, h1, h2, h3, h4⟩ := ih e1 e2
    exact ⟨i + 1, v, by simpa using h1, by simpa using h2, h3, by simpa [sel] using h4⟩
  | bor _ h t ih =>
    intro outs k j q e1 e2
    obtain ⟨i, v, h1, h2, h3, h4⟩ := ih e1 e2
    exact ⟨i + 1, v, by simpa using h1, by simpa using h2, h3, by simpa [sel] using h4⟩
  | own e h t ih =>
    intro outs k j q e1 e2
    cases outs with
    | nil => simp at e2
    | cons o outs =>
      cases k with
      | zero => cases e1; cases e2; exact ⟨0, _, rfl, rfl, h, rfl⟩
      | succ k =>
        obtain ⟨i, v, h1, h2, h3, h4⟩ := ih (outs := outs) (k := k) (by simpa using e1) (by simpa using e2)
        exact ⟨i + 1, v, by simpa using h1, by simpa using h2, h3, by simpa [sel] using h4⟩
theorem SplB.js {σ : L2.St} {ρ : En} {pd : Pds} {fs : List Bool} {vs : List V} {ps : List PV} {js bs : List Nat} (s : SplB σ ρ pd fs vs ps js bs) : ∀ j ∈ js, ∃ b p, ρ[j]? = some (Sl.own b p) := by
  induction s with
  | nil => intro j hj; simp at hj
  | val _ _ ih => exact ih
  | bor _ _ _ ih => exact ih
  | own e _ _ ih =>
    intro j hj
    rcases List.mem_cons.mp hj with rfl | hj
    · exact ⟨_, _, e⟩
    · exact ih j hj
/-- slot and place apart -/
theorem SplB.same {K : PySem.W.Frag} {G : Gd} {H : Hp} {σ : L2.St} {ρ : En} {pd pd0 : Pds} (R1 : RE K G H σ ρ pd0) {fs : List Bool} {vs : List V} {ps : List PV} {js bs : List Nat} (s : SplB σ ρ pd fs vs ps js bs) (nd : js.Nodup) : ∀ {i j : Nat} {a : Addr}, fs[i]? = some true → fs[j]? = some true → vs[i]? = some (V.ref a) → vs[j]? = some (V.ref a) → i = j := by
  induction s with
  | nil => intro i j a e; simp at e
  | val h t ih =>
    intro i j a e1 e2 e3 e4
    cases i with
    | zero => simp at e1
    | succ i =>
      cases j with
      | zero => simp at e2
      | succ j => rw [ih nd (i := i) (j := j) (by simpa using e1) (by simpa using e2) (by simpa using e3) (by simpa using e4)]
  | bor _ h t ih =>
    intro i j a e1 e2 e3 e4
    cases i with
    | zero => simp at e1
    | succ i =>
      cases j with
      | zero => simp at e2
      | succ j => rw [ih nd (i := i) (j := j) (by simpa using e1) (by simpa using e2) (by simpa using e3) (by simpa using e4)]
  | @own fs v vs p ps m js bs b e h t ih =>
    intro i j a e1 e2 e3 e4
    have back : ∀ {i : Nat} {a : Addr}, fs[i]? = some true → vs[i]? = some (V.ref a) → v = .ref a → False := fun {i a} f1 f2 f3 => by
      obtain ⟨l1, l2, _⟩ := t.len
      have li : i < ps.length := by rw [l2]; exact (List.getElem?_eq_some_iff.mp f1).1
      obtain ⟨v', g1, _, g2⟩ := t.get f1 (List.getElem?_eq_getElem li)
      obtain ⟨j', c, mj, g3, g4⟩ := g2 rfl
      rw [f2] at g1; cases g1
      subst f3
      have z := R1.inj m j' b c _ _ a e g3 h g4
      exact (List.nodup_cons.mp nd).1 (by rw [z]; exact mj)
    cases i with
    | zero =>
      cases j with
      | zero => rfl
      | succ j =>
        simp at e3
        exact (back (by simpa using e2) (by simpa using e4) e3).elim
    | succ i =>
      cases j with
      | zero =>
        simp at e4
        exact (back (by simpa using e1) (by simpa using e3) e4).elim
      | succ j => rw [ih (List.nodup_cons.mp nd).2 (i := i) (j := j) (by simpa using e1) (by simpa using e2) (by simpa using e3) (by simpa using e4)]
section
variable {K : PySem.W.Frag} {G : Gd} {H H' : Hp} {σ : L2.St} {ρ : En} {pd : Pds} {S : FS} {vs : List V} {ps : List PV} {js bs : List Nat}
/-- the callee's start -/
theorem callB_start (R1 : RE K G H σ ρ pd) (s : SplB σ ρ pd S.io vs ps js bs) (nd : js.Nodup) (dj : ∀ j ∈ bs, j ∉ js) : RE K (G0 H S.io vs fun b => WS G σ ρ b ∧ ¬ Iob S.io vs b ∧ ¬ Bo σ bs b) H (vs.map some) (mk S.io ps) [] ∧ ∀ b, Iob S.io vs b → WS G σ ρ b := by
  obtain ⟨l1, l2, l3⟩ := s.len
  have iob : ∀ b, Iob S.io vs b → WS G σ ρ b := fun b ⟨i, e1, e2⟩ => by
    have li : i < ps.length := by rw [l2]; exact (List.getElem?_eq_some_iff.mp e1).1
    obtain ⟨v, g1, _, g2⟩ := s.get e1 (List.getElem?_eq_getElem li)
    obtain ⟨j, c, mj, g3, g4⟩ := g2 rfl
    rw [e2] at g1; cases g1
    exact .inr ⟨j, c, _, g3, g4⟩
  have sub : ∀ b, WS (G0 H S.io vs fun b => WS G σ ρ b ∧ ¬ Iob S.io vs b ∧ ¬ Bo σ bs b) (vs.map some) (mk S.io ps) b → WS G σ ρ b := fun b w => by
    rcases w with w | ⟨i, c, p, e1, e2⟩
    · exact w.1
    · obtain ⟨f1, f2, rfl⟩ := mk_own e1
      refine iob b ⟨i, f1, ?_⟩
      rw [List.getElem?_map] at e2
      cases e : vs[i]? with
      | none => rw [e] at e2; simp at e2
      | some v => rw [e] at e2; simp at e2; rw [e2]
  have vget : ∀ {i : Nat} {v : V}, vs[i]? = some v → (vs.map some)[i]? = some (some v) := fun {i v} e => by rw [List.getElem?_map, e]; rfl
  have vback : ∀ {i : Nat} {v : V}, (vs.map some)[i]? = some (some v) → vs[i]? = some v := fun {i v} e => by
    rw [List.getElem?_map] at e
    cases q : vs[i]? with
    | none => rw [q] at e; simp at e
    | some u => rw [q] at e; simp at e; rw [e]
  refine ⟨⟨?_, fun i p e => ?_, fun i b p e => ?_, fun i j b c p q a e1 e2 e3 e4 => ?_, fun i a h => ?_, fun b o e => ?_, fun b h => ?_, fun x hx => by simp at hx⟩, iob⟩
  · unfold mk; rw [List.length_zipWith, List.length_map, l1, l2]; simp
  · obtain ⟨f1, f2⟩ := mk_val e
    obtain ⟨v, g1, g2, _⟩ := s.get f1 f2
    rcases g2 rfl with g2 | ⟨j, c, mj, g3, g4⟩
    · exact ⟨v, vget g1, Is.anti sub _ _ (R1.pd _ g2)⟩
    · obtain ⟨a, h1, h2, o, h3, w⟩ := R1.own j c p g3
      rw [g4] at h1; cases h1
      refine ⟨_, vget g1, w.is h3 sub fun w' => ?_⟩
      rcases w' with w' | ⟨m, d, q, e1, e2⟩
      · exact w'.2.2 ⟨j, mj, g4⟩
      · obtain ⟨f1, f2, _⟩ := mk_own e1
        obtain ⟨v', k1, _, k2⟩ := s.get f1 f2
        obtain ⟨j', c', mj', k3, k4⟩ := k2 rfl
        have e3 := vback e2
        rw [k1] at e3; cases e3
        exact dj j mj (by rw [R1.inj j j' c c' _ _ _ g3 k3 g4 k4]; exact mj')
  · obtain ⟨f1, f2, rfl⟩ := mk_own e
    obtain ⟨v, g1, _, g2⟩ := s.get f1 f2
    obtain ⟨j, c, mj, g3, g4⟩ := g2 rfl
    obtain ⟨a, h1, h2, o, h3, w⟩ := R1.own j c p g3
    rw [g4] at h1; cases h1
    exact ⟨a, vget g1, G0_no ⟨i, f1, g1⟩, o, h3, w.anti sub⟩
  · obtain ⟨f1, _, _⟩ := mk_own e1
    obtain ⟨f2, _, _⟩ := mk_own e2
    exact s.same R1 nd f1 f2 (vback e3) (vback e4)
  · have li : i < ps.length := by rw [l2]; exact (List.getElem?_eq_some_iff.mp h.1).1
    exact ⟨vget h.2, ps[i], by rw [mk_at h.1 (List.getElem?_eq_getElem li)]; simp⟩
  · exact (G0_of e).2
  · have m := R1.mut b h.1
    obtain ⟨o, e⟩ := R1.there h.1
    exact ⟨o, (G0_yes h.2.1).trans e, by rw [e] at m; exact m⟩
/-- behind it -/
theorem callB_end {pd0 : Pds} {v : V} {r : PV} {outs : List PV} (R1 : RE K G H σ ρ pd) (sb : ∀ x ∈ pd0, x ∈ pd) (s : SplB σ ρ pd S.io vs ps js bs) (nd : js.Nodup) (dj : ∀ j ∈ bs, j ∉ js) (iob : ∀ b, Iob S.io vs b → WS G σ ρ b) (lo : outs.length = js.length) (hf : S.fr = false) (ir : imm r = true) (io : ∀ q ∈ outs, immO q = true)
    (fin : Fin K S H (fun b => WS G σ ρ b ∧ ¬ Iob S.io vs b ∧ ¬ Bo σ bs b) vs v H' r outs) : Res K G H' σ (putOuts js outs ρ) pd0 (.pv r) v := by
  have jo := s.js
  obtain ⟨p1, p2, p3⟩ := putOuts_spec (ρ := ρ) nd lo jo
  have A : Alike ρ (putOuts js outs ρ) := by
    refine ⟨p1, fun i => ?_⟩
    by_cases hi : i ∈ js
    · obtain ⟨k, lk, e⟩ := List.getElem_of_mem hi
      have lk' : k < outs.length := by rw [lo]; exact lk
      obtain ⟨b, p, h1, h2⟩ := p3 k i outs[k] (by rw [List.getElem?_eq_getElem lk, e]) (List.getElem?_eq_getElem lk')
      exact .inr ⟨b, p, _, h1, h2⟩
    · exact .inl (p2 i hi)
  -- an owned slot that is no argument: its object stands
  have stay : ∀ (i : Nat) (b : Bool) (q : PV) (a : Addr), i ∉ js → ρ[i]? = some (Sl.own b q) → σ[i]? = some (some (V.ref a)) → ¬ Iob S.io vs a := fun i b q a hi e1 e2 ⟨m, f1, f2⟩ => by
    obtain ⟨_, l2, _⟩ := s.len
    have lm : m < ps.length := by rw [l2]; exact (List.getElem?_eq_some_iff.mp f1).1
    obtain ⟨v', g1, _, g2⟩ := s.get f1 (List.getElem?_eq_getElem lm)
    obtain ⟨j, c, mj, g3, g4⟩ := g2 rfl
    rw [f2] at g1; cases g1
    exact hi (by rw [R1.inj i j b c q _ a e1 g3 e2 g4]; exact mj)
  have keepG : ∀ b o, G.keep b = some o → H' b = some o := fun b o e => by
    refine fin.keep b o (R1.keep b o e) fun z => ?_
    rcases iob b z with w | ⟨i, c, p, e1, e2⟩
    · obtain ⟨m, f1, f2⟩ := z
      obtain ⟨_, l2, _⟩ := s.len
      have lm : m < ps.length := by rw [l2]; exact (List.getElem?_eq_some_iff.mp f1).1
      obtain ⟨v', g1, _, g2⟩ := s.get f1 (List.getElem?_eq_getElem lm)
      obtain ⟨j, c, mj, g3, g4⟩ := g2 rfl
      rw [f2] at g1; cases g1
      obtain ⟨a, h1, h2, _⟩ := R1.own j c _ g3
      rw [g4] at h1; cases h1
      rw [h2] at e; cases e
    · obtain ⟨a, h1, h2, _⟩ := R1.own i c p e1
      rw [e2] at h1; cases h1
      rw [h2] at e; cases e
  have R2 : RE K G H' σ (putOuts js outs ρ) pd := by
    refine R1.swap A (fun b o e n => fin.keep b o e fun z => n (iob b z)) keepG fun i b q a e1 e2 => ?_
    by_cases hi : i ∈ js
    · obtain ⟨k, lk, e⟩ := List.getElem_of_mem hi
      have lk' : k < outs.length := by rw [lo]; exact lk
      have ek : js[k]? = some i := by rw [List.getElem?_eq_getElem lk, e]
      have eo : outs[k]? = some outs[k] := List.getElem?_eq_getElem lk'
      obtain ⟨b', p, h1, h2⟩ := p3 k i outs[k] ek eo
      rw [e1] at h2; cases h2
      obtain ⟨m, v', g1, g2, g3, g4⟩ := s.io ek eo
      rw [e2] at g3; cases g3
      obtain ⟨o, ho, w⟩ := fin.outs m _ a g4 g2
      exact ⟨o, ho, w.immO (io _ (List.getElem_mem lk'))⟩
    · rw [p2 i hi] at e1
      obtain ⟨c, f1, f2, o, f3, w⟩ := R1.own i b q e1
      rw [e2] at f1; cases f1
      exact ⟨o, fin.keep a o f3 (stay i b q a hi e1 e2), w.move (fun b o e n => fin.keep b o e fun z => n (iob b z)) R1.mut fun _ _ w => w⟩
  exact (R2.push (Is.imm _ _ ir (fin.res hf))).pds fun x hx => by
    rcases List.mem_cons.mp hx with e | hx
    · rw [e]; exact List.mem_cons_self
    · exact List.mem_cons_of_mem _ (sb x hx)
end
/-- a call: own things of the caller may be looked at where a value is asked for; then nothing that could hold them may come back -/
def callRB (S : FS) (rs : List R) (ρ1 : En) (Q : PK1) (_ : Dum Q) : Prop := match splitB ρ1 S.io rs with
  | some (ps, js, []) => js.Nodup ∧ S.pre ps ∧ ∀ r outs, S.post ps r outs → outs.length = js.length → Q (if S.fr = true then .fr r else .pv r) (putOuts js outs ρ1)
  | some (ps, js, bs) => (js.Nodup ∧ (∀ j ∈ bs, j ∉ js) ∧ S.fr = false) ∧ S.pre ps ∧ ∀ r outs, S.post ps r outs → outs.length = js.length → (imm r = true ∧ ∀ q ∈ outs, immO q = true) ∧ Q (.pv r) (putOuts js outs ρ1)
  | none => False
theorem SplB.plain {σ : L2.St} {ρ : En} {pd : Pds} {fs : List Bool} {vs : List V} {ps : List PV} {js bs : List Nat} (s : SplB σ ρ pd fs vs ps js bs) (h : bs = []) : Spl σ ρ pd fs vs ps js := by
  induction s with
  | nil => exact .nil
  | val h1 t ih => exact .val h1 (ih h)
  | bor _ _ _ _ => cases h
  | own e h1 t ih => exact .own e h1 (ih h)
def qCallB (S : FS) (ta : QTA) (ρ : En) (Q : PK1) : Prop := ta ρ fun rs ρ1 => callRB S rs ρ1 Q .mk
section
variable {X : Cx} {k j : Nat} {x : Str} {ps : List Str} {S : FS} {e : Expr} {es : List Expr} {t : QTA} {p pos : Pos}
theorem rz_callB {K : PySem.W.Frag} {ta : TA} {E : XK} (q : RzA K ta t) : Rz K (tCall (spP K S) [] E ta) (qCallB S t) := by
  intro G H σ ρ pd Q F R1 h ff
  refine q G H σ ρ pd _ _ R1 h fun rs ρ1 pd1 vs H1 sb R2 ar g => ?_
  unfold callRB at g
  cases es : splitB ρ1 S.io rs with
  | none => rw [es] at g; exact g.elim
  | some z =>
    obtain ⟨pvs, js, bs⟩ := z
    rw [es] at g
    have s := splB_of ar es
    show spP K S (vs ++ []) H1 F E
    rw [List.append_nil]
    cases bs with
    | nil =>
      obtain ⟨nd, pre, post⟩ := g
      have s' := s.plain rfl
      obtain ⟨R3, iob⟩ := call_start R2 s' nd
      obtain ⟨l1, l2, l3⟩ := s'.len
      refine ⟨pvs, _, l2, l1, R3, pre, fun v H' r outs hp lo fin => ?_⟩
      exact ff _ _ v H' (call_end R2 sb s' nd iob (lo.trans l3.symm) fin) (post r outs hp (lo.trans l3.symm))
    | cons b0 bs =>
      obtain ⟨⟨nd, dj, hf⟩, pre, post⟩ := g
      obtain ⟨R3, iob⟩ := callB_start R2 s nd dj
      obtain ⟨l1, l2, l3⟩ := s.len
      refine ⟨pvs, _, l2, l1, R3, pre, fun v H' r outs hp lo fin => ?_⟩
      obtain ⟨⟨ir, io⟩, hq⟩ := post r outs hp (lo.trans l3.symm)
      exact ff _ _ v H' (callB_end R2 sb s nd dj iob (lo.trans l3.symm) hf ir io fin) hq
theorem qe_callHB (h : Has X.prog X.w X.K X.mg X.base x j ps S) (hr : Room j X.A) (ha : QA X (e :: es) t) (hg : Gl X x := by rfl) (hdb : (x == ("__debug__" : Str)) = false := by decide)
    (he : starEach (e :: es) X.env = (false, eval e X.env) :: starEach es X.env := by rfl) (hpl : (backTo pos (starEach es X.env)).any (·.1) = false := by rfl) : QE X (.Call (.Name x p) (e :: es) [] pos) (qCallB S t) := by
  obtain ⟨f, fd, F, m, kk, b, _⟩ := h.ex
  obtain ⟨ta, p1, q⟩ := ha.ex
  exact ⟨_, pe_call F hr hg m kk b .nil pass0 p1 hdb he hpl, rz_callB q⟩
end
end Px
namespace Px
open PySem L2 PySem.Spec PyProof.Rows
/-! ### == of dicts whose values are plain data -/
def hitsP (ls : List Key) (qs : List PV) : List Key → List PV → Bool
  | k :: ks, p :: ps => match getD ls qs k with
    | some q => peq p q && hitsP ls qs ks ps
    | none => false
  | _, _ => true
def eqDic (ks : List Key) (ps : List PV) (ls : List Key) (qs : List PV) : Bool := ks.length == ls.length && hitsP ls qs ks ps
theorem getD_mem {α : Type} : ∀ {ks : List Key} {ps : List α} {j : Key} {p : α}, getD ks ps j = some p → p ∈ ps
  | [], _, _, _, e => by cases e
  | _ :: _, [], _, _, e => by cases e
  | k :: ks, q :: ps, j, p, e => by
    rw [getD] at e
    split at e
    · cases e; exact List.mem_cons_self
    · exact List.mem_cons_of_mem _ (getD_mem e)
theorem plains_mem {ps : List PV} (h : plains ps = true) : ∀ p ∈ ps, plain p = true := by
  induction ps with
  | nil => intro p hp; cases hp
  | cons q ps ih =>
    rw [plains, Bool.and_eq_true] at h
    intro p hp
    rcases List.mem_cons.mp hp with rfl | hp
    · exact h.1
    · exact ih h.2 p hp
theorem deps_mem {ps : List PV} : ∀ p ∈ ps, dep p ≤ deps ps := by
  induction ps with
  | nil => intro p hp; cases hp
  | cons q ps ih =>
    intro p hp
    rw [deps]
    rcases List.mem_cons.mp hp with rfl | hp
    · omega
    · have := ih p hp; omega
/-- data of more depth, for == -/
def eqOkW (p : PV) : Prop := plain p = true ∧ dep p ≤ 190
theorem eqOkW_str (s : Str) : eqOkW (.str s) = True := eq_true ⟨rfl, Nat.zero_le _⟩
theorem eqOkW_int (i : Int) : eqOkW (.int i) = True := eq_true ⟨rfl, Nat.zero_le _⟩
theorem eqOkW_non : eqOkW .non = True := eq_true ⟨rfl, Nat.zero_le _⟩
theorem eqOkW_bl (b : Bool) : eqOkW (.bl b) = True := eq_true ⟨rfl, Nat.zero_le _⟩
def gEqW (p : PV) (q : PV) (Q : R → Prop) : Prop := eqOkW p ∧ eqOkW q ∧ Q (.pv (.bl (peq p q)))
def gNeW (p : PV) (q : PV) (Q : R → Prop) : Prop := eqOkW p ∧ eqOkW q ∧ Q (.pv (.bl (!peq p q)))
section
variable {X : Cx}
def rEqL (K : PySem.W.Frag) (neg : Bool) : R2 := fun x y H Q => ∃ d e, Dp K H x d ∧ Dp K H y e ∧ (d.canLay0 = true ∧ d.depth ≤ 190) ∧ (e.canLay0 = true ∧ e.depth ≤ 190) ∧ Q (.bl (neg != PyData.eqv d e)) H
theorem op_eqL (hu : X.A.units + 190 < cLine) : OpR X (compareOp .Eq) (rEqL X.K false) := by
  intro pins s σ H x y v u Q I rx ry h
  obtain ⟨d, e, hd, he, sd, se, q⟩ := h
  obtain ⟨as, r1⟩ := Dp.reads I d x v hd rx
  obtain ⟨bs, r2⟩ := Dp.reads I e y u he ry
  refine SeqAt.compareEq_reads r1 r2 sd.1 se.1 (by have := Nat.min_le_left d.depth e.depth; have := sd.2; omega) ⟨.bl _, H, I, rfl, ?_⟩
  cases h : PyData.eqv d e <;> rw [h] at q <;> exact q
theorem op_neL (hu : X.A.units + 190 < cLine) : OpR X (compareOp .NotEq) (rEqL X.K true) := by
  intro pins s σ H x y v u Q I rx ry h
  obtain ⟨d, e, hd, he, sd, se, q⟩ := h
  obtain ⟨as, r1⟩ := Dp.reads I d x v hd rx
  obtain ⟨bs, r2⟩ := Dp.reads I e y u he ry
  refine SeqAt.compareNe_reads r1 r2 sd.1 se.1 (by have := Nat.min_le_left d.depth e.depth; have := sd.2; omega) ⟨.bl _, H, I, rfl, ?_⟩
  cases h : PyData.eqv d e <;> rw [h] at q <;> exact q
theorem op_eqW (hu : X.A.units + 190 < cLine) : OpP X (compareOp .Eq) gEqW := by
  refine ⟨_, op_eqL hu, fun H W p q x y Q F m l1 l2 z f => ?_⟩
  obtain ⟨h1, h2, h3⟩ := z
  obtain ⟨d1, c1, z1⟩ := lk_dp h1.1 l1
  obtain ⟨d2, c2, z2⟩ := lk_dp h2.1 l2
  refine ⟨_, _, d1, d2, ⟨c1, by rw [z1]; exact h1.2⟩, ⟨c2, by rw [z2]; exact h2.2⟩, fin1 f (p := .bl _) rfl ?_⟩
  show Q (.pv (.bl (false != peq p q)))
  cases h : peq p q <;> rw [h] at h3 <;> exact h3
theorem op_neW (hu : X.A.units + 190 < cLine) : OpP X (compareOp .NotEq) gNeW := by
  refine ⟨_, op_neL hu, fun H W p q x y Q F m l1 l2 z f => ?_⟩
  obtain ⟨h1, h2, h3⟩ := z
  obtain ⟨d1, c1, z1⟩ := lk_dp h1.1 l1
  obtain ⟨d2, c2, z2⟩ := lk_dp h2.1 l2
  refine ⟨_, _, d1, d2, ⟨c1, by rw [z1]; exact h1.2⟩, ⟨c2, by rw [z2]; exact h2.2⟩, fin1 f (p := .bl _) rfl ?_⟩
  show Q (.pv (.bl (true != peq p q)))
  cases h : peq p q <;> rw [h] at h3 <;> exact h3
end
theorem room191 {k : Nat} {A : Around} (hr : Room k A) : A.units + 191 < cLine := by have := hr.un; omega
section
variable {X : Cx} {pins : List (Addr × Obj)} {σ : L2.St} {H : Hp} {s : Shared}
theorem hits_of (I : Inv X pins σ H s) {A : Around} (hu : A.units + 190 < cLine) {W : Addr → Prop} {ls : List Key} {qs : List PV} {us : List V} {vb : List (Key × Value)} (rb : KV (ls.zip us) vb) (lb : ls.length = us.length) (iq : Iss X.K H W qs us) (oq : plains qs = true ∧ deps qs ≤ 190) :
    ∀ {ks : List Key} {ps : List PV} {vs : List V} {va : List (Key × Value)}, KV (ks.zip vs) va → ks.length = vs.length → Iss X.K H W ps vs → plains ps = true → deps ps ≤ 190 → PySem.W.KeqHits A s vb va (hitsP ls qs ks ps)
  | [], ps, vs, va, ra, le, ip, _, _ => by
    have : va = [] := by
      have := ra.length
      simp at this
      exact List.length_eq_zero_iff.mp this.symm
    subst this
    unfold hitsP
    exact .nil
  | k :: ks, [], vs, va, ra, le, ip, _, _ => by
    cases (show vs = [] from ip)
    simp at le
  | k :: ks, p :: ps, vs, va, ra, le, ip, pl, dp => by
    obtain ⟨v, r, e1, i1, i2⟩ := ip
    subst e1
    have ra' : Paired (fun (p : Key × V) (q : Key × Value) => p.1 = q.1 ∧ RelV p.2 q.2) ((k, v) :: ks.zip r) va := ra
    cases ra' with
    | @cons x y xs ys h t =>
      obtain ⟨h1, h2⟩ := h
      obtain ⟨yk, yv⟩ := y
      have h1' : k = yk := h1
      subst h1'
      rw [plains, Bool.and_eq_true] at pl
      rw [deps] at dp
      have ih := hits_of I hu rb lb iq oq (ks := ks) (ps := ps) (vs := r) (va := ys) t (by simpa using le) i2 pl.2 (by omega)
      have rr := rb.val k
      rw [getD_val lb] at rr
      unfold hitsP
      cases eg : getD ls qs k with
      | none =>
        rw [getD_no iq eg] at rr
        refine .miss ?_
        cases e : valueAt vb k with
        | none => rfl
        | some z => rw [e] at rr; cases rr
      | some q =>
        obtain ⟨w, ew, iw⟩ := getD_is iq eg
        rw [ew] at rr
        obtain ⟨z, ez, rz⟩ := rr.some_of
        have mq := getD_mem eg
        obtain ⟨d1, c1, z1⟩ := dp_of p v pl.1 i1
        obtain ⟨d2, c2, z2⟩ := dp_of q w (plains_mem oq.1 q mq) iw
        obtain ⟨as, r1⟩ := Dp.reads I _ v yv d1 h2
        obtain ⟨bs, r2⟩ := Dp.reads I _ w z d2 rz
        have l1 : dep p ≤ 190 := by omega
        refine .hit ez (SeqAt.eqAt_reads _ _ A s yv z as bs r1 r2 c1 c2 ?_) ih
        rw [z1]
        have := Nat.min_le_left (dep p) (toD q).depth
        omega
theorem eqD_run (hu : X.A.units + 191 < cLine) (I : Inv X pins σ H s) {W : Addr → Prop} {ks ls : List Key} {ps qs : List PV} {a b : Addr} {vs us : List V} (ra : Rd H a (.dK (ks.zip vs))) (la : ks.length = vs.length) (ia : Iss X.K H W ps vs) (rb : Rd H b (.dK (ls.zip us))) (lb : ls.length = us.length) (ib : Iss X.K H W qs us)
    (o1 : plains ps = true ∧ deps ps ≤ 190) (o2 : plains qs = true ∧ deps qs ≤ 190) {Q : VK} (q1 : Q (.bl (eqDic ks ps ls qs)) H) :
    wpAny (model X.prog X.w) X.A (compareOp .Eq (.ref a) (.ref b)) (EP X pins σ Q) X.xe s := by
  obtain ⟨_, ya, va, kva, da⟩ := dk_rd I.hok ra
  obtain ⟨_, yb, vb, kvb, db⟩ := dk_rd I.hok rb
  refine PySem.W.keq_eq (knd := mixKind X.prog X.w) (r := hitsP ls qs ks ps) ya yb da db (by omega) (fun _ => hits_of I (by show X.A.units + 1 + 190 < cLine; omega) kvb lb ib o2 kva la ia o1.1 o1.2) ⟨.bl _, H, I, rfl, ?_⟩
  rw [← kva.length, ← kvb.length, zip_len la, zip_len lb]; exact q1
theorem neD_run (hu : X.A.units + 191 < cLine) (I : Inv X pins σ H s) {W : Addr → Prop} {ks ls : List Key} {ps qs : List PV} {a b : Addr} {vs us : List V} (ra : Rd H a (.dK (ks.zip vs))) (la : ks.length = vs.length) (ia : Iss X.K H W ps vs) (rb : Rd H b (.dK (ls.zip us))) (lb : ls.length = us.length) (ib : Iss X.K H W qs us)
    (o1 : plains ps = true ∧ deps ps ≤ 190) (o2 : plains qs = true ∧ deps qs ≤ 190) {Q : VK} (q1 : Q (.bl (!eqDic ks ps ls qs)) H) :
    wpAny (model X.prog X.w) X.A (compareOp .NotEq (.ref a) (.ref b)) (EP X pins σ Q) X.xe s := by
  obtain ⟨_, ya, va, kva, da⟩ := dk_rd I.hok ra
  obtain ⟨_, yb, vb, kvb, db⟩ := dk_rd I.hok rb
  refine PySem.W.keq_ne (knd := mixKind X.prog X.w) (r := hitsP ls qs ks ps) ya yb da db (by omega) (fun _ => hits_of I (by show X.A.units + 1 + 190 < cLine; omega) kvb lb ib o2 kva la ia o1.1 o1.2) ⟨.bl _, H, I, rfl, ?_⟩
  rw [← kva.length, ← kvb.length, zip_len la, zip_len lb]; exact q1
end
section
variable {X : Cx}
def rEqDic (X : Cx) (neg : Bool) : R2 := fun x y H Q => ∃ (W : Addr → Prop) (ks ls : List Key) (ps qs : List PV) (a b : Addr) (vs us : List V), x = .ref a ∧ y = .ref b ∧ Rd H a (.dK (ks.zip vs)) ∧ ks.length = vs.length ∧ Iss X.K H W ps vs ∧ Rd H b (.dK (ls.zip us)) ∧ ls.length = us.length ∧ Iss X.K H W qs us ∧
  (plains ps = true ∧ deps ps ≤ 190) ∧ (plains qs = true ∧ deps qs ≤ 190) ∧ Q (.bl (neg != eqDic ks ps ls qs)) H
theorem op_eqDic (hu : X.A.units + 191 < cLine) : OpR X (compareOp .Eq) (rEqDic X false) := by
  intro pins s σ H x y v u Q I rx ry h
  obtain ⟨W, ks, ls, ps, qs, a, b, vs, us, rfl, rfl, ra, la, ia, rb, lb, ib, o1, o2, q⟩ := h
  cases rx; cases ry
  refine eqD_run hu I ra la ia rb lb ib o1 o2 ?_
  cases e : eqDic ks ps ls qs <;> rw [e] at q <;> exact q
theorem op_neDic (hu : X.A.units + 191 < cLine) : OpR X (compareOp .NotEq) (rEqDic X true) := by
  intro pins s σ H x y v u Q I rx ry h
  obtain ⟨W, ks, ls, ps, qs, a, b, vs, us, rfl, rfl, ra, la, ia, rb, lb, ib, o1, o2, q⟩ := h
  cases rx; cases ry
  refine neD_run hu I ra la ia rb lb ib o1 o2 ?_
  cases e : eqDic ks ps ls qs <;> rw [e] at q <;> exact q
def gEqX (p q : PV) (Q : R → Prop) : Prop := match p, q with
  | .dic ks ps, .dic ls qs => (plains ps = true ∧ deps ps ≤ 190) ∧ (plains qs = true ∧ deps qs ≤ 190) ∧ Q (.pv (.bl (eqDic ks ps ls qs)))
  | p, q => gEqW p q Q
def gNeX (p q : PV) (Q : R → Prop) : Prop := match p, q with
  | .dic ks ps, .dic ls qs => (plains ps = true ∧ deps ps ≤ 190) ∧ (plains qs = true ∧ deps qs ≤ 190) ∧ Q (.pv (.bl (!eqDic ks ps ls qs)))
  | p, q => gNeW p q Q
theorem op_eqX (hu : X.A.units + 191 < cLine) : OpP X (compareOp .Eq) gEqX := by
  obtain ⟨r1, h1, h2⟩ := op_eqW (X := X) (by omega)
  refine ⟨_, OpR.or h1 (op_eqDic hu), fun H W p q x y Q F m l1 l2 z f => ?_⟩
  unfold gEqX at z
  split at z
  · rename_i ks ps ls qs
    obtain ⟨a, vs, e1, r1, la, _, ia⟩ := l1
    obtain ⟨b, us, e2, r2, lb, _, ib⟩ := l2
    subst e1 e2
    refine .inr ⟨W, ks, ls, ps, qs, a, b, vs, us, rfl, rfl, r1, la, ia, r2, lb, ib, z.1, z.2.1, fin1 f (p := .bl _) rfl (?_ : Q (.pv (.bl _)))⟩
    have z3 := z.2.2
    cases e : eqDic ks ps ls qs <;> rw [e] at z3 <;> exact z3
  · exact .inl (h2 H W p q x y Q F m l1 l2 z f)
theorem op_neX (hu : X.A.units + 191 < cLine) : OpP X (compareOp .NotEq) gNeX := by
  obtain ⟨r1, h1, h2⟩ := op_neW (X := X) (by omega)
  refine ⟨_, OpR.or h1 (op_neDic hu), fun H W p q x y Q F m l1 l2 z f => ?_⟩
  unfold gNeX at z
  split at z
  · rename_i ks ps ls qs
    obtain ⟨a, vs, e1, r1, la, _, ia⟩ := l1
    obtain ⟨b, us, e2, r2, lb, _, ib⟩ := l2
    subst e1 e2
    refine .inr ⟨W, ks, ls, ps, qs, a, b, vs, us, rfl, rfl, r1, la, ia, r2, lb, ib, z.1, z.2.1, fin1 f (p := .bl _) rfl (?_ : Q (.pv (.bl _)))⟩
    have z3 := z.2.2
    cases e : eqDic ks ps ls qs <;> rw [e] at z3 <;> exact z3
  · exact .inl (h2 H W p q x y Q F m l1 l2 z f)
end
theorem isEmp_concat {α : Type} {xs : List α} {x : α} : (xs ++ [x]).isEmpty = false := by cases xs <;> rfl
/-! ### slots that may be stored to, seen without cases -/
def slOk : Sl → Bool
  | .own b _ => !b
  | _ => true
theorem notIo_nil' {i : Nat} : notIo [] i = true := rfl
theorem notIo_zero {s : Sl} {ρ : En} : notIo (s :: ρ) 0 = slOk s := by
  cases s with
  | own b p => cases b <;> rfl
  | _ => rfl
theorem notIo_succ {s : Sl} {ρ : En} {i : Nat} : notIo (s :: ρ) (i + 1) = notIo ρ i := by
  unfold notIo
  rw [List.getElem?_cons_succ]
theorem slOk_un : slOk .un = true := rfl
theorem slOk_val {p : PV} : slOk (.val p) = true := rfl
theorem slOk_own {b : Bool} {p : PV} : slOk (.own b p) = !b := rfl
/-- nothing, or a value -/
def plS : Option PV → Sl
  | none => .un
  | some p => .val p
/-- nothing, or an own thing -/
def plD : Option PV → Sl
  | none => .un
  | some p => .own false p
theorem slOk_pl {o : Option PV} : slOk (plS o) = true := by cases o <;> rfl
theorem slOk_pd {o : Option PV} : slOk (plD o) = true := by cases o <;> rfl
end Px
namespace Px
open PySem L2 PySem.Spec PyProof.Rows
/-! ### max(a, b), min(a, b) of two texts -/
section
variable {prog : Program} {w : World} {A : Around} {E : Value → Shared → Prop} {s : Shared}
theorem strs_gt (x y : Str) (t u : Tok) : CmpOf prog w A .Gt (fun i v => #[Value.str x t, Value.str y u][i]? = some v) (fun i j => decide ((if j = 0 then x else y).cps.toList < (if i = 0 then x else y).cps.toList)) := fun i j vi vj s Q E hi hj h => by
  match i, j, hi, hj with
  | 0, 0, hi, hj => cases hi; cases hj; exact P.gt_str h
  | 0, 1, hi, hj => cases hi; cases hj; exact P.gt_str h
  | 1, 0, hi, hj => cases hi; cases hj; exact P.gt_str h
  | 1, 1, hi, hj => cases hi; cases hj; exact P.gt_str h
theorem strs_lt (x y : Str) (t u : Tok) : CmpOf prog w A .Lt (fun i v => #[Value.str x t, Value.str y u][i]? = some v) (fun i j => decide ((if i = 0 then x else y).cps.toList < (if j = 0 then x else y).cps.toList)) := fun i j vi vj s Q E hi hj h => by
  match i, j, hi, hj with
  | 0, 0, hi, hj => cases hi; cases hj; exact P.lt_str h
  | 0, 1, hi, hj => cases hi; cases hj; exact P.lt_str h
  | 1, 0, hi, hj => cases hi; cases hj; exact P.lt_str h
  | 1, 1, hi, hj => cases hi; cases hj; exact P.lt_str h
theorem max_two_strs {x y : Str} {t u : Tok} {Q : Value → Shared → Prop} (hh : A.handled = none)
    (h : ∀ h' tk, (∀ c o, s.heap.get? c = some o → h'.get? c = some o) → Q (if x.cps.toList < y.cps.toList then .str y u else .str x t) { s with heap := h', toks := tk }) :
    wpAny (model prog w) A (call (.builtin "max") [.str x t, .str y u]) Q E s := by
  have hT : (s.heap.push { cls := .type "tuple", data := .seq #[.str x t, .str y u] }).IsTuple s.heap.objs.size #[.str x t, .str y u] := ⟨_, Heap.get?_push_size _ rfl, rfl, 0, by simp⟩
  refine call_max_two (wpAny_pyIter_tuple hT ?_)
  have hsz : (s.heap.push { cls := .type "tuple", data := .seq #[.str x t, .str y u] }).objs.size = s.heap.objs.size + 1 := Heap.size_push ..
  refine ⟨_, [_, s.heap.objs.size], [_], _, _, _, _, rfl, Walks.tuple (A := A.in1) hh _ s.heap.objs.size (by rw [hsz]; exact Nat.ne_of_lt (Nat.lt_succ_self _)) #[.str x t, .str y u],
    ⟨⟨_, Heap.get?_push_size _ rfl, rfl, rfl⟩, hT.push _⟩, fun c hc => ?_, by simp, strs_gt x y t u, fun v h' tk hP hk => ?_⟩
  · show c < ((s.heap.push _).push _).objs.size
    rw [Heap.size_push, hsz]
    rcases List.mem_cons.mp hc with rfl | hc
    · rw [hsz]; exact Nat.lt_succ_self _
    · rcases List.mem_cons.mp hc with rfl | hc
      · exact Nat.lt_succ_of_lt (Nat.lt_succ_self _)
      · cases hc
  · have hold : ∀ c o, s.heap.get? c = some o → h'.get? c = some o := fun c o e => by
      refine hk c o (fun hm => ?_) (Heap.get?_push_of_some _ (Heap.get?_push_of_some _ e))
      rcases List.mem_cons.mp hm with e1 | hm
      · have := Heap.lt_size e; rw [e1, hsz] at this; exact Nat.lt_irrefl _ (Nat.lt_of_succ_lt this)
      · cases hm
    have := h h' tk hold
    have hv : v = if x.cps.toList < y.cps.toList then Value.str y u else Value.str x t := by
      by_cases hba : x.cps.toList < y.cps.toList
      · have e : argBest (fun i j => decide ((if j = 0 then x else y).cps.toList < (if i = 0 then x else y).cps.toList)) 1 = 1 := by simp [argBest, hba]
        have hP' := hP
        simp only [List.size_toArray, List.length_cons, List.length_nil] at hP'
        rw [show 0 + 1 + 1 - 1 = 1 from rfl, e] at hP'
        rw [if_pos hba]; exact (Option.some.inj hP').symm
      · have e : argBest (fun i j => decide ((if j = 0 then x else y).cps.toList < (if i = 0 then x else y).cps.toList)) 1 = 0 := by simp [argBest, hba]
        have hP' := hP
        simp only [List.size_toArray, List.length_cons, List.length_nil] at hP'
        rw [show 0 + 1 + 1 - 1 = 1 from rfl, e] at hP'
        rw [if_neg hba]; exact (Option.some.inj hP').symm
    rw [hv]; exact this
theorem min_two_strs {x y : Str} {t u : Tok} {Q : Value → Shared → Prop} (hh : A.handled = none)
    (h : ∀ h' tk, (∀ c o, s.heap.get? c = some o → h'.get? c = some o) → Q (if y.cps.toList < x.cps.toList then .str y u else .str x t) { s with heap := h', toks := tk }) :
    wpAny (model prog w) A (call (.builtin "min") [.str x t, .str y u]) Q E s := by
  have hT : (s.heap.push { cls := .type "tuple", data := .seq #[.str x t, .str y u] }).IsTuple s.heap.objs.size #[.str x t, .str y u] := ⟨_, Heap.get?_push_size _ rfl, rfl, 0, by simp⟩
  refine call_min_two (wpAny_pyIter_tuple hT ?_)
  have hsz : (s.heap.push { cls := .type "tuple", data := .seq #[.str x t, .str y u] }).objs.size = s.heap.objs.size + 1 := Heap.size_push ..
  refine ⟨_, [_, s.heap.objs.size], [_], _, _, _, _, rfl, Walks.tuple (A := A.in1) hh _ s.heap.objs.size (by rw [hsz]; exact Nat.ne_of_lt (Nat.lt_succ_self _)) #[.str x t, .str y u],
    ⟨⟨_, Heap.get?_push_size _ rfl, rfl, rfl⟩, hT.push _⟩, fun c hc => ?_, by simp, strs_lt x y t u, fun v h' tk hP hk => ?_⟩
  · show c < ((s.heap.push _).push _).objs.size
    rw [Heap.size_push, hsz]
    rcases List.mem_cons.mp hc with rfl | hc
    · rw [hsz]; exact Nat.lt_succ_self _
    · rcases List.mem_cons.mp hc with rfl | hc
      · exact Nat.lt_succ_of_lt (Nat.lt_succ_self _)
      · cases hc
  · have hold : ∀ c o, s.heap.get? c = some o → h'.get? c = some o := fun c o e => by
      refine hk c o (fun hm => ?_) (Heap.get?_push_of_some _ (Heap.get?_push_of_some _ e))
      rcases List.mem_cons.mp hm with e1 | hm
      · have := Heap.lt_size e; rw [e1, hsz] at this; exact Nat.lt_irrefl _ (Nat.lt_of_succ_lt this)
      · cases hm
    have := h h' tk hold
    have hv : v = if y.cps.toList < x.cps.toList then Value.str y u else Value.str x t := by
      by_cases hba : y.cps.toList < x.cps.toList
      · have e : argBest (fun i j => decide ((if i = 0 then x else y).cps.toList < (if j = 0 then x else y).cps.toList)) 1 = 1 := by simp [argBest, hba]
        have hP' := hP
        simp only [List.size_toArray, List.length_cons, List.length_nil] at hP'
        rw [show 0 + 1 + 1 - 1 = 1 from rfl, e] at hP'
        rw [if_pos hba]; exact (Option.some.inj hP').symm
      · have e : argBest (fun i j => decide ((if i = 0 then x else y).cps.toList < (if j = 0 then x else y).cps.toList)) 1 = 0 := by simp [argBest, hba]
        have hP' := hP
        simp only [List.size_toArray, List.length_cons, List.length_nil] at hP'
        rw [show 0 + 1 + 1 - 1 = 1 from rfl, e] at hP'
        rw [if_neg hba]; exact (Option.some.inj hP').symm
    rw [hv]; exact this
end
section
variable {X : Cx}
def ltT (a b : Str) : Bool := decide (a.cps.toList < b.cps.toList)
def rMaxT : List V → Hp → VK → Prop := fun vs H Q => ∃ a b : Str, vs = [.str a, .str b] ∧ Q (.str (if ltT a b then b else a)) H
def rMinT : List V → Hp → VK → Prop := fun vs H Q => ∃ a b : Str, vs = [.str a, .str b] ∧ Q (.str (if ltT b a then b else a)) H
theorem cr_maxT (hc : X.calm = true) : CallR X (.builtin "max") rMaxT := by
  intro pins s σ H vs us Q I r h
  obtain ⟨a, b, rfl, q⟩ := h
  obtain ⟨u, v, rfl, ⟨t, rfl⟩, ⟨t2, rfl⟩⟩ := Vals.two r
  refine max_two_strs (I.ok.hd hc) fun h' tk hk => ⟨_, H, I.kept hk, ?_, q⟩
  unfold ltT
  by_cases e : a.cps.toList < b.cps.toList
  · rw [if_pos e, if_pos (decide_eq_true e)]; exact ⟨_, rfl⟩
  · rw [if_neg e, if_neg (by simpa using e)]; exact ⟨_, rfl⟩
theorem cr_minT (hc : X.calm = true) : CallR X (.builtin "min") rMinT := by
  intro pins s σ H vs us Q I r h
  obtain ⟨a, b, rfl, q⟩ := h
  obtain ⟨u, v, rfl, ⟨t, rfl⟩, ⟨t2, rfl⟩⟩ := Vals.two r
  refine min_two_strs (I.ok.hd hc) fun h' tk hk => ⟨_, H, I.kept hk, ?_, q⟩
  unfold ltT
  by_cases e : b.cps.toList < a.cps.toList
  · rw [if_pos e, if_pos (decide_eq_true e)]; exact ⟨_, rfl⟩
  · rw [if_neg e, if_neg (by simpa using e)]; exact ⟨_, rfl⟩
def gMaxT (ps : List PV) (Q : R → Prop) : Prop := match ps with
  | [.str a, .str b] => Q (.pv (.str (if ltT a b then b else a)))
  | _ => False
def gMinT (ps : List PV) (Q : R → Prop) : Prop := match ps with
  | [.str a, .str b] => Q (.pv (.str (if ltT b a then b else a)))
  | _ => False
theorem call_maxTP (hc : X.calm = true) : CallP X (.builtin "max") gMaxT := by
  refine ⟨_, cr_maxT hc, fun H W ps xs Q F m l g f => ?_⟩
  unfold gMaxT at g
  split at g
  · obtain ⟨x, y, rfl, h1, h2⟩ := lks2 l
    obtain ⟨e1, o1⟩ := h1
    obtain ⟨e2, o2⟩ := h2
    subst e1 e2
    refine ⟨_, _, rfl, fin1 f (p := .str _) ⟨rfl, ?_⟩ g⟩
    split
    · exact o2
    · exact o1
  · exact g.elim
theorem call_minTP (hc : X.calm = true) : CallP X (.builtin "min") gMinT := by
  refine ⟨_, cr_minT hc, fun H W ps xs Q F m l g f => ?_⟩
  unfold gMinT at g
  split at g
  · obtain ⟨x, y, rfl, h1, h2⟩ := lks2 l
    obtain ⟨e1, o1⟩ := h1
    obtain ⟨e2, o2⟩ := h2
    subst e1 e2
    refine ⟨_, _, rfl, fin1 f (p := .str _) ⟨rfl, ?_⟩ g⟩
    split
    · exact o2
    · exact o1
  · exact g.elim
/-- max(xs) of numbers, max(a, b) of two texts -/
def gMax2 (ps : List PV) (Q : R → Prop) : Prop := match ps with
  | [.str a, .str b] => Q (.pv (.str (if ltT a b then b else a)))
  | ps => gMax ps Q
theorem call_maxP2 (hc : X.calm = true) : CallP X (.builtin "max") gMax2 := by
  obtain ⟨r1, a1, b1⟩ := call_maxTP hc
  obtain ⟨r2, a2, b2⟩ := call_maxP hc
  refine ⟨_, CallR.or a1 a2, fun H W ps xs Q F m l g f => ?_⟩
  unfold gMax2 at g
  split at g
  · exact .inl (b1 H W _ xs Q F m l g f)
  · exact .inr (b2 H W _ xs Q F m l g f)
end
end Px
namespace Px
open PySem L2 PySem.Spec PyProof.Rows
/-! ### dict comprehensions -/
def dcGo (g : QTG) (tt : QTT) (tk te : QT) (vs : List Nat) (Q : List Key → List PV → En → Prop) : List PV → List Key → List PV → En → Prop
  | [], ks, zs, ρ => Q ks zs ρ
  | p :: ps, ks, zs, ρ => g p ρ fun ρ1 => tt ρ1 fun b ρ2 => Br b (tk ρ2 fun r ρ3 => match r.wk with
      | .pv kp => match keyP kp with
        | some k => te ρ3 fun r2 ρ4 => match r2.wk with
          | .pv z => small (ks.length + 1) ∧ notIos ρ4 vs ∧ dcGo g tt tk te vs Q ps (putKs ks k) (putPs ks zs k z) (wipeE ρ4 vs)
          | _ => False
        | none => False
      | _ => False) (notIos ρ2 vs ∧ dcGo g tt tk te vs Q ps ks zs (wipeE ρ2 vs))
def dcR (g : QTG) (tt : QTT) (tk te : QT) (vs : List Nat) (ps : List PV) (ρ : En) (Q : PK1) (_ : Dum Q) : Prop := dcGo g tt tk te vs (fun ks zs ρ' => Q (.fr (.dic ks zs)) ρ') ps [] [] ρ
def qDc (ti : QTI) (g : QTG) (tt : QTT) (tk te : QT) (vs : List Nat) (ρ : En) (Q : PK1) : Prop := ti ρ fun ps ρ1 => notIos ρ1 vs ∧ dcR g tt tk te vs ps (wipeE ρ1 vs) Q .mk
theorem put_pairs {zs : List PV} {av : List V} {k : Key} {z : PV} {v : V} : ∀ {ks : List Key}, ks.length = av.length → zs.length = av.length → ∀ x ∈ (putPs ks zs k z).zip (putPs ks av k v), x = (z, v) ∨ x ∈ zs.zip av := by
  have key : ∀ (ks : List Key) (zs : List PV) (av : List V), ∀ x ∈ (List.zipWith (fun j p => if j = k then z else p) ks zs).zip (List.zipWith (fun j p => if j = k then v else p) ks av), x = (z, v) ∨ x ∈ zs.zip av := by
    intro ks
    induction ks with
    | nil => intro zs av x hx; simp at hx
    | cons j ks ih =>
      intro zs av x hx
      cases zs with
      | nil => simp at hx
      | cons p zs =>
        cases av with
        | nil => simp at hx
        | cons u av =>
          rw [List.zipWith_cons_cons, List.zipWith_cons_cons, List.zip_cons_cons] at hx
          rw [List.zip_cons_cons]
          rcases List.mem_cons.mp hx with e | hx
          · by_cases h : j = k
            · rw [if_pos h, if_pos h] at e; exact .inl e
            · rw [if_neg h, if_neg h] at e; rw [e]; exact .inr List.mem_cons_self
          · rcases ih zs av x hx with e | e
            · exact .inl e
            · exact .inr (List.mem_cons_of_mem _ e)
  intro ks h1 h2 x hx
  unfold putPs at hx
  by_cases h : hasK ks k = true
  · rw [if_pos h, if_pos h] at hx; exact key ks zs av x hx
  · rw [if_neg h, if_neg h, List.zip_append h2] at hx
    rcases List.mem_append.mp hx with hx | hx
    · exact .inr hx
    · exact .inl (by simpa using hx)
theorem putPs_len {α : Type} {ks : List Key} {zs : List α} {k : Key} {z : α} (h : ks.length = zs.length) : (putPs ks zs k z).length = (putKs ks k).length := by
  unfold putPs putKs
  by_cases e : hasK ks k = true
  · rw [if_pos e, if_pos e, List.length_zipWith]; omega
  · rw [if_neg e, if_neg e]; simp [h]
theorem dc_walk {K : PySem.W.Frag} {g : TG} {tt : TT} {tk te : TE} {vs sl : List Nat} {qg : QTG} {qt : QTT} {qk qe : QT} (h2 : RzG K g sl qg) (h3 : RzT K tt qt) (hk : Rz K tk qk) (h4 : Rz K te qe) (hs : ∀ i ∈ sl, i ∈ vs) {G : Gd} {H1 : Hp} {σ : L2.St} {ρ1 : En} {pd pd1 : Pds} {J : It} {ps : List PV} {Q : PK1} {F : VK} (sb : ∀ x ∈ pd, x ∈ pd1)
    (R2 : RE K G H1 σ ρ1 pd1) (wk : Wk K J ps pd1 G.keep) (nio : notIos ρ1 vs) (go : dcR qg qt qk qe vs ps (wipeE ρ1 vs) Q .mk) (f : ∀ r ρ' v H', Res K G H' σ ρ' pd r v → Q r ρ' → F v H') :
    ∀ D, H1 D = none → ∃ W : Nat → Nat → Hp → Prop, (∃ m, W 0 m (upd H1 D (.dK []))) ∧ ∀ i m H, W i m H →
      (J.stop i H ∧ F (.ref D) H) ∨ (J.go i H ∧ ∃ Nx : Hp → Prop, (∀ H', Nx H' → ∃ m', m' < m ∧ W (i + 1) m' H') ∧ ∀ x H', J.yld i H x H' → g x (L2.wipe σ vs) H' fun σ2 H2 => L2.wipe σ2 vs = L2.wipe σ vs ∧ tt σ2 H2 fun b H3 =>
        if b = true then tk σ2 H3 fun y H4 => te σ2 H4 fun z H5 => ∃ kvs k, y = kV k ∧ H5 D = some (.dK kvs) ∧ kvs.length < sizeLine ∧ Nx (upd H5 D (.dK (putK kvs k z))) else Nx H3) := by
  intro D hD
  have kx := R2.exk
  have kD : G.keep D = none := by
    cases q : G.keep D with
    | none => rfl
    | some u => rw [R2.keep D u q] at hD; cases hD
  let W : Nat → Nat → Hp → Prop := fun i m H => m = ps.length - i ∧ i ≤ ps.length ∧ ∃ (ρ' : En) (ks : List Key) (zs : List PV) (av : List V), RE K (G.add D (.dK (ks.zip av))) H (L2.wipe σ vs) (wipeE ρ' vs) (zs.zip av ++ pd1) ∧ ks.length = av.length ∧ zs.length = av.length ∧ ks.all keyOk = true ∧ dcGo qg qt qk qe vs (fun ks zs ρ' => Q (.fr (.dic ks zs)) ρ') (ps.drop i) ks zs (wipeE ρ' vs)
  refine ⟨W, ⟨ps.length, by simp, Nat.zero_le _, ρ1, [], [], [], ?_, rfl, rfl, rfl, go⟩, ?_⟩
  · exact (R2.wipe vs nio).add (o := .dK []) hD (same_new hD) upd_same trivial
  rintro i m H2 ⟨rfl, hi, ρ', ks, zs, av, R3, lk, lz, ok, g1⟩
  by_cases lt : i < ps.length
  · have ep : ps[i]? = some ps[i] := List.getElem?_eq_getElem lt
    obtain ⟨jg, jy⟩ := wk.item _ H2 _ _ _ i _ (fun x hx => List.mem_append_right _ hx) (add_keep kD fun _ _ e => e) R3 ep
    refine .inr ⟨jg, fun H' => W (i + 1) (ps.length - (i + 1)) H', fun H' w => ⟨_, by omega, w⟩, fun x H3 y => ?_⟩
    have R4 := jy x H3 y
    rw [List.drop_eq_getElem_cons lt] at g1
    refine h2 _ H3 _ _ _ _ x _ _ R4 g1 fun σ2 ρ2 H4 l2 k2 R5 g2 => ?_
    have wa : L2.wipe σ2 vs = L2.wipe σ vs := by
      rw [← wipe_wipe σ vs]
      exact wipe_agree l2 fun j hj => k2 j fun z => hj (hs j z)
    refine ⟨wa, h3 _ H4 σ2 ρ2 _ _ _ R5 g2 fun b ρ3 H5 R6 g3 => ?_⟩
    cases b with
    | false =>
      obtain ⟨n3, g4⟩ := g3.2 rfl
      refine ⟨rfl, lt, ρ3, ks, zs, av, ?_, lk, lz, ok, g4⟩
      have R7 := R6.wipe vs n3
      rw [wa] at R7
      exact R7
    | true =>
      have g4 := g3.1 rfl
      show tk σ2 H5 _
      refine hk _ H5 σ2 ρ3 _ _ _ R6 g4 fun r ρ4 y' H6 s g5 => ?_
      have s' := s.wk
      cases er : r.wk with
      | sl j => rw [er] at g5; exact g5.elim
      | fr q => rw [er] at g5; exact g5.elim
      | pv q =>
        rw [er] at s' g5
        have g5' : match keyP q with
          | some k => qe ρ4 fun r2 ρ4 => match r2.wk with
            | .pv z => small (ks.length + 1) ∧ notIos ρ4 vs ∧ dcGo qg qt qk qe vs (fun ks zs ρ' => Q (.fr (.dic ks zs)) ρ') (ps.drop (i + 1)) (putKs ks k) (putPs ks zs k z) (wipeE ρ4 vs)
            | _ => False
          | none => False := g5
        have R7 : RE K (G.add D (.dK (ks.zip av))) H6 σ2 ρ4 ((q, y') :: (zs.zip av ++ pd1)) := s'
        cases ek : keyP q with
        | none => rw [ek] at g5'; exact g5'.elim
        | some k =>
          rw [ek] at g5'
          obtain ⟨e5, ko⟩ := keyP_is (R7.pd (q, y') List.mem_cons_self) ek
          refine h4 _ H6 σ2 ρ4 _ _ _ R7 g5' fun r2 ρ5 z' H7 s2 g6 => ?_
          have s2' := s2.wk
          cases er2 : r2.wk with
          | sl j => rw [er2] at g6; exact g6.elim
          | fr q => rw [er2] at g6; exact g6.elim
          | pv z =>
            rw [er2] at s2' g6
            obtain ⟨sm, n5, g7⟩ := g6
            have R8 : RE K (G.add D (.dK (ks.zip av))) H7 σ2 ρ5 ((z, z') :: (q, y') :: (zs.zip av ++ pd1)) := s2'
            obtain ⟨e7, e8⟩ := put_zip (j := k) (v := z') lk
            refine ⟨ks.zip av, k, e5, R8.keep D _ upd_same, by rw [zip_len lk]; exact small_lt sm, rfl, lt, ρ5, putKs ks k, putPs ks zs k z, putPs ks av k z', ?_, e8, ?_, putKs_ok ok ko, g7⟩
            · have R9 := (R8.wipe vs n5).readd (o' := .dK (putK (ks.zip av) k z')) trivial
              rw [wa, e7] at R9
              rw [e7]
              refine R9.pds fun x hx => ?_
              rcases List.mem_append.mp hx with hx | hx
              · rcases put_pairs lk lz x hx with e | hx
                · rw [e]; exact List.mem_cons_self
                · exact List.mem_cons_of_mem _ (List.mem_cons_of_mem _ (List.mem_append_left _ hx))
              · exact List.mem_cons_of_mem _ (List.mem_cons_of_mem _ (List.mem_append_right _ hx))
            · rw [putPs_len (lk.trans lz.symm), putPs_len lk]
  · have e : i = ps.length := by omega
    subst e
    refine .inl ⟨wk.stop _ H2 _ _ _ _ (fun x hx => List.mem_append_right _ hx) (add_keep kD fun _ _ e => e) R3 (Nat.le_refl _), ?_⟩
    rw [List.drop_length] at g1
    have R4 := R3.unwipe
    refine f (.fr (.dic ks zs)) (wipeE ρ' vs) (.ref D) H2 ⟨D, .dK (ks.zip av), rfl, kD, kx, R4.pds fun x hx => List.mem_append_right _ (sb x hx), ?_⟩ g1
    refine ⟨av, rfl, lk, ok, ?_⟩
    have hall : ∀ x ∈ zs.zip av, Is K H2 (WS (G.add D (.dK (ks.zip av))) σ (wipeE ρ' vs)) x.1 x.2 := fun x hx => R4.pd x (List.mem_append_left _ hx)
    clear g1 R3 R4
    revert lz hall
    generalize WS (G.add D (.dK (ks.zip av))) σ (wipeE ρ' vs) = W'
    intro lz hall
    clear W f go ok lk
    induction zs generalizing av with
    | nil => cases av with
      | nil => rfl
      | cons _ _ => simp at lz
    | cons p zs ih =>
      cases av with
      | nil => simp at lz
      | cons v av => exact ⟨v, av, rfl, hall (p, v) List.mem_cons_self, ih av (by simpa using lz) fun x hx => hall x (List.mem_cons_of_mem _ hx)⟩
def qDcK (i : Nat) (g : QTG) (tt : QTT) (tk te : QT) (vs : List Nat) (ρ : En) (Q : PK1) : Prop := match dicAt ρ i with
  | some (ks, _) => notIos ρ vs ∧ dcR g tt tk te vs (ks.map keyV) (wipeE ρ vs) Q .mk
  | none => False
section
variable {X : Cx} {kx elt tg iter : Expr} {ifs : List Expr} {scope : Scope} {own : List (Str × Nat)} {pos npos : Pos} {g : QTG} {tt : QTT} {tk te : QT} {ti : QTI} {sl : List Nat} {x : Str}
theorem rz_dc {K : PySem.W.Frag} {wi : TI} {g : TG} {tt : TT} {tk te : TE} {vs sl : List Nat} {ti : QTI} {qg : QTG} {qt : QTT} {qk qe : QT} (h1 : RzI K wi ti) (h2 : RzG K g sl qg) (h3 : RzT K tt qt) (hk : Rz K tk qk) (h4 : Rz K te qe) (hs : ∀ i ∈ sl, i ∈ vs) : Rz K (tDc wi g tt tk te vs) (qDc ti qg qt qk qe vs) := by
  intro G H σ ρ pd Q F R1 hw f
  exact h1 G H σ ρ pd _ _ R1 hw fun J ps ρ1 pd1 H1 sb R2 wk ⟨nio, go⟩ => dc_walk h2 h3 hk h4 hs sb R2 wk nio go f
theorem qe_dc (hc : X.calm = true) (hN : X.N.Nodup) (ok : BlkOk X.N X.env.scope scope own) (hi : QI X tg iter ti) (hg : ∀ c, QG (blkX X scope c) tg sl g) (ht : ∀ c, QCs (blkX X scope c) ifs tt) (hk : ∀ c, QE (blkX X scope c) kx tk) (he : ∀ c, QE (blkX X scope c) elt te)
    (hs : ∀ i ∈ sl, i ∈ own.map (·.2) := by decide) (hf : ∀ x, foldedSetIterable iter X.env x = pure x := by intro _; rfl) {vs : List Nat} (hv : vs = own.map (·.2) := by rfl) : QE X (.DictComp kx elt [⟨tg, iter, ifs, 0⟩] scope pos) (qDc ti g tt tk te vs) := by
  subst hv
  obtain ⟨wi, p1, q1⟩ := hi.ex
  obtain ⟨g1, p2, q2⟩ := QG.all (X := blkX X scope) (K := X.K) (fun _ => rfl) hg
  obtain ⟨t1, p3, q3⟩ := QCs.all (X := blkX X scope) (K := X.K) (fun _ => rfl) ht
  obtain ⟨k1, pk, qk⟩ := QE.all (X := blkX X scope) (K := X.K) (fun _ => rfl) hk
  obtain ⟨e1, p4, q4⟩ := QE.all (X := blkX X scope) (K := X.K) (fun _ => rfl) he
  exact ⟨_, pe_dc hc hN p1 ok (fun s H C cl fp => p2 (s, H, C, cl, fp)) (fun s H C cl fp => p3 (s, H, C, cl, fp)) (fun s H C cl fp => pk (s, H, C, cl, fp)) (fun s H C cl fp => p4 (s, H, C, cl, fp)) hf, rz_dc q1 q2 q3 qk q4 hs⟩
theorem rz_dcK {g1 : TG} {t1 : TT} {k1 e1 : TE} {vs : List Nat} {i : Nat} (q2 : RzG X.K g1 sl g) (q3 : RzT X.K t1 tt) (qk : Rz X.K k1 tk) (q4 : Rz X.K e1 te) (hs : ∀ i ∈ sl, i ∈ vs) :
    Rz X.K (fun σ H Q => tLockE (tDc (iKeys (tVar i)) g1 t1 k1 e1 vs) σ H Q ∨ tDc (iKeys (tVar i)) g1 t1 k1 e1 vs σ H Q) (qDcK i g tt tk te vs) := by
  intro G H σ ρ pd Q F R1 h f
  unfold qDcK at h
  cases e : dicAt ρ i with
  | none => rw [e] at h; exact h.elim
  | some kp =>
    obtain ⟨ks, ps⟩ := kp
    rw [e] at h
    obtain ⟨nio, go⟩ := h
    obtain ⟨d, us, e2, n, r, hl, ok⟩ := dicAt_is R1 e
    rcases r with r | ⟨o, r⟩
    · refine .inl ⟨d, _, r, trivial, fun od => ?_⟩
      have R2 := R1.lock (o := od) n r
      refine ⟨.ref d, e2, d, od, rfl, .inl ⟨_, upd_same, ?_⟩⟩
      have kd : ∀ u, G.keep d = some u → u = .dK (ks.zip us) := fun u eu => by have := R1.keep d u eu; rw [r] at this; cases this; rfl
      refine dc_walk (F := fun v H' => H' d = some (.frz od (.dK (ks.zip us))) ∧ F v (upd H' d (.dK (ks.zip us)))) q2 q3 qk q4 hs (pd1 := pd) (fun _ hx => hx) R2 (wk_keys hl ok upd_same) nio go fun r ρ' v H' s hq => ?_
      obtain ⟨h1, s'⟩ := s.unlock kd R1.exk
      exact ⟨h1, f r ρ' v _ s' hq⟩
    · refine .inr ⟨.ref d, e2, d, o, rfl, .inl ⟨_, r, ?_⟩⟩
      by_cases hk : G.keep d = some (.frz o (.dK (ks.zip us)))
      · exact dc_walk q2 q3 qk q4 hs (pd1 := pd) (fun _ hx => hx) R1 (wk_keys hl ok hk) nio go f
      · have kn : G.keep d = none := by
          cases eq : G.keep d with
          | none => rfl
          | some u => have := R1.keep d u eq; rw [r] at this; cases this; exact absurd eq hk
        have R2 : RE X.K (G.lk d (.frz o (.dK (ks.zip us)))) H σ ρ pd := by
          refine ⟨R1.len, R1.val, fun j b p e => ?_, R1.inj, R1.io, fun b u e => ?_, fun b w => ?_, R1.pd⟩
          · obtain ⟨a, e1, k, rest⟩ := R1.own j b p e
            have ne : a ≠ d := fun z => n (by rw [← z]; exact .inr ⟨j, b, p, e, e1⟩)
            exact ⟨a, e1, by show upd G.keep d _ a = none; rw [upd_ne ne]; exact k, rest⟩
          · have e' : upd G.keep d (.frz o (.dK (ks.zip us))) b = some u := e
            by_cases z : b = d
            · rw [z] at e' ⊢; rw [upd_same] at e'; rw [r]; exact e'
            · rw [upd_ne z] at e'; exact R1.keep b u e'
          · obtain ⟨u, e1, m1⟩ := R1.exk b w
            have ne : b ≠ d := fun z => n (by rw [← z]; exact .inl w)
            exact ⟨u, by show upd G.keep d _ b = some u; rw [upd_ne ne]; exact e1, m1⟩
        refine dc_walk q2 q3 qk q4 hs (pd1 := pd) (fun _ hx => hx) R2 (wk_keys hl ok upd_same) nio go fun r ρ' v H' s hq => ?_
        refine f r ρ' v H' ?_ hq
        have dn : ∀ {H' : Hp} {σ : L2.St} {ρ : En} {pd : Pds} {G : Gd}, G.keep d = none → RE X.K (G.lk d (.frz o (.dK (ks.zip us)))) H' σ ρ pd → RE X.K G H' σ ρ pd := fun {H' σ ρ pd G} kn R => by
          refine ⟨R.len, R.val, fun j b p e => ?_, R.inj, R.io, fun b u e => ?_, fun b w => ?_, R.pd⟩
          · obtain ⟨a, e1, k, rest⟩ := R.own j b p e
            have k' : upd G.keep d (.frz o (.dK (ks.zip us))) a = none := k
            by_cases z : a = d
            · rw [z, upd_same] at k'; cases k'
            · rw [upd_ne z] at k'; exact ⟨a, e1, k', rest⟩
          · have ne : b ≠ d := fun z => by rw [z, kn] at e; cases e
            exact R.keep b u (by show upd G.keep d _ b = some u; rw [upd_ne ne]; exact e)
          · obtain ⟨u, e1, m1⟩ := R.exk b w
            have e' : upd G.keep d (.frz o (.dK (ks.zip us))) b = some u := e1
            by_cases z : b = d
            · rw [z, upd_same] at e'; cases e'; exact m1.elim
            · rw [upd_ne z] at e'; exact ⟨u, e', m1⟩
        cases r with
        | pv p => exact dn kn s
        | sl j => exact ⟨dn kn s.1, s.2⟩
        | fr p =>
          obtain ⟨a, u, e1, na, _, R3, w⟩ := s
          have n' : upd G.keep d (.frz o (.dK (ks.zip us))) a = none := na
          have ne : a ≠ d := fun z => by rw [z, upd_same] at n'; cases n'
          rw [upd_ne ne] at n'
          have eg : (G.lk d (.frz o (.dK (ks.zip us)))).add a u = (G.add a u).lk d (.frz o (.dK (ks.zip us))) := lk_add ne
          rw [eg] at R3 w
          exact ⟨a, u, e1, n', R1.exk, dn (G := G.add a u) (by show upd G.keep a u d = none; rw [upd_ne ne.symm]; exact kn) R3, w⟩
theorem qe_dcK (i : Nat) (hc : X.calm = true) (hN : X.N.Nodup) (ok : BlkOk X.N X.env.scope scope own) (hg : ∀ c, QG (blkX X scope c) tg sl g) (ht : ∀ c, QCs (blkX X scope c) ifs tt) (hk : ∀ c, QE (blkX X scope c) kx tk) (he : ∀ c, QE (blkX X scope c) elt te)
    (hs : ∀ i ∈ sl, i ∈ own.map (·.2) := by decide) (hNx : X.N[i]? = some x := by rfl) (hv : Vis X.env.scope x := by first | exact Or.inl rfl | exact Or.inr (Or.inl rfl) | exact Or.inr (Or.inr rfl)) (hd : (x == ("__debug__" : Str)) = false := by decide)
    (hcd : (x == ("__classdict__" : Str)) = false := by decide) (hf : ∀ y, foldedSetIterable (.Name x npos) X.env y = pure y := by intro _; rfl) {vs : List Nat} (hvs : vs = own.map (·.2) := by rfl) : QE X (.DictComp kx elt [⟨tg, .Name x npos, ifs, 0⟩] scope pos) (qDcK i g tt tk te vs) := by
  subst hvs
  obtain ⟨g1, p2, q2⟩ := QG.all (X := blkX X scope) (K := X.K) (fun _ => rfl) hg
  obtain ⟨t1, p3, q3⟩ := QCs.all (X := blkX X scope) (K := X.K) (fun _ => rfl) ht
  obtain ⟨k1, pk, qk⟩ := QE.all (X := blkX X scope) (K := X.K) (fun _ => rfl) hk
  obtain ⟨e1, p4, q4⟩ := QE.all (X := blkX X scope) (K := X.K) (fun _ => rfl) he
  have base := pe_dc (pos := pos) hc hN (pi_keys (pe_var (pos := npos) hNx hv hd hcd)) ok (fun s H C cl fp => p2 (s, H, C, cl, fp)) (fun s H C cl fp => p3 (s, H, C, cl, fp)) (fun s H C cl fp => pk (s, H, C, cl, fp)) (fun s H C cl fp => p4 (s, H, C, cl, fp)) hf
  exact ⟨_, pe_either (pe_lock base) base, rz_dcK q2 q3 qk q4 hs⟩
end
end Px
namespace Px
open PySem L2 PySem.Spec PyProof.Rows
/-! ### [d[x] for x in d], d one's own -/
def ownDic (ρ : En) (i : Nat) : Option (List Key × List PV) := match ρ[i]? with
  | some (.own _ (.dic ks ps)) => some (ks, ps)
  | _ => none
def qVals (i j : Nat) (ρ : En) (Q : PK1) : Prop := match ownDic ρ i with
  | some (ks, ps) => i ≠ j ∧ j < ρ.length ∧ ks.Nodup ∧ small ps.length ∧ notIo ρ j = true ∧ Q (.fr (.lst ps)) (wipeE ρ [j])
  | none => False
theorem valV_nodup : ∀ {ks : List Key} {vs : List V}, ks.Nodup → ∀ {n : Nat} {k : Key} {v : V}, (ks.zip vs)[n]? = some (k, v) → valV (ks.zip vs) k = some v
  | [], vs, _, n, k, v, e => by simp at e
  | j :: ks, [], _, n, k, v, e => by simp at e
  | j :: ks, u :: vs, h, n, k, v, e => by
    rw [List.zip_cons_cons] at e ⊢
    cases n with
    | zero =>
      simp only [List.getElem?_cons_zero, Option.some.injEq, Prod.mk.injEq] at e
      rw [valV_pos (p := (j, u)) e.1, e.2]
    | succ n =>
      rw [List.getElem?_cons_succ] at e
      have hk : k ∈ ks := by
        have := List.mem_of_getElem? e
        exact (List.of_mem_zip this).1
      have ne : ¬ j = k := fun z => (List.nodup_cons.mp h).1 (by rw [z]; exact hk)
      rw [valV_neg (p := (j, u)) ne]
      exact valV_nodup (List.nodup_cons.mp h).2 e
theorem take_snoc {α : Type} {l : List α} {n : Nat} {x : α} (e : l[n]? = some x) : l.take n ++ [x] = l.take (n + 1) := by
  rw [List.take_add_one, e]; rfl
theorem rz_vals {K : PySem.W.Frag} {i j : Nat} : Rz K (tLockE (tLc (iKeys (tVar i)) (gName j) tYes (tOp rIxD (tVar i) (tVar j)) [j])) (qVals i j) := by
  intro G H σ ρ pd Q F R h f
  unfold qVals at h
  cases e : ownDic ρ i with
  | none => rw [e] at h; exact h.elim
  | some kp =>
    obtain ⟨ks, ps⟩ := kp
    rw [e] at h
    obtain ⟨nij, lj, nd, sm, nj, q⟩ := h
    have es : ∃ b, ρ[i]? = some (.own b (.dic ks ps)) := by
      unfold ownDic at e
      split at e
      · rename_i b k p eq; cases e; exact ⟨b, eq⟩
      · cases e
    obtain ⟨b, es⟩ := es
    obtain ⟨d, e2, kd, o, hd, w⟩ := R.own i b _ es
    obtain ⟨us, eo, hl, ok, iss⟩ : ∃ us, o = .dK (ks.zip us) ∧ ks.length = us.length ∧ ks.all keyOk = true ∧ Iss K H (WS G σ ρ) ps us := by
      cases o with
      | dK kvs => obtain ⟨vs, e3, l, k, q⟩ := w; exact ⟨vs, by rw [e3], l, k, q⟩
      | _ => exact w.elim
    subst eo
    have lz : (ks.zip us).length = us.length := by rw [zip_len hl, hl]
    have lp := iss.length
    have lσ : j < σ.length := by rw [← R.len]; exact lj
    refine ⟨d, _, hd, trivial, fun od => ?_⟩
    refine ⟨.ref d, e2, d, od, rfl, .inl ⟨_, upd_same, ?_⟩⟩
    intro D hD
    have neD : D ≠ d := fun z => by rw [z, upd_same] at hD; cases hD
    have hD0 : H D = none := by rw [upd_ne neD] at hD; exact hD
    have kD : G.keep D = none := by
      cases q : G.keep D with
      | none => rfl
      | some u => rw [R.keep D u q] at hD0; cases hD0
    let Hd := upd H d (.frz od (.dK (ks.zip us)))
    refine ⟨fun n m H' => m = us.length - n ∧ n ≤ us.length ∧ H' = upd Hd D (.lst (us.take n)), ⟨us.length, by simp, Nat.zero_le _, by simp [Hd]⟩, ?_⟩
    rintro n m H' ⟨rfl, hn, rfl⟩
    have hdd : ∀ u, (upd Hd D u) d = some (.frz od (.dK (ks.zip us))) := fun u => by rw [upd_ne neD.symm]; exact upd_same
    by_cases lt : n < us.length
    · refine .inr ⟨⟨hdd _, by rw [lz]; exact lt⟩, fun H' => n + 1 ≤ us.length ∧ H' = upd Hd D (.lst (us.take (n + 1))), fun H' w => ⟨_, by omega, rfl, w⟩, ?_⟩
      rintro x H3 ⟨rfl, k, v, e3, rfl⟩
      have ev : us[n]? = some v := by rw [List.getElem?_zip_eq_some] at e3; exact e3.2
      show L2.wipe ((L2.wipe σ [j]).set j (some (kV k))) [j] = L2.wipe σ [j] ∧ _
      refine ⟨?_, ?_⟩
      · skip
        have wa : L2.wipe ((L2.wipe σ [j]).set j (some (kV k))) [j] = L2.wipe (L2.wipe σ [j]) [j] := by
          refine wipe_agree (by rw [List.length_set]) fun i hi => ix_ne (fun (z : j = i) => hi ?_)
          rw [z]; exact List.mem_singleton_self i
        rw [wa, wipe_wipe]
      · simp only [tYes, ↓reduceIte]
        refine ⟨.ref d, ?_, kV k, ?_, d, _, k, v, rfl, .inr ⟨od, hdd _⟩, rfl, valV_nodup nd e3, us.take n, upd_same, ?_, lt, ?_⟩
        · rw [ix_ne (fun z => nij z.symm), wipe_out (by simp [nij])]; exact e2
        · rw [List.getElem?_set_self (by rw [wipe_length]; exact lσ)]
        · have : small ps.length := sm
          unfold small at this
          rw [List.length_take]; omega
        · rw [upd_upd, take_snoc ev]
    · have en : n = us.length := by omega
      subst en
      refine .inl ⟨⟨hdd _, by rw [lz]; exact Nat.le_refl _⟩, hdd _, ?_⟩
      rw [List.take_length]
      have eH : upd (upd Hd D (.lst us)) d (.dK (ks.zip us)) = upd H D (.lst us) := by
        funext b
        by_cases z1 : b = d
        · subst z1; rw [upd_same, upd_ne neD.symm]; exact hd.symm
        · rw [upd_ne z1]
          by_cases z2 : b = D
          · subst z2; rw [upd_same, upd_same]
          · rw [upd_ne z2, upd_ne z2]; show upd H d _ b = _; rw [upd_ne z1]
      rw [eH]
      have nio : notIos ρ [j] := fun v hv => by rw [List.mem_singleton] at hv; rw [hv]; exact nj
      have R2 : RE K (G.add D (.lst us)) (upd H D (.lst us)) σ (wipeE ρ [j]) pd := ((R.wipe [j] nio).add (o := .lst us) hD0 (same_new hD0) upd_same trivial).unwipe
      refine f (.fr (.lst ps)) (wipeE ρ [j]) (.ref D) _ ⟨D, _, rfl, kD, R.exk, R2, ?_⟩ q
      have ew : (wipeE ρ [j])[i]? = some (.own b (.dic ks ps)) := by
        show (ρ.set j Sl.un)[i]? = _
        rw [ix_ne (fun z => nij z.symm)]; exact es
      obtain ⟨d', e4, _, o', hd', w'⟩ := R2.own i b _ ew
      rw [e2] at e4
      cases e4
      rw [upd_ne neD.symm, hd] at hd'
      cases hd'
      obtain ⟨us', ez, l', _, q'⟩ := w'
      have : us' = us := by
        have z := congrArg (List.map Prod.snd) ez
        rw [List.map_snd_zip (by omega), List.map_snd_zip (by omega)] at z
        exact z.symm
      subst this
      exact q'
section
variable {X : Cx} {scope : Scope} {own : List (Str × Nat)} {pos npos p1 p2 p3 p4 spos py : Pos} {x o y : Str}
theorem pvx (i : Nat) (hN : X.N[i]? = some x := by rfl) (hv : Vis X.env.scope x := by first | exact Or.inl rfl | exact Or.inr (Or.inl rfl) | exact Or.inr (Or.inr rfl)) (hd : (x == ("__debug__" : Str)) = false := by decide)
    (hcd : (x == ("__classdict__" : Str)) = false := by decide) : PE X (.Name x pos) (tVar i) := pe_var hN hv hd hcd
theorem pgx (i : Nat) (hN : X.N.Nodup) (hi : X.N[i]? = some x := by rfl) (hx : Loc X.env.scope x := by first | exact Or.inl rfl | exact Or.inr rfl) (hf : X.fn x = true ∨ X.env.scope.names.lookup x = some .local := by first | exact .inl rfl | exact .inr rfl) : PG X (.Name x pos) (gName i) := pg_name hN hi hx hf
theorem pe_ixx {i j : Nat} {a b : Expr} (ha : PE X a (tVar i)) (hb : PE X b (tVar j)) (hs : PlainIx b := by intro _ _; rfl) : PE X (.Subscript a b pos) (tOp rIxD (tVar i) (tVar j)) := pe_ix ix_dict ha hb hs
theorem qe_vals (i j : Nat) (hc : X.calm = true) (hN : X.N.Nodup) (ok : BlkOk X.N X.env.scope scope own) (he : ∀ c, PE (blkX X scope c) (.Subscript (.Name x p1) (.Name o p2) p3) (tOp rIxD (tVar i) (tVar j))) (hg : ∀ c, PG (blkX X scope c) (.Name o p4) (gName j))
    (hNx : X.N[i]? = some x := by rfl) (hv : Vis X.env.scope x := by first | exact Or.inl rfl | exact Or.inr (Or.inl rfl) | exact Or.inr (Or.inr rfl)) (hd : (x == ("__debug__" : Str)) = false := by decide)
    (hcd : (x == ("__classdict__" : Str)) = false := by decide) (hf : ∀ y, foldedSetIterable (.Name x npos) X.env y = pure y := by intro _; rfl) (hvs : [j] = own.map (·.2) := by rfl) : QE X (.ListComp (.Subscript (.Name x p1) (.Name o p2) p3) [⟨.Name o p4, .Name x npos, [], 0⟩] scope pos) (qVals i j) := by
  have base := pe_lc (pos := pos) hc hN (pi_keys (pe_var (pos := npos) hNx hv hd hcd)) ok (fun s H C cl fp => hg (s, H, C, cl, fp)) (fun s H C cl fp => pts_nil) (fun s H C cl fp => he (s, H, C, cl, fp)) hf
  rw [← hvs] at base
  exact ⟨_, pe_lock base, rz_vals⟩
theorem qs_setVals (k i j : Nat) (hc : X.calm = true) (hN : X.N.Nodup) (hsw : swapsWith (.ListComp (.Subscript (.Name x p1) (.Name o p2) p3) [⟨.Name o p4, .Name x npos, [], 0⟩] scope pos) (some (.Name y py)) spos.line X.env = pure true) (ok : BlkOk X.N X.env.scope scope own) (he : ∀ c, PE (blkX X scope c) (.Subscript (.Name x p1) (.Name o p2) p3) (tOp rIxD (tVar i) (tVar j))) (hg : ∀ c, PG (blkX X scope c) (.Name o p4) (gName j))
    (hy : X.N[k]? = some y := by rfl) (hyl : X.env.scope.names.lookup y = some .local := by rfl) (hNx : X.N[i]? = some x := by rfl) (hv : Vis X.env.scope x := by first | exact Or.inl rfl | exact Or.inr (Or.inl rfl) | exact Or.inr (Or.inr rfl)) (hd : (x == ("__debug__" : Str)) = false := by decide)
    (hcd : (x == ("__classdict__" : Str)) = false := by decide) (hf : ∀ y, foldedSetIterable (.Name x npos) X.env y = pure y := by intro _; rfl) (hvs : [j] = own.map (·.2) := by rfl) : QS X (.Assign [.Name y py] (.ListComp (.Subscript (.Name x p1) (.Name o p2) p3) [⟨.Name o p4, .Name x npos, [], 0⟩] scope pos) spos) (qSet k (qVals i j)) := by
  have base := ps_setLc (i := k) (pos := pos) (py := py) hc hN hy hyl hsw (pi_keys (pe_var (pos := npos) hNx hv hd hcd)) ok (fun s H C cl fp => hg (s, H, C, cl, fp)) (fun s H C cl fp => pts_nil) (fun s H C cl fp => he (s, H, C, cl, fp)) hf
  rw [← hvs] at base
  exact ⟨tAsg (tLockE (tLc (iKeys (tVar i)) (gName j) tYes (tOp rIxD (tVar i) (tVar j)) [j])) (gName k), ps_lock base, rz_set rz_vals⟩
end
end Px
namespace Px
open PySem L2 PySem.Spec PyProof.Rows
/-! ### a comprehension over two -/
/-- walked, whatever else is kept -/
def RzI0 (K : PySem.W.Frag) (wi : TI) (t : QTI) : Prop := ∀ (G : Gd) (H : Hp) (σ : L2.St) (ρ : En) (pd : Pds) (Q : List PV → En → Prop) (F : It → Hp → Prop), RE K G H σ ρ pd → t ρ Q →
    (∀ J ps ρ' pd1 H', (∀ x ∈ pd, x ∈ pd1) → RE K G H' σ ρ' pd1 → Wk K J ps pd1 (fun _ => none) → Q ps ρ' → F J H') → wi σ H F
structure QI0 (X : Cx) (tg iter : Expr) (t : QTI) : Prop where
  ex : ∃ wi, PI X tg iter wi ∧ RzI0 X.K wi t
theorem QI0.all {ι : Type} {X : ι → Cx} {tg iter : Expr} {t : QTI} {K : PySem.W.Frag} (hK : ∀ c, (X c).K = K) (h : ∀ c, QI0 (X c) tg iter t) : ∃ wi, (∀ c, PI (X c) tg iter wi) ∧ RzI0 K wi t := by
  refine ⟨fun σ H F => ∀ c, (Classical.choose (h c).ex) σ H F, fun c => ⟨fun pins s σ H Q I hw => (Classical.choose_spec (h c).ex).1.run pins s σ H Q I (hw c)⟩, fun G H σ ρ pd Q F R1 hq f c => ?_⟩
  have z : RzI0 (X c).K (Classical.choose (h c).ex) t := (Classical.choose_spec (h c).ex).2
  exact z G H σ ρ pd Q F (by rw [hK c]; exact R1) hq (by rw [hK c]; exact f)
section
variable {X : Cx} {tg e a b : Expr} {te : QT} {tr : QTA}
theorem qi0_seq (h : QE X e te) : QI0 X tg e (qIt te) := by
  obtain ⟨t, p, q⟩ := h.ex
  refine ⟨_, pi_seq p, fun G H σ ρ pd Q F R1 hw f => ?_⟩
  refine q G H σ ρ pd _ _ R1 hw fun r ρ1 v H1 s g => ?_
  have s' := s.wk
  cases e1 : r.wk with
  | pv p =>
    rw [e1] at s' g
    cases p with
    | lst ps =>
      obtain ⟨a, vs, e2, _, r2, _⟩ : ∃ a vs, v = .ref a ∧ ¬ WS G σ ρ1 a ∧ H1 a = some (.lst vs) ∧ Iss X.K H1 (WS G σ ρ1) ps vs := s'.pd (.lst ps, v) List.mem_cons_self
      subst e2
      exact .inl ⟨a, rfl, ⟨vs, .inl (.inl r2)⟩, f _ _ ρ1 ((.lst ps, .ref a) :: pd) H1 (fun x hx => List.mem_cons_of_mem _ hx) s' wk_list g⟩
    | tup ps =>
      obtain ⟨a, vs, e2, r2, _⟩ : ∃ a vs, v = .ref a ∧ H1 a = some (.tup vs) ∧ Iss X.K H1 (WS G σ ρ1) ps vs := s'.pd (.tup ps, v) List.mem_cons_self
      subst e2
      exact .inr (.inl ⟨a, rfl, ⟨vs, .inl (.inl r2)⟩, f _ _ ρ1 ((.tup ps, .ref a) :: pd) H1 (fun x hx => List.mem_cons_of_mem _ hx) s' wk_tup g⟩)
    | str s0 =>
      obtain ⟨e2, ok⟩ : v = .str s0 ∧ sOk s0 = true := s'.pd (.str s0, v) List.mem_cons_self
      subst e2
      exact .inr (.inr ⟨s0, rfl, f _ _ ρ1 ((.str s0, .str s0) :: pd) H1 (fun x hx => List.mem_cons_of_mem _ hx) s' (wk_str ok) g⟩)
    | _ => exact g.elim
  | sl j => rw [e1] at g; exact g.elim
  | fr q => rw [e1] at g; exact g.elim
theorem qi0_range1 {p pos : Pos} (hm : X.mg "range" = none) (ha : QA X [a] tr) (hg : Gl X "range" := by rfl) (hs : starEach [a] X.env = [(false, eval a X.env)] := by rfl) : QI0 X tg (.Call (.Name "range" p) [a] [] pos) (qRng1 tr) := by
  obtain ⟨t, p, q⟩ := ha.ex
  refine ⟨_, pi_range1 hg hm p hs, fun G H σ ρ pd Q F R1 hw f => ?_⟩
  refine q G H σ ρ pd _ _ R1 hw fun rs ρ1 pd1 vs H1 sb R2 ar g => ?_
  cases ar with
  | nil => exact g.elim
  | @cons r v rs vs h1 t1 =>
    cases t1 with
    | cons _ _ => cases r with
      | pv p => cases p <;> exact g.elim
      | _ => exact g.elim
    | nil =>
      cases r with
      | pv p =>
        cases p with
        | int n =>
          have e : v = .int n := R2.pd _ h1
          subst e
          exact ⟨n, rfl, g.1.1, g.1.2, f _ _ ρ1 pd1 H1 sb R2 wk_rng g.2⟩
        | _ => exact g.elim
      | _ => exact g.elim
theorem qi0_range2 {p pos : Pos} (hm : X.mg "range" = none) (ha : QA X [a, b] tr) (hg : Gl X "range" := by rfl) (hs : starEach [a, b] X.env = [(false, eval a X.env), (false, eval b X.env)] := by rfl) (hs2 : starEach [b] X.env = [(false, eval b X.env)] := by rfl) :
    QI0 X tg (.Call (.Name "range" p) [a, b] [] pos) (qRng2 tr) := by
  obtain ⟨t, p, q⟩ := ha.ex
  refine ⟨_, pi_range2 hg hm p hs hs2, fun G H σ ρ pd Q F R1 hw f => ?_⟩
  refine q G H σ ρ pd _ _ R1 hw fun rs ρ1 pd1 vs H1 sb R2 ar g => ?_
  match rs, vs, ar, g with
  | [.pv (.int m), .pv (.int n)], [v, w], .cons h1 (.cons h2 .nil), g =>
    have e : v = .int m := R2.pd _ h1
    have e' : w = .int n := R2.pd _ h2
    subst e e'
    exact ⟨m, n, rfl, ⟨g.1.1.1, g.1.1.2, g.1.2.1, g.1.2.2⟩, f _ _ ρ1 pd1 H1 sb R2 wk_rng g.2⟩
end
def lc2Go (g : QTG) (tt : QTT) (ti1 : QTI) (g1 : QTG) (tt1 : QTT) (te : QT) (vs vs1 : List Nat) (Q : List PV → En → Prop) : List PV → List PV → En → Prop
  | [], acc, ρ => Q acc ρ
  | p :: ps, acc, ρ => g p ρ fun ρ1 => tt ρ1 fun b ρ2 => Br b (ti1 ρ2 fun qs ρ3 => notIos ρ3 vs1 ∧ lcGo g1 tt1 te vs1 (fun acc' ρ4 => notIos ρ4 vs ∧ lc2Go g tt ti1 g1 tt1 te vs vs1 Q ps acc' (wipeE ρ4 vs)) qs acc (wipeE ρ3 vs1))
      (notIos ρ2 vs ∧ lc2Go g tt ti1 g1 tt1 te vs vs1 Q ps acc (wipeE ρ2 vs))
def lc2R (g : QTG) (tt : QTT) (ti1 : QTI) (g1 : QTG) (tt1 : QTT) (te : QT) (vs vs1 : List Nat) (ps : List PV) (ρ : En) (Q : PK1) (_ : Dum Q) : Prop := lc2Go g tt ti1 g1 tt1 te vs vs1 (fun acc ρ' => Q (.fr (.lst acc)) ρ') ps [] ρ
def qLc2 (ti : QTI) (g : QTG) (tt : QTT) (ti1 : QTI) (g1 : QTG) (tt1 : QTT) (te : QT) (vs vs1 : List Nat) (ρ : En) (Q : PK1) : Prop := ti ρ fun ps ρ1 => notIos ρ1 vs ∧ lc2R g tt ti1 g1 tt1 te vs vs1 ps (wipeE ρ1 vs) Q .mk
theorem iss_of_pd {K : PySem.W.Frag} {H : Hp} {W : Addr → Prop} : ∀ {acc : List PV} {av : List V}, acc.length = av.length → (∀ x ∈ acc.zip av, Is K H W x.1 x.2) → Iss K H W acc av
  | [], [], _, _ => rfl
  | [], _ :: _, h, _ => by simp at h
  | _ :: _, [], h, _ => by simp at h
  | p :: acc, v :: av, h, hall => ⟨v, av, rfl, hall (p, v) List.mem_cons_self, iss_of_pd (by simpa using h) fun x hx => hall x (List.mem_cons_of_mem _ hx)⟩
theorem rz_lc2 {K : PySem.W.Frag} {wi wi1 : TI} {g gg1 : TG} {tt tt1 : TT} {te : TE} {vs vs1 sl sl1 : List Nat} {ti ti1 : QTI} {qg qg1 : QTG} {qt qt1 : QTT} {qe : QT} (h1 : RzI K wi ti) (h2 : RzG K g sl qg) (h3 : RzT K tt qt) (i1 : RzI0 K wi1 ti1) (g1 : RzG K gg1 sl1 qg1) (t1 : RzT K tt1 qt1) (h4 : Rz K te qe)
    (hs : ∀ i ∈ sl, i ∈ vs) (hs1 : ∀ i ∈ sl1, i ∈ vs1) : Rz K (tLc2 wi g tt wi1 gg1 tt1 te vs vs1) (qLc2 ti qg qt ti1 qg1 qt1 qe vs vs1) := by
  intro G H σ ρ pd Q F R1 hw f
  refine h1 G H σ ρ pd _ _ R1 hw fun J ps ρ1 pd1 H1 sb R2 wk ⟨nio, go⟩ D hD => ?_
  have kx := R2.exk
  have kD : G.keep D = none := by
    cases q : G.keep D with
    | none => rfl
    | some u => rw [R2.keep D u q] at hD; cases hD
  let W : Nat → Nat → Hp → Prop := fun i m H => m = ps.length - i ∧ i ≤ ps.length ∧ ∃ (ρ' : En) (acc : List PV) (av : List V), RE K (G.add D (.lst av)) H (L2.wipe σ vs) (wipeE ρ' vs) (acc.zip av ++ pd1) ∧ acc.length = av.length ∧ lc2Go qg qt ti1 qg1 qt1 qe vs vs1 (fun acc ρ' => Q (.fr (.lst acc)) ρ') (ps.drop i) acc (wipeE ρ' vs)
  refine ⟨W, ⟨ps.length, by simp, Nat.zero_le _, ρ1, [], [], ?_, rfl, go⟩, ?_⟩
  · exact (R2.wipe vs nio).add (o := .lst []) hD (same_new hD) upd_same trivial
  rintro i m H2 ⟨rfl, hi, ρ', acc, av, R3, la, q1⟩
  by_cases lt : i < ps.length
  · have ep : ps[i]? = some ps[i] := List.getElem?_eq_getElem lt
    obtain ⟨jg, jy⟩ := wk.item _ H2 _ _ _ i _ (fun x hx => List.mem_append_right _ hx) (add_keep kD fun _ _ e => e) R3 ep
    refine .inr ⟨jg, fun H' => W (i + 1) (ps.length - (i + 1)) H', fun H' w => ⟨_, by omega, w⟩, fun x H3 y => ?_⟩
    have R4 := jy x H3 y
    rw [List.drop_eq_getElem_cons lt] at q1
    refine h2 _ H3 _ _ _ _ x _ _ R4 q1 fun σ2 ρ2 H4 l2 k2 R5 g2 => ?_
    have wa : L2.wipe σ2 vs = L2.wipe σ vs := by
      rw [← wipe_wipe σ vs]
      exact wipe_agree l2 fun j hj => k2 j fun z => hj (hs j z)
    refine ⟨wa, h3 _ H4 σ2 ρ2 _ _ _ R5 g2 fun b ρ3 H5 R6 g3 => ?_⟩
    cases b with
    | false =>
      obtain ⟨n3, g4⟩ := g3.2 rfl
      refine ⟨rfl, lt, ρ3, acc, av, ?_, la, g4⟩
      have R7 := R6.wipe vs n3
      rw [wa] at R7
      exact R7
    | true =>
      have g4 := g3.1 rfl
      show wi1 σ2 H5 _
      refine i1 _ H5 σ2 ρ3 _ _ _ R6 g4 fun J1 qs ρ4 pd2 H6 sb2 R7 wk1 ⟨nio1, go1⟩ => ?_
      refine ⟨fun j k H => k = qs.length - j ∧ j ≤ qs.length ∧ ∃ (ρ' : En) (acc' : List PV) (av' : List V), RE K (G.add D (.lst av')) H (L2.wipe σ2 vs1) (wipeE ρ' vs1) (acc'.zip av' ++ pd2) ∧ acc'.length = av'.length ∧
        lcGo qg1 qt1 qe vs1 (fun acc' ρ4 => notIos ρ4 vs ∧ lc2Go qg qt ti1 qg1 qt1 qe vs vs1 (fun acc ρ' => Q (.fr (.lst acc)) ρ') (ps.drop (i + 1)) acc' (wipeE ρ4 vs)) (qs.drop j) acc' (wipeE ρ' vs1), ⟨qs.length, by simp, Nat.zero_le _, ρ4, acc, av, ?_, la, go1⟩, ?_⟩
      · refine (R7.wipe vs1 nio1).pds fun x hx => ?_
        rcases List.mem_append.mp hx with hx | hx
        · exact sb2 x (List.mem_append_left _ hx)
        · exact hx
      rintro j k H7 ⟨rfl, hj, ρ5, acc', av', R8, la', g5⟩
      by_cases lt1 : j < qs.length
      · have eq1 : qs[j]? = some qs[j] := List.getElem?_eq_getElem lt1
        obtain ⟨jg1, jy1⟩ := wk1.item _ H7 _ _ _ j _ (fun x hx => List.mem_append_right _ hx) (fun _ _ e => by cases e) R8 eq1
        refine .inr ⟨jg1, fun H' => j + 1 ≤ qs.length ∧ ∃ (ρ' : En) (acc' : List PV) (av' : List V), RE K (G.add D (.lst av')) H' (L2.wipe σ2 vs1) (wipeE ρ' vs1) (acc'.zip av' ++ pd2) ∧ acc'.length = av'.length ∧
          lcGo qg1 qt1 qe vs1 (fun acc' ρ4 => notIos ρ4 vs ∧ lc2Go qg qt ti1 qg1 qt1 qe vs vs1 (fun acc ρ' => Q (.fr (.lst acc)) ρ') (ps.drop (i + 1)) acc' (wipeE ρ4 vs)) (qs.drop (j + 1)) acc' (wipeE ρ' vs1), fun H' w => ⟨_, by omega, rfl, w⟩, fun x1 H8 y1 => ?_⟩
        have R9 := jy1 x1 H8 y1
        rw [List.drop_eq_getElem_cons lt1] at g5
        refine g1 _ H8 _ _ _ _ x1 _ _ R9 g5 fun σ3 ρ6 H9 l3 k3 R10 g6 => ?_
        have wa1 : L2.wipe σ3 vs1 = L2.wipe σ2 vs1 := by
          rw [← wipe_wipe σ2 vs1]
          exact wipe_agree l3 fun j hj => k3 j fun z => hj (hs1 j z)
        refine ⟨wa1, t1 _ H9 σ3 ρ6 _ _ _ R10 g6 fun b1 ρ7 H10 R11 g7 => ?_⟩
        cases b1 with
        | false =>
          obtain ⟨n7, g8⟩ := g7.2 rfl
          refine ⟨lt1, ρ7, acc', av', ?_, la', g8⟩
          have R12 := R11.wipe vs1 n7
          rw [wa1] at R12
          exact R12
        | true =>
          have g8 := g7.1 rfl
          show te σ3 H10 _
          refine h4 _ H10 σ3 ρ7 _ _ _ R11 g8 fun r ρ8 v H11 s g9 => ?_
          have s' := s.wk
          cases er : r.wk with
          | pv q =>
            rw [er] at s' g9
            obtain ⟨sm, n8, g10⟩ := g9
            have R12 : RE K (G.add D (.lst av')) H11 σ3 ρ8 ((q, v) :: (acc'.zip av' ++ pd2)) := s'
            refine ⟨av', R12.keep D _ upd_same, by rw [← la']; exact sm, lt1, ρ8, acc' ++ [q], av' ++ [v], ?_, by simp [la'], g10⟩
            have R13 := (R12.wipe vs1 n8).readd (o' := .lst (av' ++ [v])) trivial
            rw [wa1] at R13
            refine R13.pds fun x hx => ?_
            rw [List.zip_append la'] at hx
            rcases List.mem_append.mp hx with hx | hx
            · rcases List.mem_append.mp hx with hx | hx
              · exact List.mem_cons_of_mem _ (List.mem_append_left _ hx)
              · have : x = (q, v) := by simpa using hx
                rw [this]; exact List.mem_cons_self
            · exact List.mem_cons_of_mem _ (List.mem_append_right _ hx)
          | sl j => rw [er] at g9; exact g9.elim
          | fr q => rw [er] at g9; exact g9.elim
      · have e : j = qs.length := by omega
        subst e
        refine .inl ⟨wk1.stop _ H7 _ _ _ _ (fun x hx => List.mem_append_right _ hx) (fun _ _ e => by cases e) R8 (Nat.le_refl _), ?_⟩
        rw [List.drop_length] at g5
        obtain ⟨n6, g6⟩ := g5
        refine ⟨rfl, lt, wipeE ρ5 vs1, acc', av', ?_, la', g6⟩
        have R9 := R8.unwipe.wipe vs n6
        rw [wa] at R9
        refine R9.pds fun x hx => ?_
        rcases List.mem_append.mp hx with hx | hx
        · exact List.mem_append_left _ hx
        · exact List.mem_append_right _ (sb2 x (List.mem_append_right _ hx))
  · have e : i = ps.length := by omega
    subst e
    refine .inl ⟨wk.stop _ H2 _ _ _ _ (fun x hx => List.mem_append_right _ hx) (add_keep kD fun _ _ e => e) R3 (Nat.le_refl _), ?_⟩
    rw [List.drop_length] at q1
    have R4 := R3.unwipe
    refine f (.fr (.lst acc)) (wipeE ρ' vs) (.ref D) H2 ⟨D, .lst av, rfl, kD, kx, R4.pds fun x hx => List.mem_append_right _ (sb x hx), ?_⟩ q1
    exact iss_of_pd la fun x hx => R4.pd x (List.mem_append_left _ hx)
section
variable {X : Cx} {elt tg iter tg1 iter1 : Expr} {ifs ifs1 : List Expr} {scope : Scope} {own : List (Str × Nat)} {pos spos py : Pos} {y : Str} {ti ti1 : QTI} {g g1 : QTG} {tt tt1 : QTT} {te : QT} {sl sl1 : List Nat}
theorem qe_lc2 (hc : X.calm = true) (hN : X.N.Nodup) (ok : BlkOk X.N X.env.scope scope own) (hi : QI X tg iter ti) (hg : ∀ c, QG (blkX X scope c) tg sl g) (ht : ∀ c, QCs (blkX X scope c) ifs tt) (hi1 : ∀ c, QI0 (blkX X scope c) tg1 iter1 ti1) (hg1 : ∀ c, QG (blkX X scope c) tg1 sl1 g1) (ht1 : ∀ c, QCs (blkX X scope c) ifs1 tt1) (he : ∀ c, QE (blkX X scope c) elt te) {vs1 : List Nat}
    (hv : ∀ i ∈ vs1, i ∈ own.map (·.2) := by decide) (hs : ∀ i ∈ sl, i ∈ own.map (·.2) := by decide) (hs1 : ∀ i ∈ sl1, i ∈ vs1 := by decide) (hf : ∀ x, foldedSetIterable iter X.env x = pure x := by intro _; rfl) (hf1 : ∀ env x, foldedSetIterable iter1 env x = pure x := by intro _ _; rfl) {vs : List Nat} (hvs : vs = own.map (·.2) := by rfl) :
    QE X (.ListComp elt [⟨tg, iter, ifs, 0⟩, ⟨tg1, iter1, ifs1, 0⟩] scope pos) (qLc2 ti g tt ti1 g1 tt1 te vs vs1) := by
  subst hvs
  obtain ⟨wi, p1, q1⟩ := hi.ex
  obtain ⟨g1', p2, q2⟩ := QG.all (X := blkX X scope) (K := X.K) (fun _ => rfl) hg
  obtain ⟨t1, p3, q3⟩ := QCs.all (X := blkX X scope) (K := X.K) (fun _ => rfl) ht
  obtain ⟨e1, p4, q4⟩ := QE.all (X := blkX X scope) (K := X.K) (fun _ => rfl) he
  obtain ⟨w1, p5, q5⟩ := QI0.all (X := blkX X scope) (K := X.K) (fun _ => rfl) hi1
  obtain ⟨gg, p6, q6⟩ := QG.all (X := blkX X scope) (K := X.K) (fun _ => rfl) hg1
  obtain ⟨t2, p7, q7⟩ := QCs.all (X := blkX X scope) (K := X.K) (fun _ => rfl) ht1
  exact ⟨_, pe_lc2 hc hN p1 ok hv (fun s H C cl fp => p2 (s, H, C, cl, fp)) (fun s H C cl fp => p3 (s, H, C, cl, fp)) (fun s H C cl fp => p5 (s, H, C, cl, fp)) (fun s H C cl fp => p6 (s, H, C, cl, fp)) (fun s H C cl fp => p7 (s, H, C, cl, fp)) (fun s H C cl fp => p4 (s, H, C, cl, fp)) hf hf1, rz_lc2 q1 q2 q3 q5 q6 q7 q4 hs hs1⟩
theorem qs_setLc2 (i : Nat) (hc : X.calm = true) (hN : X.N.Nodup) (hsw : swapsWith (.ListComp elt [⟨tg, iter, ifs, 0⟩, ⟨tg1, iter1, ifs1, 0⟩] scope pos) (some (.Name y py)) spos.line X.env = pure true) (ok : BlkOk X.N X.env.scope scope own) (hi : QI X tg iter ti) (hg : ∀ c, QG (blkX X scope c) tg sl g) (ht : ∀ c, QCs (blkX X scope c) ifs tt) (hi1 : ∀ c, QI0 (blkX X scope c) tg1 iter1 ti1) (hg1 : ∀ c, QG (blkX X scope c) tg1 sl1 g1) (ht1 : ∀ c, QCs (blkX X scope c) ifs1 tt1) (he : ∀ c, QE (blkX X scope c) elt te) {vs1 : List Nat}
    (hv : ∀ i ∈ vs1, i ∈ own.map (·.2) := by decide) (hs : ∀ i ∈ sl, i ∈ own.map (·.2) := by decide) (hs1 : ∀ i ∈ sl1, i ∈ vs1 := by decide) (hy : X.N[i]? = some y := by rfl) (hyl : X.env.scope.names.lookup y = some .local := by rfl) (hf : ∀ x, foldedSetIterable iter X.env x = pure x := by intro _; rfl) (hf1 : ∀ env x, foldedSetIterable iter1 env x = pure x := by intro _ _; rfl) {vs : List Nat} (hvs : vs = own.map (·.2) := by rfl) :
    QS X (.Assign [.Name y py] (.ListComp elt [⟨tg, iter, ifs, 0⟩, ⟨tg1, iter1, ifs1, 0⟩] scope pos) spos) (qSet i (qLc2 ti g tt ti1 g1 tt1 te vs vs1)) := by
  subst hvs
  obtain ⟨wi, p1, q1⟩ := hi.ex
  obtain ⟨g1', p2, q2⟩ := QG.all (X := blkX X scope) (K := X.K) (fun _ => rfl) hg
  obtain ⟨t1, p3, q3⟩ := QCs.all (X := blkX X scope) (K := X.K) (fun _ => rfl) ht
  obtain ⟨e1, p4, q4⟩ := QE.all (X := blkX X scope) (K := X.K) (fun _ => rfl) he
  obtain ⟨w1, p5, q5⟩ := QI0.all (X := blkX X scope) (K := X.K) (fun _ => rfl) hi1
  obtain ⟨gg, p6, q6⟩ := QG.all (X := blkX X scope) (K := X.K) (fun _ => rfl) hg1
  obtain ⟨t2, p7, q7⟩ := QCs.all (X := blkX X scope) (K := X.K) (fun _ => rfl) ht1
  exact ⟨_, ps_setLc2 hc hN hy hyl hsw p1 ok hv (fun s H C cl fp => p2 (s, H, C, cl, fp)) (fun s H C cl fp => p3 (s, H, C, cl, fp)) (fun s H C cl fp => p5 (s, H, C, cl, fp)) (fun s H C cl fp => p6 (s, H, C, cl, fp)) (fun s H C cl fp => p7 (s, H, C, cl, fp)) (fun s H C cl fp => p4 (s, H, C, cl, fp)) hf hf1, rz_set (rz_lc2 q1 q2 q3 q5 q6 q7 q4 hs hs1)⟩
end
end Px
namespace Px
open PySem L2 PySem.Spec PyProof.Rows PySem.W
/-! ### <, > and sorted of data -/
def dOk (p q : PV) : Prop := eqOkW p ∧ eqOkW q ∧ alike (toD p) (toD q) = true ∧ isNon p = false
def ltX (p q : PV) : Bool := dataLt (toD p) (toD q)
def gLtX (p q : PV) (Q : R → Prop) : Prop := dOk p q ∧ Q (.pv (.bl (ltX p q)))
def gGtX (p q : PV) (Q : R → Prop) : Prop := dOk p q ∧ Q (.pv (.bl (ltX q p)))
theorem toD_none {p : PV} (h : isNon p = false) : toD p ≠ .none := by
  intro e
  cases p <;> first | (simp [isNon] at h; done) | (rw [toD] at e; cases e)
mutual
theorem depth_toD : ∀ {p : PV}, plain p = true → (toD p).depth = dep p
  | .non, _ => rfl
  | .bl _, _ => rfl
  | .int _, _ => rfl
  | .str _, _ => rfl
  | .tup ps, h => by rw [toD, PyData.depth, dep, depth_toDs (by rw [plain] at h; exact h)]
  | .lst ps, h => by rw [toD, PyData.depth, dep, depth_toDs (by rw [plain] at h; exact h)]
  | .dic _ _, h => by simp [plain] at h
  | .scr _, h => by simp [plain] at h
  | .ty _, h => by simp [plain] at h
theorem depth_toDs : ∀ {ps : List PV}, plains ps = true → PyData.depthAll (toDs ps) = deps ps
  | [], _ => rfl
  | p :: ps, h => by
    rw [plains, Bool.and_eq_true] at h
    rw [toDs, PyData.depthAll, deps, depth_toD h.1, depth_toDs h.2]
end
section
variable {X : Cx}
def rLtL (K : PySem.W.Frag) (gt : Bool) : R2 := fun x y H Q => ∃ d e, Dp K H x d ∧ Dp K H y e ∧ (d.canLay0 = true ∧ d.depth ≤ 190) ∧ alike d e = true ∧ d ≠ .none ∧ Q (.bl (if gt = true then dataLt e d else dataLt d e)) H
theorem op_ltL (hu : X.A.units + 190 < cLine) : OpR X (compareOp .Lt) (rLtL X.K false) := by
  intro pins s σ H x y v u Q I rx ry h
  obtain ⟨d, e, hd, he, sd, al, nn, q⟩ := h
  obtain ⟨as, r1⟩ := Dp.reads I d x v hd rx
  obtain ⟨bs, r2⟩ := Dp.reads I e y u he ry
  exact PySem.W.lt_data r1 r2 al nn (by have := Nat.min_le_left d.depth e.depth; have := sd.2; omega) ⟨.bl _, H, I, rfl, q⟩
theorem op_gtL (hu : X.A.units + 190 < cLine) : OpR X (compareOp .Gt) (rLtL X.K true) := by
  intro pins s σ H x y v u Q I rx ry h
  obtain ⟨d, e, hd, he, sd, al, nn, q⟩ := h
  obtain ⟨as, r1⟩ := Dp.reads I d x v hd rx
  obtain ⟨bs, r2⟩ := Dp.reads I e y u he ry
  exact PySem.W.gt_data r1 r2 al nn (by have := Nat.min_le_left d.depth e.depth; have := sd.2; omega) ⟨.bl _, H, I, rfl, q⟩
theorem op_ltX (hu : X.A.units + 190 < cLine) : OpP X (compareOp .Lt) gLtX := by
  refine ⟨_, op_ltL hu, fun H W p q x y Q F m l1 l2 z f => ?_⟩
  obtain ⟨⟨h1, h2, h3, h4⟩, h5⟩ := z
  obtain ⟨d1, c1, z1⟩ := lk_dp h1.1 l1
  obtain ⟨d2, c2, z2⟩ := lk_dp h2.1 l2
  exact ⟨_, _, d1, d2, ⟨c1, by rw [z1]; exact h1.2⟩, h3, toD_none h4, fin1 f (p := .bl _) rfl h5⟩
theorem op_gtX (hu : X.A.units + 190 < cLine) : OpP X (compareOp .Gt) gGtX := by
  refine ⟨_, op_gtL hu, fun H W p q x y Q F m l1 l2 z f => ?_⟩
  obtain ⟨⟨h1, h2, h3, h4⟩, h5⟩ := z
  obtain ⟨d1, c1, z1⟩ := lk_dp h1.1 l1
  obtain ⟨d2, c2, z2⟩ := lk_dp h2.1 l2
  exact ⟨_, _, d1, d2, ⟨c1, by rw [z1]; exact h1.2⟩, h3, toD_none h4, fin1 f (p := .bl _) rfl h5⟩
theorem room190 {k : Nat} {A : Around} (hr : Room k A) : A.units + 190 < cLine := by have := hr.un; omega
theorem room200 {k : Nat} {A : Around} (hr : Room k A) : A.units + 200 < cLine := by have := hr.un; omega
def leX : PV → PV → Bool := dataLe false toD
def gSortX (ps : List PV) (Q : R → Prop) : Prop := match ps with
  | [.lst ps] => (∀ p ∈ ps, eqOkW p ∧ ∃ x r, p = .tup (x :: r)) ∧ (∀ p ∈ ps, ∀ q ∈ ps, alike (toD p) (toD q) = true) ∧ small ps.length ∧ Q (.fr (.lst (ps.mergeSort leX)))
  | _ => False
def rSortX (K : PySem.W.Frag) : List V → Hp → VK → Prop := fun vs H Q => ∃ (a : Addr) (W : Addr → Prop) (ps : List PV) (xs : List V), vs = [.ref a] ∧ H a = some (.lst xs) ∧ Iss K H W ps xs ∧ (∀ p ∈ ps, eqOkW p ∧ ∃ x r, p = .tup (x :: r)) ∧ (∀ p ∈ ps, ∀ q ∈ ps, alike (toD p) (toD q) = true) ∧ small ps.length ∧
  ∀ zs d, Iss K H W (ps.mergeSort leX) zs → H d = none → Q (.ref d) (upd H d (.lst zs))
theorem each_of {K : PySem.W.Frag} {H : Hp} {W : Addr → Prop} : ∀ {ps : List PV} {xs : List V} {us : List Value}, Iss K H W ps xs → Vals xs us → EachIs (fun u p => ∃ x : V, RelV x u ∧ Is K H W p x) us ps
  | [], xs, us, i, v => by
    cases (show xs = [] from i)
    cases v
    exact .nil
  | p :: ps, xs, us, i, v => by
    obtain ⟨x, r, rfl, h1, h2⟩ := i
    cases v with
    | cons h t => exact .cons ⟨x, h, h1⟩ (each_of h2 t)
theorem each_back {K : PySem.W.Frag} {H : Hp} {W : Addr → Prop} : ∀ {us : List Value} {ps : List PV}, EachIs (fun u p => ∃ x : V, RelV x u ∧ Is K H W p x) us ps → ∃ xs, Vals xs us ∧ Iss K H W ps xs
  | [], [], _ => ⟨[], .nil, rfl⟩
  | u :: us, p :: ps, .cons ⟨x, h1, h2⟩ t => by
    obtain ⟨xs, h3, h4⟩ := each_back t
    exact ⟨x :: xs, .cons h1 h3, x, xs, rfl, h2, h4⟩
theorem each_mem {R R' : Value → PV → Prop} : ∀ {us : List Value} {ps : List PV}, EachIs R us ps → (∀ u p, p ∈ ps → R u p → R' u p) → EachIs R' us ps
  | [], [], .nil, _ => .nil
  | u :: us, p :: ps, .cons h t, f => .cons (f u p List.mem_cons_self h) (each_mem t fun u p hp => f u p (List.mem_cons_of_mem _ hp))
theorem cr_sortX (hu : X.A.units + 200 < cLine) : CallR X (.builtin "sorted") (rSortX X.K) := by
  intro pins s σ H vs us Q I r h
  obtain ⟨a, W, ps, xs, rfl, hs, iss, ht, hal, sm, q⟩ := h
  obtain ⟨its, rv, hl, hz⟩ := I.list (.inl (.inl hs))
  obtain ⟨u, rfl, ru⟩ := vals1 r
  obtain rfl : u = Value.ref a := ru
  have ea := each_of iss rv
  refine sorted_data (enc := toD) (bs := ps) hl.isList ea (each_mem ea fun u p hp ⟨x, h1, h2⟩ => ?_) ?_ ?_ sm (fun p hp => ?_) fun out lo eo => ?_
  · obtain ⟨d1, _, _⟩ := dp_of p x (ht p hp).1.1 h2
    exact Dp.reads I _ x u d1 h1
  · intro d hd d' hd'
    obtain ⟨p, hp, rfl⟩ := List.mem_map.mp hd
    obtain ⟨q, hq, rfl⟩ := List.mem_map.mp hd'
    exact hal p hp q hq
  · refine .inl fun d hd => ?_
    obtain ⟨p, hp, rfl⟩ := List.mem_map.mp hd
    obtain ⟨_, x, r, rfl⟩ := ht p hp
    exact ⟨toD x, toDs r, by rw [toD, toDs]⟩
  · have h1 := (ht p hp).1
    have : (toD p).depth = dep p := depth_toD h1.1
    rw [this]
    have := h1.2
    omega
  · obtain ⟨zs, vz, iz⟩ := each_back eo
    obtain ⟨n, hn⟩ := sortedAll_at s.heap its out.toArray
    have kp : ∀ b o, s.heap.get? b = some o → (sortedAll s.heap its out.toArray).get? b = some o := fun b o e => sortedAll_old e
    refine ⟨.ref (s.heap.objs.size + 1), upd H (s.heap.objs.size + 1) (.lst zs), I.laid (t' := s.toks) kp (Nat.le_succ _) ⟨?_, out, n, vz, hn⟩, rfl, q zs _ iz (I.hok.fresh (Nat.le_succ _))⟩
    rw [vz.length, lo]; exact sm
theorem call_sortX (hu : X.A.units + 200 < cLine) : CallP X (.builtin "sorted") gSortX := by
  refine ⟨_, cr_sortX hu, fun H W ps xs Q F m l g f => ?_⟩
  unfold gSortX at g
  split at g
  · rename_i ps
    obtain ⟨x, rfl, h⟩ := lks1 l
    obtain ⟨a, vs, e, r, i⟩ := h
    subst e
    obtain ⟨h1, h2, h3, h4⟩ := g
    exact ⟨a, W, ps, vs, rfl, r, i, h1, h2, h3, fun zs d iz hd => f _ _ _ (same_new hd) (resLst m iz hd) h4⟩
  · exact g.elim
end
end Px
namespace Px
open PySem L2 PyProof.Rows
/-! ### a call that looks at own things and gives a new object -/
section
variable {K : PySem.W.Frag} {G : Gd} {H H' : Hp} {σ : L2.St} {ρ : En} {pd : Pds} {S : FS} {vs : List V} {ps : List PV} {js bs : List Nat}
theorem callF_end {pd0 : Pds} {v : V} {r : PV} {outs : List PV} (R1 : RE K G H σ ρ pd) (sb : ∀ x ∈ pd0, x ∈ pd) (s : SplB σ ρ pd S.io vs ps js bs) (nd : js.Nodup) (dj : ∀ j ∈ bs, j ∉ js) (iob : ∀ b, Iob S.io vs b → WS G σ ρ b) (lo : outs.length = js.length) (hf : S.fr = true) (ir : immO r = true) (io : ∀ q ∈ outs, immO q = true)
    (fin : Fin K S H (fun b => WS G σ ρ b ∧ ¬ Iob S.io vs b ∧ ¬ Bo σ bs b) vs v H' r outs) : Res K G H' σ (putOuts js outs ρ) pd0 (.fr r) v := by
  have jo := s.js
  obtain ⟨p1, p2, p3⟩ := putOuts_spec (ρ := ρ) nd lo jo
  have A : Alike ρ (putOuts js outs ρ) := by
    refine ⟨p1, fun i => ?_⟩
    by_cases hi : i ∈ js
    · obtain ⟨k, lk, e⟩ := List.getElem_of_mem hi
      have lk' : k < outs.length := by rw [lo]; exact lk
      obtain ⟨b, p, h1, h2⟩ := p3 k i outs[k] (by rw [List.getElem?_eq_getElem lk, e]) (List.getElem?_eq_getElem lk')
      exact .inr ⟨b, p, _, h1, h2⟩
    · exact .inl (p2 i hi)
  -- an owned slot that is no argument: its object stands
  have stay : ∀ (i : Nat) (b : Bool) (q : PV) (a : Addr), i ∉ js → ρ[i]? = some (Sl.own b q) → σ[i]? = some (some (V.ref a)) → ¬ Iob S.io vs a := fun i b q a hi e1 e2 ⟨m, f1, f2⟩ => by
    obtain ⟨_, l2, _⟩ := s.len
    have lm : m < ps.length := by rw [l2]; exact (List.getElem?_eq_some_iff.mp f1).1
    obtain ⟨v', g1, _, g2⟩ := s.get f1 (List.getElem?_eq_getElem lm)
    obtain ⟨j, c, mj, g3, g4⟩ := g2 rfl
    rw [f2] at g1; cases g1
    exact hi (by rw [R1.inj i j b c q _ a e1 g3 e2 g4]; exact mj)
  have keepG : ∀ b o, G.keep b = some o → H' b = some o := fun b o e => by
    refine fin.keep b o (R1.keep b o e) fun z => ?_
    rcases iob b z with w | ⟨i, c, p, e1, e2⟩
    · obtain ⟨m, f1, f2⟩ := z
      obtain ⟨_, l2, _⟩ := s.len
      have lm : m < ps.length := by rw [l2]; exact (List.getElem?_eq_some_iff.mp f1).1
      obtain ⟨v', g1, _, g2⟩ := s.get f1 (List.getElem?_eq_getElem lm)
      obtain ⟨j, c, mj, g3, g4⟩ := g2 rfl
      rw [f2] at g1; cases g1
      obtain ⟨a, h1, h2, _⟩ := R1.own j c _ g3
      rw [g4] at h1; cases h1
      rw [h2] at e; cases e
    · obtain ⟨a, h1, h2, _⟩ := R1.own i c p e1
      rw [e2] at h1; cases h1
      rw [h2] at e; cases e
  obtain ⟨a, o, rfl, na, ea, w⟩ := fin.new hf
  have kn : G.keep a = none := by
    cases q : G.keep a with
    | none => rfl
    | some u => rw [R1.keep a u q] at na; cases na
  have R2 : RE K (G.add a o) (upd H a o) σ ρ pd := R1.add na (same_new na) upd_same w.mut
  have kp2 : ∀ b u, upd H a o b = some u → ¬ WS (G.add a o) σ ρ b → H' b = some u := fun b u e n => by
    have ne : b ≠ a := fun z => n (.inl (.inl z))
    rw [upd_ne ne] at e
    exact fin.keep b u e fun z => n ((iob b z).elim (fun w => .inl (.inr w)) .inr)
  have R3 : RE K (G.add a o) H' σ (putOuts js outs ρ) pd := by
    refine R2.swap A kp2 (fun b u e => ?_) fun i b q c e1 e2 => ?_
    · have e' : upd G.keep a o b = some u := e
      by_cases z : b = a
      · rw [z] at e' ⊢; rw [upd_same] at e'; cases e'; exact ea
      · rw [upd_ne z] at e'; exact keepG b u e'
    · by_cases hi : i ∈ js
      · obtain ⟨k, lk, e⟩ := List.getElem_of_mem hi
        have lk' : k < outs.length := by rw [lo]; exact lk
        have ek : js[k]? = some i := by rw [List.getElem?_eq_getElem lk, e]
        have eo : outs[k]? = some outs[k] := List.getElem?_eq_getElem lk'
        obtain ⟨b', p, h1, h2⟩ := p3 k i outs[k] ek eo
        rw [e1] at h2; cases h2
        obtain ⟨m, v', g1, g2, g3, g4⟩ := s.io ek eo
        rw [e2] at g3; cases g3
        obtain ⟨u, ho, w'⟩ := fin.outs m _ c g4 g2
        exact ⟨u, ho, w'.immO (io _ (List.getElem_mem lk'))⟩
      · rw [p2 i hi] at e1
        obtain ⟨d, f1, f2, u, f3, w'⟩ := R2.own i b q e1
        rw [e2] at f1; cases f1
        have nd : c ≠ a := fun z => by
          obtain ⟨d', f1', _, u', f3', _⟩ := R1.own i b q e1
          rw [e2] at f1'; cases f1'
          rw [z, na] at f3'; cases f3'
        rw [upd_ne nd] at f3
        exact ⟨u, fin.keep c u f3 (stay i b q c hi e1 e2), w'.move kp2 R2.mut fun _ _ w => w⟩
  exact ⟨a, o, rfl, kn, R1.exk, R3.pds sb, w.immO ir⟩
end
def callRF (S : FS) (rs : List R) (ρ1 : En) (Q : PK1) (_ : Dum Q) : Prop := match splitB ρ1 S.io rs with
  | some (ps, js, bs) => (js.Nodup ∧ (∀ j ∈ bs, j ∉ js) ∧ S.fr = true) ∧ S.pre ps ∧ ∀ r outs, S.post ps r outs → outs.length = js.length → (immO r = true ∧ ∀ q ∈ outs, immO q = true) ∧ Q (.fr r) (putOuts js outs ρ1)
  | none => False
def qCallF (S : FS) (ta : QTA) (ρ : En) (Q : PK1) : Prop := ta ρ fun rs ρ1 => callRF S rs ρ1 Q .mk
section
variable {X : Cx} {k j : Nat} {x : Str} {ps : List Str} {S : FS} {e : Expr} {es : List Expr} {t : QTA} {p pos : Pos}
theorem rz_callF {K : PySem.W.Frag} {ta : TA} {E : XK} (q : RzA K ta t) : Rz K (tCall (spP K S) [] E ta) (qCallF S t) := by
  intro G H σ ρ pd Q F R1 h ff
  refine q G H σ ρ pd _ _ R1 h fun rs ρ1 pd1 vs H1 sb R2 ar g => ?_
  unfold callRF at g
  cases es : splitB ρ1 S.io rs with
  | none => rw [es] at g; exact g.elim
  | some z =>
    obtain ⟨pvs, js, bs⟩ := z
    rw [es] at g
    have s := splB_of ar es
    show spP K S (vs ++ []) H1 F E
    rw [List.append_nil]
    obtain ⟨⟨nd, dj, hf⟩, pre, post⟩ := g
    obtain ⟨R3, iob⟩ := callB_start R2 s nd dj
    obtain ⟨l1, l2, l3⟩ := s.len
    refine ⟨pvs, _, l2, l1, R3, pre, fun v H' r outs hp lo fin => ?_⟩
    obtain ⟨⟨ir, io⟩, hq⟩ := post r outs hp (lo.trans l3.symm)
    exact ff _ _ v H' (callF_end R2 sb s nd dj iob (lo.trans l3.symm) hf ir io fin) hq
theorem qe_callHF (h : Has X.prog X.w X.K X.mg X.base x j ps S) (hr : Room j X.A) (ha : QA X (e :: es) t) (hg : Gl X x := by rfl) (hdb : (x == ("__debug__" : Str)) = false := by decide)
    (he : starEach (e :: es) X.env = (false, eval e X.env) :: starEach es X.env := by rfl) (hpl : (backTo pos (starEach es X.env)).any (·.1) = false := by rfl) : QE X (.Call (.Name x p) (e :: es) [] pos) (qCallF S t) := by
  obtain ⟨f, fd, F, m, kk, b, _⟩ := h.ex
  obtain ⟨ta, p1, q⟩ := ha.ex
  exact ⟨_, pe_call F hr hg m kk b .nil pass0 p1 hdb he hpl, rz_callF q⟩
end
end Px
set_option Elab.async false
set_option linter.all false
set_option autoImplicit false
namespace Un
/-! ### terms, what stands for names -/
inductive Tm (S : Type) where
  | v (x : S) | n (w : S) (ps : List (Tm S))
section
variable {S : Type} [DecidableEq S]
mutual
def occ (x : S) : Tm S → Prop
  | .v y => x = y
  | .n _ ps => occs x ps
def occs (x : S) : List (Tm S) → Prop
  | [] => False
  | p :: ps => occ x p ∨ occs x ps
end
mutual
def ap (θ : S → Tm S) : Tm S → Tm S
  | .v y => θ y
  | .n w ps => .n w (aps θ ps)
def aps (θ : S → Tm S) : List (Tm S) → List (Tm S)
  | [] => []
  | p :: ps => ap θ p :: aps θ ps
end
mutual
def sz : Tm S → Nat
  | .v _ => 1
  | .n _ ps => szs ps + 1
def szs : List (Tm S) → Nat
  | [] => 0
  | p :: ps => sz p + szs ps
end
mutual
def dp : Tm S → Nat
  | .v _ => 0
  | .n _ ps => dps ps + 1
def dps : List (Tm S) → Nat
  | [] => 0
  | p :: ps => max (dp p) (dps ps)
end
theorem aps_map (θ : S → Tm S) : ∀ ps : List (Tm S), aps θ ps = ps.map (ap θ)
  | [] => by rw [aps]; rfl
  | p :: ps => by rw [aps, aps_map θ ps]; rfl
theorem occs_iff (x : S) : ∀ ps : List (Tm S), occs x ps ↔ ∃ p ∈ ps, occ x p
  | [] => by simp [occs]
  | p :: ps => by rw [occs, occs_iff x ps]; simp
theorem dps_mem : ∀ {ps : List (Tm S)} {p : Tm S}, p ∈ ps → dp p ≤ dps ps
  | [], p, h => by cases h
  | q :: ps, p, h => by
    rw [dps]
    rcases List.mem_cons.mp h with rfl | h
    · omega
    · have := dps_mem h; omega
mutual
theorem ap_congr {θ φ : S → Tm S} : ∀ t : Tm S, (∀ x, occ x t → θ x = φ x) → ap θ t = ap φ t
  | .v y, h => h y rfl
  | .n w ps, h => by rw [ap, ap, aps_congr ps fun x hx => h x hx]
theorem aps_congr {θ φ : S → Tm S} : ∀ ps : List (Tm S), (∀ x, occs x ps → θ x = φ x) → aps θ ps = aps φ ps
  | [], _ => rfl
  | p :: ps, h => by rw [aps, aps, ap_congr p fun x hx => h x (.inl hx), aps_congr ps fun x hx => h x (.inr hx)]
end
mutual
theorem ap_inj {θ φ : S → Tm S} : ∀ t : Tm S, ap θ t = ap φ t → ∀ x, occ x t → θ x = φ x
  | .v y, h, x, o => by cases (show x = y from o); exact h
  | .n w ps, h, x, o => by
    rw [ap, ap] at h
    exact aps_inj ps (by injection h) x o
theorem aps_inj {θ φ : S → Tm S} : ∀ ps : List (Tm S), aps θ ps = aps φ ps → ∀ x, occs x ps → θ x = φ x
  | [], _, x, o => o.elim
  | p :: ps, h, x, o => by
    rw [aps, aps] at h
    injection h with h1 h2
    rcases o with o | o
    · exact ap_inj p h1 x o
    · exact aps_inj ps h2 x o
end
mutual
theorem ap_ap (θ φ : S → Tm S) : ∀ t : Tm S, ap θ (ap φ t) = ap (fun x => ap θ (φ x)) t
  | .v y => rfl
  | .n w ps => by rw [ap, ap, ap, aps_aps θ φ ps]
theorem aps_aps (θ φ : S → Tm S) : ∀ ps : List (Tm S), aps θ (aps φ ps) = aps (fun x => ap θ (φ x)) ps
  | [] => rfl
  | p :: ps => by rw [aps, aps, aps, ap_ap θ φ p, aps_aps θ φ ps]
end
mutual
theorem ap_id : ∀ t : Tm S, ap Tm.v t = t
  | .v y => rfl
  | .n w ps => by rw [ap, aps_id ps]
theorem aps_id : ∀ ps : List (Tm S), aps Tm.v ps = ps
  | [] => rfl
  | p :: ps => by rw [aps, ap_id p, aps_id ps]
end
theorem sz_pos (t : Tm S) : 0 < sz t := by cases t <;> rw [sz] <;> omega
mutual
theorem occ_sz {θ : S → Tm S} {x : S} : ∀ t : Tm S, occ x t → sz (θ x) ≤ sz (ap θ t)
  | .v y, o => by cases (show x = y from o); exact Nat.le_refl _
  | .n w ps, o => by
    rw [ap, sz]
    have := occs_sz (θ := θ) ps o
    omega
theorem occs_sz {θ : S → Tm S} {x : S} : ∀ ps : List (Tm S), occs x ps → sz (θ x) ≤ szs (aps θ ps)
  | [], o => o.elim
  | p :: ps, o => by
    rw [aps, szs]
    rcases o with o | o
    · have := occ_sz (θ := θ) p o; omega
    · have := occs_sz (θ := θ) ps o; omega
end
/-- a name under a maker is not what the whole becomes -/
theorem occ_ne {θ : S → Tm S} {x : S} {t : Tm S} (o : occ x t) (n : t ≠ .v x) : θ x ≠ ap θ t := by
  cases t with
  | v y => cases (show x = y from o); exact absurd rfl n
  | n w ps =>
    intro h
    have := occs_sz (θ := θ) ps o
    have e : sz (θ x) = szs (aps θ ps) + 1 := by rw [h, ap, sz]
    omega
mutual
theorem occ_ap {θ : S → Tm S} {y : S} : ∀ t : Tm S, occ y (ap θ t) ↔ ∃ x, occ x t ∧ occ y (θ x)
  | .v z => by rw [ap]; exact ⟨fun h => ⟨z, rfl, h⟩, fun ⟨x, o, h⟩ => by cases (show x = z from o); exact h⟩
  | .n w ps => by rw [ap]; exact occs_ap ps
theorem occs_ap {θ : S → Tm S} {y : S} : ∀ ps : List (Tm S), occs y (aps θ ps) ↔ ∃ x, occs x ps ∧ occ y (θ x)
  | [] => by rw [aps]; exact ⟨fun h => h.elim, fun ⟨x, o, h⟩ => o.elim⟩
  | p :: ps => by
    rw [aps, occs, occ_ap p, occs_ap ps]
    constructor
    · rintro (⟨x, o, h⟩ | ⟨x, o, h⟩)
      · exact ⟨x, .inl o, h⟩
      · exact ⟨x, .inr o, h⟩
    · rintro ⟨x, o | o, h⟩
      · exact .inl ⟨x, o, h⟩
      · exact .inr ⟨x, o, h⟩
end
mutual
theorem dp_ap {θ : S → Tm S} {m : Nat} : ∀ t : Tm S, (∀ x, occ x t → dp (θ x) ≤ m) → dp (ap θ t) ≤ dp t + m
  | .v z, h => by rw [ap, dp]; have := h z rfl; omega
  | .n w ps, h => by
    rw [ap, dp, dp]
    have := dps_ap (θ := θ) (m := m) ps h
    omega
theorem dps_ap {θ : S → Tm S} {m : Nat} : ∀ ps : List (Tm S), (∀ x, occs x ps → dp (θ x) ≤ m) → dps (aps θ ps) ≤ dps ps + m
  | [], _ => by rw [aps, dps]; omega
  | p :: ps, h => by
    rw [aps, dps, dps]
    have h1 := dp_ap (θ := θ) (m := m) p fun x o => h x (.inl o)
    have h2 := dps_ap (θ := θ) (m := m) ps fun x o => h x (.inr o)
    omega
end
/-! ### assignments by rows -/
abbrev At (S : Type) := List (S × Tm S)
def lk : At S → S → Option (Tm S)
  | [], _ => none
  | e :: d, x => if e.1 = x then some e.2 else lk d x
def ks (d : At S) : List S := d.map (·.1)
theorem lk_mem : ∀ {d : At S} {x : S} {t : Tm S}, lk d x = some t → (x, t) ∈ d
  | [], x, t, h => by cases h
  | e :: d, x, t, h => by
    unfold lk at h
    by_cases z : e.1 = x
    · rw [if_pos z] at h; cases h; rw [← z]; exact List.mem_cons_self
    · rw [if_neg z] at h; exact List.mem_cons_of_mem _ (lk_mem h)
theorem lk_none : ∀ {d : At S} {x : S}, lk d x = none ↔ x ∉ ks d
  | [], x => by simp [lk, ks]
  | e :: d, x => by
    unfold lk
    by_cases z : e.1 = x
    · rw [if_pos z]; simp [ks, z]
    · rw [if_neg z, lk_none (d := d)]
      simp only [ks, List.map_cons, List.mem_cons, not_or]
      exact ⟨fun h => ⟨fun q => z q.symm, h⟩, fun h => h.2⟩
theorem lk_of : ∀ {d : At S} {x : S} {t : Tm S}, (ks d).Nodup → (x, t) ∈ d → lk d x = some t
  | [], x, t, _, h => by cases h
  | e :: d, x, t, nd, h => by
    have nd' : (e.1 :: ks d).Nodup := nd
    unfold lk
    rcases List.mem_cons.mp h with z | h
    · rw [if_pos (by rw [← z]), ← z]
    · have m : x ∈ ks d := List.mem_map.mpr ⟨_, h, rfl⟩
      rw [if_neg (fun z => (List.nodup_cons.mp nd').1 (by rw [z]; exact m))]
      exact lk_of (List.nodup_cons.mp nd').2 h
theorem lk_app (d e : At S) (x : S) : lk (d ++ e) x = (lk d x).or (lk e x) := by
  induction d with
  | nil => rfl
  | cons a d ih =>
    rw [List.cons_append, lk, lk]
    by_cases z : a.1 = x
    · rw [if_pos z, if_pos z]; rfl
    · rw [if_neg z, if_neg z]; exact ih
def sub (d : At S) (x : S) : Tm S := (lk d x).getD (.v x)
theorem sub_none {d : At S} {x : S} (h : x ∉ ks d) : sub d x = .v x := by unfold sub; rw [lk_none.mpr h]; rfl
theorem sub_some {d : At S} {x : S} {t : Tm S} (h : lk d x = some t) : sub d x = t := by unfold sub; rw [h]; rfl
def uni (θ : S → Tm S) (W : List (Tm S × Tm S)) : Prop := ∀ p ∈ W, ap θ p.1 = ap θ p.2
def resp (θ : S → Tm S) (B : At S) : Prop := ∀ e ∈ B, θ e.1 = ap θ e.2

/-- the told unifier -/
structure Mgu (le : S → S → Prop) (W : List (Tm S × Tm S)) (d : At S) : Prop where
  nd : (ks d).Nodup
  idem : ∀ e ∈ d, ∀ x, occ x e.2 → x ∉ ks d
  iff : ∀ θ, uni θ W ↔ resp θ d
  least : ∀ x y, sub d x = .v y → le y x
theorem Mgu.fixed {le : S → S → Prop} {W : List (Tm S × Tm S)} {d : At S} (h : Mgu le W d) (x : S) : ap (sub d) (sub d x) = sub d x := by
  cases e : lk d x with
  | none => rw [sub_none (lk_none.mp e), ap, sub_none (lk_none.mp e)]
  | some t =>
    rw [sub_some e]
    have : ap (sub d) t = ap Tm.v t := ap_congr t fun y o => sub_none (h.idem _ (lk_mem e) y o)
    rw [this, ap_id]
theorem Mgu.self {le : S → S → Prop} {W : List (Tm S × Tm S)} {d : At S} (h : Mgu le W d) : uni (sub d) W := (h.iff _).mpr fun e he => by
  have l := lk_of h.nd he
  have f := h.fixed e.1
  rw [sub_some l] at f ⊢
  exact f.symm
theorem Mgu.comes {le : S → S → Prop} {W : List (Tm S × Tm S)} {d : At S} (h : Mgu le W d) {θ : S → Tm S} (u : uni θ W) (x : S) : ap θ (sub d x) = θ x := by
  have r := (h.iff θ).mp u
  cases e : lk d x with
  | none => rw [sub_none (lk_none.mp e)]; rfl
  | some t => rw [sub_some e]; exact (r _ (lk_mem e)).symm
mutual
theorem leafs {θ φ : S → Tm S} (hv : ∀ a b, θ a = .v a → φ b = .v b → φ a = .v b → θ b = .v a → a = b) : ∀ u w : Tm S, ap φ u = w → ap θ w = u → ap θ u = u → ap φ w = w → u = w
  | .v a, .v b, h1, h2, h3, h4 => by rw [hv a b h3 h4 h1 h2]
  | .v a, .n w ps, h1, h2, h3, h4 => by rw [ap] at h2; cases h2
  | .n w ps, .v b, h1, h2, h3, h4 => by rw [ap] at h1; cases h1
  | .n w ps, .n w' qs, h1, h2, h3, h4 => by
    rw [ap] at h1 h2 h3 h4
    injection h1 with e1 e2
    injection h2 with e3 e4
    injection h3 with e5 e6
    injection h4 with e7 e8
    rw [e1, leafs_s hv ps qs e2 e4 e6 e8]
theorem leafs_s {θ φ : S → Tm S} (hv : ∀ a b, θ a = .v a → φ b = .v b → φ a = .v b → θ b = .v a → a = b) : ∀ us ws : List (Tm S), aps φ us = ws → aps θ ws = us → aps θ us = us → aps φ ws = ws → us = ws
  | [], ws, h1, _, _, _ => h1
  | u :: us, [], h1, h2, h3, h4 => by rw [aps] at h1; cases h1
  | u :: us, w :: ws, h1, h2, h3, h4 => by
    rw [aps] at h1 h2 h3 h4
    injection h1 with e1 e2
    injection h2 with e3 e4
    injection h3 with e5 e6
    injection h4 with e7 e8
    rw [leafs hv u w e1 e3 e5 e7, leafs_s hv us ws e2 e4 e6 e8]
end
theorem Mgu.sub_eq {le : S → S → Prop} (anti : ∀ a b, le a b → le b a → a = b) {W : List (Tm S × Tm S)} {d d' : At S} (h : Mgu le W d) (h' : Mgu le W d') (x : S) : sub d x = sub d' x := by
  have u := h.self
  have u' := h'.self
  refine leafs (θ := sub d) (φ := sub d') (fun a b ha hb h1 h2 => ?_) _ _ ?_ ?_ (h.fixed x) (h'.fixed x)
  · exact anti _ _ (h.least _ _ h2) (h'.least _ _ h1)
  · exact h.comes u' x
  · exact h'.comes u x
theorem Mgu.key {le : S → S → Prop} {W : List (Tm S × Tm S)} {d : At S} (h : Mgu le W d) (x : S) : x ∈ ks d ↔ sub d x ≠ .v x := by
  constructor
  · intro hx e
    obtain ⟨e0, he, rfl⟩ := List.mem_map.mp hx
    rw [sub_some (lk_of h.nd he)] at e
    exact h.idem _ he e0.1 (by rw [e]; rfl) hx
  · intro hn
    exact Decidable.byContradiction fun z => hn (sub_none z)
theorem Mgu.lk_eq {le : S → S → Prop} (anti : ∀ a b, le a b → le b a → a = b) {W : List (Tm S × Tm S)} {d d' : At S} (h : Mgu le W d) (h' : Mgu le W d') (x : S) : lk d x = lk d' x := by
  have e := h.sub_eq anti h' x
  have k : x ∈ ks d ↔ x ∈ ks d' := by rw [h.key, h'.key, e]
  cases e1 : lk d x with
  | none =>
    have := lk_none.mp e1
    rw [k] at this
    rw [lk_none.mpr this]
  | some t =>
    cases e2 : lk d' x with
    | none =>
      have := lk_none.mp e2
      rw [← k, ← lk_none, e1] at this
      cases this
    | some t' =>
      rw [sub_some e1, sub_some e2] at e
      rw [e]
def Told (le : S → S → Prop) (W : List (Tm S × Tm S)) (r : Option (At S)) : Prop := (r = none ∧ ∀ θ, ¬ uni θ W) ∨ ∃ d, r = some d ∧ Mgu le W d
theorem told_same {le : S → S → Prop} (anti : ∀ a b, le a b → le b a → a = b) {W : List (Tm S × Tm S)} {r r' : Option (At S)} (h : Told le W r) (h' : Told le W r') : (r = none ∧ r' = none) ∨ ∃ d d', r = some d ∧ r' = some d' ∧ ∀ x, lk d x = lk d' x := by
  rcases h with ⟨e, n⟩ | ⟨d, e, m⟩
  · rcases h' with ⟨e', _⟩ | ⟨d', e', m'⟩
    · exact .inl ⟨e, e'⟩
    · exact absurd m'.self (n _)
  · rcases h' with ⟨e', n'⟩ | ⟨d', e', m'⟩
    · exact absurd m.self (n' _)
    · exact .inr ⟨d, d', e, e', m.lk_eq anti m'⟩
end
end Un
set_option Elab.async false
set_option linter.all false
set_option autoImplicit false
namespace Un
section
variable {S : Type} [DecidableEq S]
theorem sub_len : ∀ {l m : List S}, l.Nodup → (∀ x ∈ l, x ∈ m) → l.length ≤ m.length
  | [], m, _, _ => Nat.zero_le _
  | x :: l, m, nd, h => by
    have h1 := List.nodup_cons.mp nd
    have : l.length ≤ (m.erase x).length := sub_len h1.2 fun y hy => by
      have ne : y ≠ x := fun z => h1.1 (by rw [← z]; exact hy)
      exact (List.mem_erase_of_ne ne).mpr (h y (List.mem_cons_of_mem _ hy))
    have e := List.length_erase_of_mem (h x List.mem_cons_self)
    have p : 0 < m.length := List.length_pos_of_mem (h x List.mem_cons_self)
    rw [List.length_cons]; omega
mutual
theorem rk_bound (r : S → Nat) : ∀ t : Tm S, ∃ M, ∀ y, occ y t → r y < M
  | .v x => ⟨r x + 1, fun y h => by cases (show y = x from h); omega⟩
  | .n w ps => by obtain ⟨M, h⟩ := rk_bounds r ps; exact ⟨M, h⟩
theorem rk_bounds (r : S → Nat) : ∀ ps : List (Tm S), ∃ M, ∀ y, occs y ps → r y < M
  | [] => ⟨0, fun y h => h.elim⟩
  | p :: ps => by
    obtain ⟨M, h⟩ := rk_bound r p
    obtain ⟨N, g⟩ := rk_bounds r ps
    exact ⟨M + N, fun y o => by
      rcases o with o | o
      · have := h y o; omega
      · have := g y o; omega⟩
end
/-- rows for names, not put in one another; in the end they are σ -/
structure Tri (B : At S) (σ : S → Tm S) (r : S → Nat) : Prop where
  nd : (ks B).Nodup
  fix : ∀ x, x ∉ ks B → σ x = .v x
  eqn : ∀ x t, (x, t) ∈ B → σ x = ap σ t
  rk : ∀ x t, (x, t) ∈ B → ∀ y, occ y t → r y < r x
section
variable {B : At S} {σ : S → Tm S} {r : S → Nat}
theorem ks_mem {x : S} (h : x ∈ ks B) : ∃ t, (x, t) ∈ B := by
  obtain ⟨e, he, rfl⟩ := List.mem_map.mp h
  exact ⟨e.2, he⟩
theorem Tri.ind (T : Tri B σ r) {P : S → Prop} (h0 : ∀ x, x ∉ ks B → P x) (h1 : ∀ x t, (x, t) ∈ B → (∀ y, occ y t → P y) → P x) : ∀ x, P x := by
  have key : ∀ n x, r x < n → P x := by
    intro n
    induction n with
    | zero => intro x h; omega
    | succ n ih =>
      intro x h
      by_cases hx : x ∈ ks B
      · obtain ⟨t, ht⟩ := ks_mem hx
        exact h1 x t ht fun y o => ih y (by have := T.rk x t ht y o; omega)
      · exact h0 x hx
  exact fun x => key _ x (Nat.lt_succ_self _)
theorem Tri.idem (T : Tri B σ r) : ∀ x y, occ y (σ x) → y ∉ ks B := T.ind
  (fun x hx y o => by rw [T.fix x hx] at o; cases (show y = x from o); exact hx)
  (fun x t ht ih y o => by
    rw [T.eqn x t ht] at o
    obtain ⟨z, oz, hz⟩ := (occ_ap t).mp o
    exact ih z oz y hz)
theorem Tri.resp (T : Tri B σ r) {θ : S → Tm S} (h : Un.resp θ B) : ∀ x, ap θ (σ x) = θ x := T.ind
  (fun x hx => by rw [T.fix x hx]; rfl)
  (fun x t ht ih => by
    rw [T.eqn x t ht, ap_ap, h (x, t) ht]
    exact ap_congr t fun y o => ih y o)
theorem Tri.resp' (T : Tri B σ r) {θ : S → Tm S} (h : Un.resp θ B) (t : Tm S) : ap θ (ap σ t) = ap θ t := by
  rw [ap_ap]; exact ap_congr t fun y _ => T.resp h y
theorem Tri.uniq {σ' : S → Tm S} {r' : S → Nat} (T : Tri B σ r) (T' : Tri B σ' r') : ∀ x, σ x = σ' x := T.ind
  (fun x hx => by rw [T.fix x hx, T'.fix x hx])
  (fun x t ht ih => by rw [T.eqn x t ht, T'.eqn x t ht]; exact ap_congr t ih)
theorem Tri.fixed (T : Tri B σ r) (t : Tm S) : ap σ (ap σ t) = ap σ t := by
  have : ap σ (ap σ t) = ap Tm.v (ap σ t) := ap_congr _ fun y o => by
    obtain ⟨x, ox, hy⟩ := (occ_ap t).mp o
    exact T.fix y (T.idem x y hy)
  rw [this, ap_id]
theorem Tri.deep (T : Tri B σ r) {D : Nat} (hD : ∀ e ∈ B, dp e.2 ≤ D) (x : S) : dp (σ x) ≤ D * B.length := by
  have lB : (ks B).length = B.length := by unfold ks; rw [List.length_map]
  have key : ∀ k (c : List S) x, c.Nodup → (∀ z ∈ c, z ∈ ks B ∧ r x < r z) → c.length + k = B.length → dp (σ x) ≤ D * k := by
    intro k
    induction k with
    | zero =>
      intro c x nd hc hl
      by_cases hx : x ∈ ks B
      · have nx : x ∉ c := fun z => by have := (hc x z).2; omega
        have := sub_len (l := x :: c) (m := ks B) (List.nodup_cons.mpr ⟨nx, nd⟩) fun y hy => by
          rcases List.mem_cons.mp hy with rfl | hy
          · exact hx
          · exact (hc y hy).1
        rw [lB, List.length_cons] at this
        omega
      · rw [T.fix x hx, dp]; omega
    | succ k ih =>
      intro c x nd hc hl
      by_cases hx : x ∈ ks B
      · obtain ⟨t, ht⟩ := ks_mem hx
        have nx : x ∉ c := fun z => by have := (hc x z).2; omega
        rw [T.eqn x t ht]
        have h1 := hD _ ht
        have h2 := dp_ap (θ := σ) (m := D * k) t fun y o => ih (x :: c) y (List.nodup_cons.mpr ⟨nx, nd⟩) (fun z hz => by
          have ry := T.rk x t ht y o
          rcases List.mem_cons.mp hz with rfl | hz
          · exact ⟨hx, ry⟩
          · have := hc z hz; exact ⟨this.1, by omega⟩) (by rw [List.length_cons]; omega)
        rw [Nat.mul_succ]
        simp only at h1
        omega
      · rw [T.fix x hx, dp]; omega
  have := key B.length [] x List.nodup_nil (fun z hz => by cases hz) (by simp)
  exact this
def one (x : S) (u : Tm S) : S → Tm S := fun z => if z = x then u else .v z
theorem one_self (x : S) (u : Tm S) : one x u x = u := by unfold one; rw [if_pos rfl]
theorem one_ne {x z : S} (u : Tm S) (h : z ≠ x) : one x u z = .v z := by unfold one; rw [if_neg h]
theorem one_id {x : S} {u t : Tm S} (h : ¬ occ x t) : ap (one x u) t = t := by
  have : ap (one x u) t = ap Tm.v t := ap_congr t fun y o => one_ne u fun z => h (by rw [← z]; exact o)
  rw [this, ap_id]
theorem ks_snoc (x : S) (t : Tm S) : ks (B ++ [(x, t)]) = ks B ++ [x] := by unfold ks; rw [List.map_append]; rfl
open Classical in
theorem Tri.bind (T : Tri B σ r) {x : S} {t : Tm S} (hx : x ∉ ks B) (ho : ¬ occ x (ap σ t)) : ∃ r', Tri (B ++ [(x, t)]) (fun z => ap (one x (ap σ t)) (σ z)) r' := by
  obtain ⟨M, hM⟩ := rk_bound r t
  have mem : ∀ z s, (z, s) ∈ B ++ [(x, t)] → (z, s) ∈ B ∨ (z = x ∧ s = t) := fun z s h => by
    rcases List.mem_append.mp h with h | h
    · exact .inl h
    · rw [List.mem_singleton] at h; injection h with h1 h2; exact .inr ⟨h1, h2⟩
  refine ⟨fun z => r z + if occ x (σ z) then M else 0, ?_, fun z hz => ?_, fun z s h => ?_, fun z s h y o => ?_⟩
  · rw [ks_snoc]
    exact List.nodup_append.mpr ⟨T.nd, by simp, fun a ha b hb => by rw [List.mem_singleton] at hb; rw [hb]; intro z; exact hx (by rw [← z]; exact ha)⟩
  · rw [ks_snoc] at hz
    have z1 : z ∉ ks B := fun q => hz (List.mem_append_left _ q)
    have z2 : z ≠ x := fun q => hz (by rw [q]; simp)
    show ap _ (σ z) = _
    rw [T.fix z z1, ap, one_ne _ z2]
  · show ap _ (σ z) = ap (fun z => ap (one x (ap σ t)) (σ z)) s
    rw [← ap_ap]
    rcases mem z s h with h | ⟨rfl, rfl⟩
    · rw [T.eqn z s h]
    · rw [T.fix z hx, ap, one_self, one_id ho]
  · show r y + _ < r z + _
    rcases mem z s h with h | ⟨rfl, rfl⟩
    · have := T.rk z s h y o
      by_cases q : occ x (σ y)
      · have q' : occ x (σ z) := by rw [T.eqn z s h]; exact (occ_ap s).mpr ⟨y, o, q⟩
        rw [if_pos q, if_pos q']; omega
      · rw [if_neg q]; omega
    · have n : ¬ occ z (σ y) := fun q => ho ((occ_ap s).mpr ⟨y, o, q⟩)
      have p : occ z (σ z) := by rw [T.fix z hx]; rfl
      rw [if_neg n, if_pos p]
      have := hM y o
      omega
end
/-- what one is led to -/
inductive Fol (B : At S) : Tm S → Tm S → Prop where
  | done (t : Tm S) : (∀ x, t = .v x → x ∉ ks B) → Fol B t t
  | step (x : S) (t t' : Tm S) : lk B x = some t → Fol B t t' → Fol B (.v x) t'
theorem Tri.fol {B : At S} {σ : S → Tm S} {r : S → Nat} (T : Tri B σ r) : ∀ t : Tm S, ∃ t', Fol B t t' := by
  have key : ∀ x : S, ∃ t', Fol B (.v x) t' := T.ind (fun x hx => ⟨_, .done _ fun y e => by cases e; exact hx⟩) (fun x t ht ih => by
    have l := lk_of T.nd ht
    cases t with
    | v y =>
      obtain ⟨t', h⟩ := ih y rfl
      exact ⟨t', .step x _ _ l h⟩
    | n w ps => exact ⟨_, .step x _ _ l (.done _ fun y e => by cases e)⟩)
  intro t
  cases t with
  | v x => exact key x
  | n w ps => exact ⟨_, .done _ fun y e => by cases e⟩
theorem Fol.end {B : At S} {t t' : Tm S} (h : Fol B t t') : ∀ x, t' = .v x → x ∉ ks B := by
  induction h with
  | done t h => exact h
  | step x t t' l h ih => exact ih
theorem Fol.same {B : At S} {σ : S → Tm S} {r : S → Nat} (T : Tri B σ r) {t t' : Tm S} (h : Fol B t t') : ap σ t' = ap σ t := by
  induction h with
  | done t h => rfl
  | step x t t' l h ih => rw [ih]; show _ = σ x; rw [T.eqn x t (lk_mem l)]
theorem Fol.of {B : At S} {P : Tm S → Prop} (hB : ∀ e ∈ B, P e.2) {t t' : Tm S} (h : Fol B t t') (ht : P t) : P t' := by
  induction h with
  | done t h => exact ht
  | step x t t' l h ih => exact ih (hB _ (lk_mem l))
theorem Fol.det {B : At S} {t t1 t2 : Tm S} (h : Fol B t t1) (g : Fol B t t2) : t1 = t2 := by
  induction h generalizing t2 with
  | done t h =>
    cases g with
    | done _ _ => rfl
    | step x t t' l g => exact absurd rfl fun _ : (1 = 1) => by have := h x rfl; rw [← lk_none, l] at this; cases this
  | step x t t' l h ih =>
    cases g with
    | done _ g => have := g x rfl; rw [← lk_none, l] at this; cases this
    | step _ s _ l' g => rw [l] at l'; cases l'; exact ih g
end
end Un
set_option Elab.async false
set_option linter.all false
set_option autoImplicit false
namespace Un
section
variable {S : Type} [DecidableEq S]
abbrev Ps (S : Type) := List (Tm S × Tm S)
/-- what is left of the pairs, and what is bound -/
structure PI (le : S → S → Prop) (W0 V : Ps S) (B : At S) (σ : S → Tm S) (r : S → Nat) : Prop where
  tri : Tri B σ r
  iff : ∀ θ, uni θ W0 ↔ uni θ V ∧ resp θ B
  least : ∀ x y, σ x = .v y → le y x
theorem uni_app {θ : S → Tm S} {V W : Ps S} : uni θ (V ++ W) ↔ uni θ V ∧ uni θ W := by
  unfold uni
  constructor
  · exact fun h => ⟨fun p hp => h p (List.mem_append_left _ hp), fun p hp => h p (List.mem_append_right _ hp)⟩
  · rintro ⟨h1, h2⟩ p hp
    rcases List.mem_append.mp hp with hp | hp
    · exact h1 p hp
    · exact h2 p hp
theorem uni_one {θ : S → Tm S} {a b : Tm S} : uni θ [(a, b)] ↔ ap θ a = ap θ b := by
  unfold uni
  constructor
  · exact fun h => h (a, b) (List.mem_singleton_self _)
  · intro h p hp
    rw [List.mem_singleton] at hp
    rw [hp]; exact h
theorem resp_snoc {θ : S → Tm S} {B : At S} {x : S} {t : Tm S} : resp θ (B ++ [(x, t)]) ↔ resp θ B ∧ θ x = ap θ t := by
  unfold resp
  constructor
  · exact fun h => ⟨fun p hp => h p (List.mem_append_left _ hp), h (x, t) (by simp)⟩
  · rintro ⟨h1, h2⟩ p hp
    rcases List.mem_append.mp hp with hp | hp
    · exact h1 p hp
    · rw [List.mem_singleton] at hp; rw [hp]; exact h2
theorem uni_zip {θ : S → Tm S} : ∀ {ps qs : List (Tm S)}, ps.length = qs.length → (uni θ (ps.zip qs) ↔ aps θ ps = aps θ qs)
  | [], [], _ => by simp [uni, aps]
  | p :: ps, q :: qs, h => by
    have ih := uni_zip (θ := θ) (ps := ps) (qs := qs) (by simpa using h)
    rw [List.zip_cons_cons, show (p, q) :: ps.zip qs = [(p, q)] ++ ps.zip qs from rfl, uni_app, uni_one, ih, aps, aps]
    simp
  | [], q :: qs, h => by simp at h
  | p :: ps, [], h => by simp at h
section
variable {le : S → S → Prop} {W0 V : Ps S} {B : At S} {σ : S → Tm S} {r : S → Nat} {a b t : Tm S}
theorem PI.start (rf : ∀ x, le x x) (W0 : Ps S) : PI le W0 W0 [] Tm.v (fun _ => 0) :=
  ⟨⟨List.nodup_nil, fun x _ => rfl, fun x t h => (by cases h), fun x t h => (by cases h)⟩, fun θ => ⟨fun h => ⟨h, fun e he => by cases he⟩, fun h => h.1⟩, fun x y e => by cases e; exact rf x⟩
theorem PI.drop (I : PI le W0 (V ++ [(a, b)]) B σ r) (h : ap σ a = ap σ b) : PI le W0 V B σ r := by
  refine ⟨I.tri, fun θ => ?_, I.least⟩
  rw [I.iff θ, uni_app, uni_one]
  constructor
  · exact fun q => ⟨q.1.1, q.2⟩
  · exact fun q => ⟨⟨q.1, by rw [← I.tri.resp' q.2 a, ← I.tri.resp' q.2 b, h]⟩, q.2⟩
theorem PI.bind (tr : ∀ a b c, le a b → le b c → le a c) (I : PI le W0 (V ++ [(a, b)]) B σ r) {x : S} (hx : x ∉ ks B) (h : (ap σ a = .v x ∧ ap σ b = ap σ t) ∨ (ap σ b = .v x ∧ ap σ a = ap σ t)) (ho : ¬ occ x (ap σ t)) (hl : ∀ y, ap σ t = .v y → le y x) :
    ∃ r', PI le W0 V (B ++ [(x, t)]) (fun z => ap (one x (ap σ t)) (σ z)) r' := by
  obtain ⟨r', T⟩ := I.tri.bind hx ho
  refine ⟨r', T, fun θ => ?_, fun z y e => ?_⟩
  · rw [I.iff θ, uni_app, uni_one, resp_snoc]
    constructor
    · rintro ⟨⟨q1, q2⟩, q3⟩
      refine ⟨q1, q3, ?_⟩
      have ra := I.tri.resp' q3 a
      have rb := I.tri.resp' q3 b
      have rt := I.tri.resp' q3 t
      rcases h with ⟨h1, h2⟩ | ⟨h1, h2⟩
      · rw [h1] at ra; rw [h2] at rb
        rw [← rt, rb, ← q2, ← ra, ap]
      · rw [h1] at rb; rw [h2] at ra
        rw [← rt, ra, q2, ← rb, ap]
    · rintro ⟨q1, q3, q2⟩
      refine ⟨⟨q1, ?_⟩, q3⟩
      have ra := I.tri.resp' q3 a
      have rb := I.tri.resp' q3 b
      have rt := I.tri.resp' q3 t
      rcases h with ⟨h1, h2⟩ | ⟨h1, h2⟩
      · rw [h1, ap] at ra; rw [h2] at rb
        rw [← ra, ← rb, rt, q2]
      · rw [h1, ap] at rb; rw [h2] at ra
        rw [← ra, ← rb, rt, q2]
  · have e : ap (one x (ap σ t)) (σ z) = .v y := e
    cases ez : σ z with
    | n w ps => rw [ez, ap] at e; cases e
    | v w =>
      have l1 := I.least z w ez
      rw [ez, ap] at e
      by_cases q : w = x
      · rw [q, one_self] at e
        exact tr _ _ _ (hl y e) (by rw [← q]; exact l1)
      · rw [one_ne _ q] at e
        cases e; exact l1
theorem PI.occurs (I : PI le W0 (V ++ [(a, b)]) B σ r) {x : S} (h : (ap σ a = .v x ∧ ap σ b = ap σ t) ∨ (ap σ b = .v x ∧ ap σ a = ap σ t)) (ho : occ x (ap σ t)) (hn : ap σ t ≠ .v x) : ∀ θ, ¬ uni θ W0 := by
  intro θ u
  rw [I.iff θ, uni_app, uni_one] at u
  obtain ⟨⟨q1, q2⟩, q3⟩ := u
  refine occ_ne (θ := θ) ho hn ?_
  have ra := I.tri.resp' q3 a
  have rb := I.tri.resp' q3 b
  rcases h with ⟨h1, h2⟩ | ⟨h1, h2⟩
  · rw [h1, ap] at ra; rw [h2] at rb
    rw [rb, ra, q2]
  · rw [h1, ap] at rb; rw [h2] at ra
    rw [ra, rb, q2]
theorem PI.clash (I : PI le W0 (V ++ [(a, b)]) B σ r) {w w' : S} {ps qs : List (Tm S)} (h1 : ap σ a = .n w ps) (h2 : ap σ b = .n w' qs) (hn : w ≠ w') : ∀ θ, ¬ uni θ W0 := by
  intro θ u
  rw [I.iff θ, uni_app, uni_one] at u
  obtain ⟨⟨q1, q2⟩, q3⟩ := u
  rw [← I.tri.resp' q3 a, ← I.tri.resp' q3 b, h1, h2, ap, ap] at q2
  injection q2 with e1 e2
  exact hn e1
theorem PI.dec (I : PI le W0 (V ++ [(a, b)]) B σ r) {w : S} {ps qs : List (Tm S)} (h1 : ap σ a = .n w (aps σ ps)) (h2 : ap σ b = .n w (aps σ qs)) (hl : ps.length = qs.length) : PI le W0 (V ++ ps.zip qs) B σ r := by
  refine ⟨I.tri, fun θ => ?_, I.least⟩
  rw [I.iff θ, uni_app, uni_one, uni_app, uni_zip hl]
  have e : resp θ B → (ap θ a = ap θ b ↔ aps θ ps = aps θ qs) := fun q3 => by
    have e1 : ∀ ts : List (Tm S), aps θ (aps σ ts) = aps θ ts := fun ts => by
      rw [aps_aps]; exact aps_congr ts fun y _ => I.tri.resp q3 y
    rw [← I.tri.resp' q3 a, ← I.tri.resp' q3 b, h1, h2, ap, ap, e1, e1]
    constructor
    · intro z; injection z
    · intro z; rw [z]
  constructor
  · rintro ⟨⟨q1, q2⟩, q3⟩; exact ⟨⟨q1, (e q3).mp q2⟩, q3⟩
  · rintro ⟨⟨q1, q2⟩, q3⟩; exact ⟨⟨q1, (e q3).mpr q2⟩, q3⟩
end
/-- all put in one another -/
def res (B : At S) (σ : S → Tm S) : At S := B.map fun e => (e.1, σ e.1)
theorem ks_res (B : At S) (σ : S → Tm S) : ks (res B σ) = ks B := by unfold ks res; rw [List.map_map]; rfl
theorem lk_res {B : At S} {σ : S → Tm S} : ∀ x, lk (res B σ) x = if x ∈ ks B then some (σ x) else none := by
  intro x
  induction B with
  | nil => rfl
  | cons e B ih =>
    show (if e.1 = x then some (σ e.1) else lk (res B σ) x) = _
    have kk : ks (e :: B) = e.1 :: ks B := rfl
    rw [ih, kk]
    by_cases z : e.1 = x
    · rw [if_pos z, if_pos (by rw [z]; exact List.mem_cons_self), z]
    · rw [if_neg z]
      by_cases q : x ∈ ks B
      · rw [if_pos q, if_pos (List.mem_cons_of_mem _ q)]
      · rw [if_neg q, if_neg (fun m => by rcases List.mem_cons.mp m with m | m; exact z m.symm; exact q m)]
theorem sub_res {B : At S} {σ : S → Tm S} {r : S → Nat} (T : Tri B σ r) (x : S) : sub (res B σ) x = σ x := by
  unfold sub
  rw [lk_res]
  by_cases q : x ∈ ks B
  · rw [if_pos q]; rfl
  · rw [if_neg q, T.fix x q]; rfl
theorem ap_res {B : At S} {σ : S → Tm S} {r : S → Nat} (T : Tri B σ r) (t : Tm S) : ap (sub (res B σ)) t = ap σ t := ap_congr t fun x _ => sub_res T x
theorem PI.done {le : S → S → Prop} {W0 : Ps S} {B : At S} {σ : S → Tm S} {r : S → Nat} (I : PI le W0 [] B σ r) : Mgu le W0 (res B σ) := by
  have T := I.tri
  refine ⟨by rw [ks_res]; exact T.nd, fun e he y o => ?_, fun θ => ?_, fun x y e => ?_⟩
  · rw [ks_res]
    obtain ⟨e0, _, rfl⟩ := List.mem_map.mp he
    exact T.idem _ y o
  · rw [I.iff θ]
    have u : uni θ [] := fun p hp => by cases hp
    constructor
    · rintro ⟨_, q⟩ e he
      obtain ⟨e0, _, rfl⟩ := List.mem_map.mp he
      exact (T.resp q e0.1).symm
    · intro q
      have key : ∀ x, ap θ (σ x) = θ x := fun x => by
        by_cases hx : x ∈ ks B
        · obtain ⟨t, ht⟩ := ks_mem hx
          exact (q (x, σ x) (List.mem_map.mpr ⟨_, ht, rfl⟩)).symm
        · rw [T.fix x hx]; rfl
      refine ⟨u, fun e he => ?_⟩
      rw [← key e.1, T.eqn e.1 e.2 he, ap_ap]
      exact ap_congr _ fun y _ => key y
  · rw [sub_res T] at e; exact I.least x y e
end
end Un
set_option Elab.async false
set_option linter.all false
set_option autoImplicit false
namespace Un
section
variable {S : Type} [DecidableEq S]
mutual
def okA (ar : S → Nat) : Tm S → Prop
  | .v _ => True
  | .n w ps => ps.length = ar w ∧ okAs ar ps
def okAs (ar : S → Nat) : List (Tm S) → Prop
  | [] => True
  | p :: ps => okA ar p ∧ okAs ar ps
end
theorem okAs_iff (ar : S → Nat) : ∀ ps : List (Tm S), okAs ar ps ↔ ∀ p ∈ ps, okA ar p
  | [] => by simp [okAs]
  | p :: ps => by rw [okAs, okAs_iff ar ps]; simp
mutual
theorem okA_ap {ar : S → Nat} {θ : S → Tm S} : ∀ t : Tm S, okA ar t → (∀ x, occ x t → okA ar (θ x)) → okA ar (ap θ t)
  | .v y, _, h => h y rfl
  | .n w ps, o, h => by
    rw [ap, okA]
    exact ⟨by rw [aps_map, List.length_map]; exact o.1, okAs_aps ps o.2 h⟩
theorem okAs_aps {ar : S → Nat} {θ : S → Tm S} : ∀ ps : List (Tm S), okAs ar ps → (∀ x, occs x ps → okA ar (θ x)) → okAs ar (aps θ ps)
  | [], _, _ => trivial
  | p :: ps, o, h => ⟨okA_ap p o.1 fun x q => h x (.inl q), okAs_aps ps o.2 fun x q => h x (.inr q)⟩
end
structure G (Nm : List S) (ar : S → Nat) (D : Nat) (t : Tm S) : Prop where
  dp : dp t ≤ D
  nm : ∀ x, occ x t → x ∈ Nm
  ok : okA ar t
theorem G.part {Nm : List S} {ar : S → Nat} {D : Nat} {w : S} {ps : List (Tm S)} (h : G Nm ar D (.n w ps)) : ∀ p ∈ ps, G Nm ar D p := fun p hp => by
  have h1 := h.dp
  rw [Un.dp] at h1
  have h2 := dps_mem hp
  refine ⟨by omega, fun x o => h.nm x ((occs_iff x ps).mpr ⟨p, hp, o⟩), (okAs_iff ar ps).mp h.ok.2 p hp⟩
theorem Tri.okA {ar : S → Nat} {B : At S} {σ : S → Tm S} {r : S → Nat} (T : Tri B σ r) (h : ∀ e ∈ B, okA ar e.2) : ∀ x, Un.okA ar (σ x) := T.ind
  (fun x hx => by rw [T.fix x hx]; trivial)
  (fun x t ht ih => by rw [T.eqn x t ht]; exact okA_ap t (h _ ht) ih)
theorem Tri.nms {Nm : List S} {B : At S} {σ : S → Tm S} {r : S → Nat} (T : Tri B σ r) (h : ∀ e ∈ B, ∀ x, occ x e.2 → x ∈ Nm) : ∀ x, x ∈ Nm → ∀ y, occ y (σ x) → y ∈ Nm := T.ind
  (fun x hx m y o => by rw [T.fix x hx] at o; cases (show y = x from o); exact m)
  (fun x t ht ih m y o => by
    rw [T.eqn x t ht] at o
    obtain ⟨z, oz, hz⟩ := (occ_ap t).mp o
    exact ih z oz (h _ ht z oz) y hz)
def wt (σ : S → Tm S) : Ps S → Nat
  | [] => 0
  | p :: V => 3 ^ dp (ap σ p.1) + wt σ V
theorem wt_app (σ : S → Tm S) : ∀ V W : Ps S, wt σ (V ++ W) = wt σ V + wt σ W
  | [], W => by simp [wt]
  | p :: V, W => by rw [List.cons_append, wt, wt, wt_app σ V W]; omega
theorem wt_le {σ : S → Tm S} {m : Nat} : ∀ V : Ps S, (∀ p ∈ V, dp (ap σ p.1) ≤ m) → wt σ V ≤ V.length * 3 ^ m
  | [], _ => by simp [wt]
  | p :: V, h => by
    have h1 : 3 ^ dp (ap σ p.1) ≤ 3 ^ m := Nat.pow_le_pow_right (by omega) (h p List.mem_cons_self)
    have h2 := wt_le (σ := σ) (m := m) V fun q hq => h q (List.mem_cons_of_mem _ hq)
    rw [wt, List.length_cons, Nat.succ_mul]; omega
def BIG (D : Nat) : Nat := (5 + 36 * D) * 3 ^ (6 * D) + 1
def mu (D : Nat) (V : Ps S) (B : At S) (σ : S → Tm S) : Nat := (5 - B.length) * BIG D + wt σ V
structure Run (le : S → S → Prop) (Nm : List S) (ar : S → Nat) (D : Nat) (W0 V : Ps S) (B : At S) (σ : S → Tm S) (r : S → Nat) : Prop where
  pi : PI le W0 V B σ r
  gV : ∀ p ∈ V, G Nm ar D p.1 ∧ G Nm ar D p.2
  gB : ∀ e ∈ B, G Nm ar D e.2 ∧ e.1 ∈ Nm
  stk : ∀ (i : Nat) p, V[i]? = some p → i + dp (ap σ p.1) ≤ 4 + 6 * D * (B.length + 1)
structure Env (le : S → S → Prop) (Nm : List S) (ar : S → Nat) : Prop where
  tr : ∀ a b c, le a b → le b c → le a c
  rf : ∀ a, le a a
  n5 : Nm.length ≤ 5
  a2 : ∀ w, ar w ≤ 2
section
variable {le : S → S → Prop} {Nm : List S} {ar : S → Nat} {D : Nat} {W0 V : Ps S} {B : At S} {σ : S → Tm S} {r : S → Nat} {a b : Tm S}
theorem five (E : Env le Nm ar) (T : Tri B σ r) (h : ∀ e ∈ B, G Nm ar D e.2 ∧ e.1 ∈ Nm) : B.length ≤ 5 := by
  have lB : (ks B).length = B.length := by unfold ks; rw [List.length_map]
  have := sub_len T.nd (m := Nm) fun x hx => by
    obtain ⟨e, he, rfl⟩ := List.mem_map.mp hx
    exact (h e he).2
  have := E.n5
  omega
theorem deepT (E : Env le Nm ar) (T : Tri B σ r) (h : ∀ e ∈ B, G Nm ar D e.2 ∧ e.1 ∈ Nm) {t : Tm S} (g : G Nm ar D t) : dp (ap σ t) ≤ 6 * D := by
  have h5 := five E T h
  have h1 := dp_ap (θ := σ) (m := D * B.length) t fun x _ => T.deep (fun e he => (h e he).1.dp) x
  have h2 := g.dp
  have h3 : D * B.length ≤ D * 5 := Nat.mul_le_mul_left D h5
  omega
theorem stk_len {C : Nat} {σ : S → Tm S} (h : ∀ (i : Nat) p, V[i]? = some p → i + dp (ap σ p.1) ≤ C) : V.length ≤ C + 1 := by
  rcases Nat.lt_or_ge 0 V.length with l | l
  · have e : V[V.length - 1]? = some V[V.length - 1] := List.getElem?_eq_getElem (by omega)
    have := h _ _ e
    omega
  · omega
theorem Run.five (E : Env le Nm ar) (I : Run le Nm ar D W0 V B σ r) : B.length ≤ 5 := Un.five E I.pi.tri I.gB
theorem Run.deep (E : Env le Nm ar) (I : Run le Nm ar D W0 V B σ r) {t : Tm S} (g : G Nm ar D t) : dp (ap σ t) ≤ 6 * D := deepT E I.pi.tri I.gB g
theorem Run.len (E : Env le Nm ar) (I : Run le Nm ar D W0 V B σ r) : V.length ≤ 5 + 36 * D := by
  have h := stk_len I.stk
  have h5 := I.five E
  have : 6 * D * (B.length + 1) ≤ 6 * D * 6 := Nat.mul_le_mul_left _ (by omega)
  omega
theorem wt_big (E : Env le Nm ar) (I : Run le Nm ar D W0 V B σ r) : wt σ V < BIG D := by
  have h := wt_le (σ := σ) (m := 6 * D) V fun p hp => I.deep E (I.gV p hp).1
  have : V.length * 3 ^ (6 * D) ≤ (5 + 36 * D) * 3 ^ (6 * D) := Nat.mul_le_mul_right _ (I.len E)
  unfold BIG; omega
theorem Run.start (E : Env le Nm ar) (h : ∀ p ∈ W0, G Nm ar D p.1 ∧ G Nm ar D p.2) (hl : W0.length ≤ 4) : Run le Nm ar D W0 W0 [] Tm.v (fun _ => 0) := by
  have P := PI.start E.rf W0
  refine ⟨P, h, fun e he => (by cases he), fun i p e => ?_⟩
  have l := (List.getElem?_eq_some_iff.mp e).1
  have := deepT (D := D) E P.tri (fun e he => (by cases he)) (h p (List.mem_of_getElem? e)).1
  simp only [List.length_nil]
  omega
theorem Run.drop (I : Run le Nm ar D W0 (V ++ [(a, b)]) B σ r) (h : ap σ a = ap σ b) : Run le Nm ar D W0 V B σ r ∧ mu D V B σ < mu D (V ++ [(a, b)]) B σ := by
  refine ⟨⟨I.pi.drop h, fun p hp => I.gV p (List.mem_append_left _ hp), I.gB, fun i p e => I.stk i p ?_⟩, ?_⟩
  · have l := (List.getElem?_eq_some_iff.mp e).1
    rw [List.getElem?_append_left l]; exact e
  · unfold mu
    rw [wt_app, wt]
    have : 0 < 3 ^ dp (ap σ (a, b).1) := Nat.pow_pos (by omega)
    omega
theorem Run.bind (E : Env le Nm ar) (I : Run le Nm ar D W0 (V ++ [(a, b)]) B σ r) {x : S} {t : Tm S} (hx : x ∉ ks B) (hn : x ∈ Nm) (g : G Nm ar D t) (h : (ap σ a = .v x ∧ ap σ b = ap σ t) ∨ (ap σ b = .v x ∧ ap σ a = ap σ t)) (ho : ¬ occ x (ap σ t)) (hl : ∀ y, ap σ t = .v y → le y x) :
    ∃ r', Run le Nm ar D W0 V (B ++ [(x, t)]) (fun z => ap (one x (ap σ t)) (σ z)) r' ∧ mu D V (B ++ [(x, t)]) (fun z => ap (one x (ap σ t)) (σ z)) < mu D (V ++ [(a, b)]) B σ := by
  obtain ⟨r', P⟩ := I.pi.bind E.tr hx h ho hl
  have gB : ∀ e ∈ B ++ [(x, t)], G Nm ar D e.2 ∧ e.1 ∈ Nm := fun e he => by
    rcases List.mem_append.mp he with he | he
    · exact I.gB e he
    · rw [List.mem_singleton] at he; rw [he]; exact ⟨g, hn⟩
  have gV : ∀ p ∈ V, G Nm ar D p.1 ∧ G Nm ar D p.2 := fun p hp => I.gV p (List.mem_append_left _ hp)
  have R : Run le Nm ar D W0 V (B ++ [(x, t)]) (fun z => ap (one x (ap σ t)) (σ z)) r' := by
    refine ⟨P, gV, gB, fun i p e => ?_⟩
    have l := (List.getElem?_eq_some_iff.mp e).1
    have h1 := I.stk i p (by rw [List.getElem?_append_left l]; exact e)
    have h2 := deepT (D := D) E P.tri gB (gV p (List.mem_of_getElem? e)).1
    rw [List.length_append, List.length_singleton]
    have : 6 * D * (B.length + 1 + 1) = 6 * D * (B.length + 1) + 6 * D := Nat.mul_succ _ _
    omega
  refine ⟨r', R, ?_⟩
  have f := R.five E
  rw [List.length_append, List.length_singleton] at f
  have hw := wt_big E R
  unfold mu
  rw [List.length_append, List.length_singleton]
  have e1 : 5 - B.length = (5 - (B.length + 1)) + 1 := by omega
  rw [e1, Nat.succ_mul]
  omega
theorem mem_zip_parts {α β : Type} : ∀ {ps : List α} {qs : List β} {p : α × β}, p ∈ ps.zip qs → p.1 ∈ ps ∧ p.2 ∈ qs := fun {ps qs p} h => List.of_mem_zip (a := p.1) (b := p.2) h
theorem Run.dec (E : Env le Nm ar) (I : Run le Nm ar D W0 (V ++ [(a, b)]) B σ r) {w : S} {ps qs : List (Tm S)} (ga : G Nm ar D (.n w ps)) (gb : G Nm ar D (.n w qs)) (h1 : ap σ a = .n w (aps σ ps)) (h2 : ap σ b = .n w (aps σ qs)) :
    Run le Nm ar D W0 (V ++ ps.zip qs) B σ r ∧ mu D (V ++ ps.zip qs) B σ < mu D (V ++ [(a, b)]) B σ := by
  have hl : ps.length = qs.length := by rw [ga.ok.1, gb.ok.1]
  have l2 : ps.length ≤ 2 := by rw [ga.ok.1]; exact E.a2 w
  have lz : (ps.zip qs).length ≤ 2 := by rw [List.length_zip]; omega
  have hd : dp (ap σ a) = dps (aps σ ps) + 1 := by rw [h1, Un.dp]
  have hc : ∀ p ∈ ps.zip qs, dp (ap σ p.1) ≤ dps (aps σ ps) := fun p hp => dps_mem (by rw [aps_map]; exact List.mem_map.mpr ⟨_, (mem_zip_parts hp).1, rfl⟩)
  have hs := I.stk V.length (a, b) (by rw [List.getElem?_append_right (Nat.le_refl _)]; simp)
  simp only at hs
  refine ⟨⟨I.pi.dec h1 h2 hl, fun p hp => ?_, I.gB, fun i p e => ?_⟩, ?_⟩
  · rcases List.mem_append.mp hp with hp | hp
    · exact I.gV p (List.mem_append_left _ hp)
    · exact ⟨ga.part _ (mem_zip_parts hp).1, gb.part _ (mem_zip_parts hp).2⟩
  · rcases Nat.lt_or_ge i V.length with l | l
    · rw [List.getElem?_append_left l] at e
      exact I.stk i p (by rw [List.getElem?_append_left l]; exact e)
    · rw [List.getElem?_append_right l] at e
      have l' := (List.getElem?_eq_some_iff.mp e).1
      have := hc p (List.mem_of_getElem? e)
      omega
  · unfold mu
    rw [wt_app, wt_app, wt, wt]
    have hw := wt_le (σ := σ) (m := dps (aps σ ps)) (ps.zip qs) hc
    have h3 : (ps.zip qs).length * 3 ^ dps (aps σ ps) ≤ 2 * 3 ^ dps (aps σ ps) := Nat.mul_le_mul_right _ lz
    have h4 : 3 ^ dp (ap σ (a, b).1) = 3 * 3 ^ dps (aps σ ps) := by
      show 3 ^ dp (ap σ a) = _
      rw [hd, Nat.pow_succ, Nat.mul_comm]
    have h5 : 0 < 3 ^ dps (aps σ ps) := Nat.pow_pos (by omega)
    omega
end
end
end Un
set_option Elab.async false
set_option linter.all false
set_option autoImplicit false
namespace Un
section
variable {S : Type} [DecidableEq S]
section
variable {le : S → S → Prop} {Nm : List S} {ar : S → Nat} {D : Nat} {W0 V W : Ps S} {B d : At S} {σ : S → Tm S} {r : S → Nat} {a b a' b' p q : Tm S} {m : Nat}
theorem fol_G (hB : ∀ e ∈ B, G Nm ar D e.2 ∧ e.1 ∈ Nm) (f : Fol B a a') (g : G Nm ar D a) : G Nm ar D a' := Fol.of (P := G Nm ar D) (fun e he => (hB e he).1) f g
theorem fol_v (T : Tri B σ r) (f : Fol B a a') {x : S} (e : a' = .v x) : x ∉ ks B ∧ ap σ a = .v x := by
  have h1 := f.end x e
  have h2 := f.same T
  rw [e] at h2
  exact ⟨h1, by rw [← h2]; exact T.fix x h1⟩
/-- what becomes a name is led to it -/
theorem fol_name (T : Tri B σ r) (f : Fol B a a') {x : S} (e : ap σ a = .v x) : a' = .v x := by
  cases ea : a' with
  | v y =>
    have := (fol_v T f ea).2
    rw [e] at this; cases this; rfl
  | n w ps =>
    have h2 := f.same T
    rw [ea, e, ap] at h2; cases h2
theorem fol_node (T : Tri B σ r) (f : Fol B a a') {w : S} {us : List (Tm S)} (e : ap σ a = .n w us) : ∃ ps, a' = .n w ps ∧ us = aps σ ps := by
  cases ea : a' with
  | v y =>
    have := (fol_v T f ea).2
    rw [e] at this; cases this
  | n w' ps =>
    have h2 := f.same T
    rw [ea, e, ap] at h2
    injection h2 with h3 h4
    exact ⟨ps, by rw [h3], h4.symm⟩
theorem Run.bindF (E : Env le Nm ar) (I : Run le Nm ar D W0 (V ++ [(a, b)]) B σ r) (fa : Fol B a a') (fb : Fol B b b') {x : S} {t : Tm S} (h : (a' = .v x ∧ t = b') ∨ (b' = .v x ∧ t = a')) (ho : ¬ occ x (ap σ t)) (hl : ∀ y, t = .v y → le y x) :
    x ∉ ks B ∧ ∃ r', Run le Nm ar D W0 V (B ++ [(x, t)]) (fun z => ap (one x (ap σ t)) (σ z)) r' ∧ mu D V (B ++ [(x, t)]) (fun z => ap (one x (ap σ t)) (σ z)) < mu D (V ++ [(a, b)]) B σ := by
  have T := I.pi.tri
  obtain ⟨ga, gb⟩ := I.gV (a, b) (List.mem_append_right _ (List.mem_singleton_self _))
  have ga' := fol_G I.gB fa ga
  have gb' := fol_G I.gB fb gb
  have sa := fa.same T
  have sb := fb.same T
  have hl' : ∀ y, ap σ t = .v y → le y x := fun y e => by
    rcases h with ⟨h1, h2⟩ | ⟨h1, h2⟩
    · rw [h2, sb] at e
      exact hl y (by rw [h2]; exact fol_name T fb e)
    · rw [h2, sa] at e
      exact hl y (by rw [h2]; exact fol_name T fa e)
  rcases h with ⟨h1, h2⟩ | ⟨h1, h2⟩
  · obtain ⟨hx, e⟩ := fol_v T fa h1
    exact ⟨hx, I.bind E hx (ga'.nm x (by rw [h1]; rfl)) (by rw [h2]; exact gb') (.inl ⟨e, by rw [h2, sb]⟩) ho hl'⟩
  · obtain ⟨hx, e⟩ := fol_v T fb h1
    exact ⟨hx, I.bind E hx (gb'.nm x (by rw [h1]; rfl)) (by rw [h2]; exact ga') (.inr ⟨e, by rw [h2, sa]⟩) ho hl'⟩
theorem Run.occursF (I : Run le Nm ar D W0 (V ++ [(a, b)]) B σ r) (fa : Fol B a a') (fb : Fol B b b') {x : S} {t : Tm S} (h : (a' = .v x ∧ t = b') ∨ (b' = .v x ∧ t = a')) (ho : occ x (ap σ t)) (hn : t ≠ .v x) : ∀ θ, ¬ uni θ W0 := by
  have T := I.pi.tri
  have sa := fa.same T
  have sb := fb.same T
  refine I.pi.occurs (x := x) (t := t) ?_ ho fun e => ?_
  · rcases h with ⟨h1, h2⟩ | ⟨h1, h2⟩
    · exact .inl ⟨(fol_v T fa h1).2, by rw [h2, sb]⟩
    · exact .inr ⟨(fol_v T fb h1).2, by rw [h2, sa]⟩
  · rcases h with ⟨h1, h2⟩ | ⟨h1, h2⟩
    · rw [h2, sb] at e; exact hn (by rw [h2]; exact fol_name T fb e)
    · rw [h2, sa] at e; exact hn (by rw [h2]; exact fol_name T fa e)
theorem Run.dropF (I : Run le Nm ar D W0 (V ++ [(a, b)]) B σ r) (fa : Fol B a a') (fb : Fol B b b') (h : a' = b') : Run le Nm ar D W0 V B σ r ∧ mu D V B σ < mu D (V ++ [(a, b)]) B σ :=
  I.drop (by rw [← fa.same I.pi.tri, ← fb.same I.pi.tri, h])
theorem Run.clashF (I : Run le Nm ar D W0 (V ++ [(a, b)]) B σ r) {w w' : S} {ps qs : List (Tm S)} (fa : Fol B a (.n w ps)) (fb : Fol B b (.n w' qs)) (hn : w ≠ w') : ∀ θ, ¬ uni θ W0 :=
  I.pi.clash (fa.same I.pi.tri).symm (fb.same I.pi.tri).symm hn
theorem Run.decF (E : Env le Nm ar) (I : Run le Nm ar D W0 (V ++ [(a, b)]) B σ r) {w : S} {ps qs : List (Tm S)} (fa : Fol B a (.n w ps)) (fb : Fol B b (.n w qs)) :
    Run le Nm ar D W0 (V ++ ps.zip qs) B σ r ∧ mu D (V ++ ps.zip qs) B σ < mu D (V ++ [(a, b)]) B σ := by
  obtain ⟨ga, gb⟩ := I.gV (a, b) (List.mem_append_right _ (List.mem_singleton_self _))
  exact I.dec E (fol_G I.gB fa ga) (fol_G I.gB fb gb) (fa.same I.pi.tri).symm (fb.same I.pi.tri).symm

/-! ### all put in at once -/
def apP (σ : S → Tm S) (p : Tm S × Tm S) : Tm S × Tm S := (ap σ p.1, ap σ p.2)
def putin (d : At S) (x : S) (u : Tm S) : At S := d.map (fun e => (e.1, ap (one x u) e.2)) ++ [(x, u)]
structure LRun (le : S → S → Prop) (Nm : List S) (ar : S → Nat) (D : Nat) (W0 W : Ps S) (d : At S) (V : Ps S) (B : At S) (σ : S → Tm S) (r : S → Nat) : Prop where
  run : Run le Nm ar D W0 V B σ r
  eq : W.map (apP σ) = V.map (apP σ)
  gW : ∀ p ∈ W, G Nm ar (6 * D) p.1 ∧ G Nm ar (6 * D) p.2
  d : d = res B σ
theorem G.mono {D' : Nat} {t : Tm S} (h : G Nm ar D t) (l : D ≤ D') : G Nm ar D' t := ⟨Nat.le_trans h.dp l, h.nm, h.ok⟩
theorem LRun.start (E : Env le Nm ar) (h : ∀ p ∈ W0, G Nm ar D p.1 ∧ G Nm ar D p.2) (hl : W0.length ≤ 4) : LRun le Nm ar D W0 W0 [] W0 [] Tm.v (fun _ => 0) :=
  ⟨Run.start E h hl, rfl, fun p hp => ⟨(h p hp).1.mono (by omega), (h p hp).2.mono (by omega)⟩, rfl⟩
theorem LRun.last (I : LRun le Nm ar D W0 (W ++ [(p, q)]) d V B σ r) : ∃ V' a b, V = V' ++ [(a, b)] ∧ W.map (apP σ) = V'.map (apP σ) ∧ ap σ p = ap σ a ∧ ap σ q = ap σ b := by
  have e := I.eq
  rcases List.eq_nil_or_concat V with h | ⟨V', x, h⟩
  · rw [h] at e; simp at e
  · rw [h, List.concat_eq_append, List.map_append, List.map_append] at e
    have := List.append_inj' e rfl
    obtain ⟨a, b⟩ := x
    have h2 := this.2
    simp only [List.map_cons, List.map_nil, List.cons.injEq, and_true, apP, Prod.mk.injEq] at h2
    exact ⟨V', a, b, by rw [h, List.concat_eq_append], this.1, h2.1, h2.2⟩
theorem LRun.deep (E : Env le Nm ar) (I : LRun le Nm ar D W0 W d V B σ r) {t : Tm S} (g : G Nm ar D t) : G Nm ar (6 * D) (ap σ t) := by
  have T := I.run.pi.tri
  have gB := I.run.gB
  refine ⟨I.run.deep E g, fun x o => ?_, okA_ap t g.ok fun x _ => T.okA (fun e he => (gB e he).1.ok) x⟩
  obtain ⟨z, oz, hz⟩ := (occ_ap t).mp o
  exact T.nms (fun e he => (gB e he).1.nm) z (g.nm z oz) x hz
def LR (le : S → S → Prop) (Nm : List S) (ar : S → Nat) (D : Nat) (W0 : Ps S) (m : Nat) (W : Ps S) (d : At S) : Prop := ∃ V B σ r, LRun le Nm ar D W0 W d V B σ r ∧ mu D V B σ ≤ m
theorem res_snoc {x : S} {t : Tm S} {B : At S} {σ : S → Tm S} {r : S → Nat} (T : Tri B σ r) (hx : x ∉ ks B) : res (B ++ [(x, t)]) (fun z => ap (one x (ap σ t)) (σ z)) = putin (res B σ) x (ap σ t) := by
  unfold res putin
  rw [List.map_append, List.map_map]
  have : ap (one x (ap σ t)) (σ x) = ap σ t := by rw [T.fix x hx, ap, one_self]
  show _ ++ [(x, ap (one x (ap σ t)) (σ x))] = _
  rw [this]; rfl
theorem map_after {φ σ : S → Tm S} {W V : Ps S} (h : W.map (apP σ) = V.map (apP σ)) : W.map (apP fun z => ap φ (σ z)) = V.map (apP fun z => ap φ (σ z)) := by
  have e : ∀ U : Ps S, U.map (apP fun z => ap φ (σ z)) = (U.map (apP σ)).map (apP φ) := fun U => by
    rw [List.map_map]
    refine List.map_congr_left fun p _ => ?_
    show (ap (fun z => ap φ (σ z)) p.1, ap (fun z => ap φ (σ z)) p.2) = (ap φ (ap σ p.1), ap φ (ap σ p.2))
    rw [ap_ap, ap_ap]
  rw [e, e, h]
structure LStep (le : S → S → Prop) (Nm : List S) (ar : S → Nat) (D : Nat) (W0 : Ps S) (m : Nat) (W : Ps S) (d : At S) (o s : Tm S) : Prop where
  go : G Nm ar (6 * D) o
  gs : G Nm ar (6 * D) s
  same : o = s → ∃ m', m' < m ∧ LR le Nm ar D W0 m' W d
  bind : ∀ x u, (o = .v x ∧ s = u) ∨ (s = .v x ∧ o = u) → ¬ occ x u → (∀ y, u = .v y → le y x) → x ∉ ks d ∧ ∃ m', m' < m ∧ LR le Nm ar D W0 m' W (putin d x u)
  occurs : ∀ x u, (o = .v x ∧ s = u) ∨ (s = .v x ∧ o = u) → occ x u → u ≠ .v x → ∀ θ, ¬ uni θ W0
  clash : ∀ w w' ps qs, o = .n w ps → s = .n w' qs → w ≠ w' → ∀ θ, ¬ uni θ W0
  dec : ∀ w ps qs, o = .n w ps → s = .n w qs → ps.length = qs.length ∧ ps.length ≤ 2 ∧ ∃ m', m' < m ∧ LR le Nm ar D W0 m' (W ++ ps.zip qs) d
theorem zip_aps (σ : S → Tm S) : ∀ ps qs : List (Tm S), (aps σ ps).zip (aps σ qs) = (ps.zip qs).map (apP σ) := fun ps qs => by
  rw [aps_map, aps_map, List.zip_map]
  rfl
theorem LR.step (E : Env le Nm ar) (h : LR le Nm ar D W0 m (W ++ [(p, q)]) d) : LStep le Nm ar D W0 m W d (ap (sub d) p) (ap (sub d) q) := by
  obtain ⟨V0, B, σ, r, I, hm⟩ := h
  have T := I.run.pi.tri
  have ed := I.d
  obtain ⟨V, a, b, rfl, ev, ea, eb⟩ := I.last
  obtain ⟨ga, gb⟩ := I.run.gV (a, b) (List.mem_append_right _ (List.mem_singleton_self _))
  have kd : ks d = ks B := by rw [ed, ks_res]
  have gW : ∀ p ∈ W, G Nm ar (6 * D) p.1 ∧ G Nm ar (6 * D) p.2 := fun p hp => I.gW p (List.mem_append_left _ hp)
  have eo : ap (sub d) p = ap σ a := by rw [ed, ap_res T, ea]
  have es : ap (sub d) q = ap σ b := by rw [ed, ap_res T, eb]
  rw [eo, es]
  obtain ⟨a', fa⟩ := T.fol a
  obtain ⟨b', fb⟩ := T.fol b
  have sa := fa.same T
  have sb := fb.same T
  refine ⟨I.deep E ga, I.deep E gb, fun h => ?_, fun x u h ho hl => ?_, fun x u h ho hn => ?_, fun w w' ps qs h1 h2 hn => ?_, fun w ps qs h1 h2 => ?_⟩
  · obtain ⟨R, l⟩ := I.run.drop h
    exact ⟨_, Nat.lt_of_lt_of_le l hm, V, B, σ, r, ⟨R, ev, gW, ed⟩, Nat.le_refl _⟩
  · have key : ∀ t, u = ap σ t → ((a' = .v x ∧ t = b') ∨ (b' = .v x ∧ t = a')) → (∀ y, t = .v y → y ∉ ks B) → x ∉ ks d ∧ ∃ m', m' < m ∧ LR le Nm ar D W0 m' W (putin d x u) := fun t et ht hk => by
      obtain ⟨hx, r', R, l⟩ := I.run.bindF E fa fb ht (by rw [← et]; exact ho) fun y e => hl y (by rw [et, e, ap]; exact T.fix y (hk y e))
      refine ⟨by rw [kd]; exact hx, _, Nat.lt_of_lt_of_le l hm, V, _, _, r', ⟨R, map_after ev, gW, ?_⟩, Nat.le_refl _⟩
      rw [ed, et, res_snoc T hx]
    rcases h with ⟨h1, h2⟩ | ⟨h1, h2⟩
    · exact key b' (by rw [← h2, sb]) (.inl ⟨fol_name T fa h1, rfl⟩) fb.end
    · exact key a' (by rw [← h2, sa]) (.inr ⟨fol_name T fb h1, rfl⟩) fa.end
  · rcases h with ⟨h1, h2⟩ | ⟨h1, h2⟩
    · refine I.run.occursF fa fb (x := x) (t := b') (.inl ⟨fol_name T fa h1, rfl⟩) (by rw [sb, h2]; exact ho) fun e => hn ?_
      rw [← h2]; exact (fol_v T fb e).2
    · refine I.run.occursF fa fb (x := x) (t := a') (.inr ⟨fol_name T fb h1, rfl⟩) (by rw [sa, h2]; exact ho) fun e => hn ?_
      rw [← h2]; exact (fol_v T fa e).2
  · exact I.run.pi.clash h1 h2 hn
  · obtain ⟨as, e1, e2⟩ := fol_node T fa h1
    obtain ⟨bs, e3, e4⟩ := fol_node T fb h2
    subst e1 e3
    have ga' := fol_G I.run.gB fa ga
    have gb' := fol_G I.run.gB fb gb
    obtain ⟨R, l⟩ := I.run.decF E fa fb
    have la : ps.length = ar w := by rw [e2, aps_map, List.length_map]; exact ga'.ok.1
    have lb : qs.length = ar w := by rw [e4, aps_map, List.length_map]; exact gb'.ok.1
    refine ⟨la.trans lb.symm, by rw [la]; exact E.a2 w, _, Nat.lt_of_lt_of_le l hm, _, B, σ, r, ⟨R, ?_, fun p hp => ?_, ed⟩, Nat.le_refl _⟩
    · rw [List.map_append, List.map_append, ev, e2, e4, zip_aps, List.map_map]
      refine congrArg _ (List.map_congr_left fun p _ => ?_)
      show (ap σ (ap σ p.1), ap σ (ap σ p.2)) = (ap σ p.1, ap σ p.2)
      rw [T.fixed, T.fixed]
    · rcases List.mem_append.mp hp with hp | hp
      · exact gW p hp
      · have g1 := I.deep E ga
        have g2 := I.deep E gb
        rw [h1] at g1
        rw [h2] at g2
        exact ⟨g1.part _ (mem_zip_parts hp).1, g2.part _ (mem_zip_parts hp).2⟩
theorem LR.done (h : LR le Nm ar D W0 m [] d) : Mgu le W0 d ∧ ∀ e ∈ d, True := by
  obtain ⟨V, B, σ, r, I, _⟩ := h
  have : V = [] := by
    have := I.eq
    simpa using this.symm
  subst this
  rw [I.d]
  exact ⟨I.run.pi.done, fun _ _ => trivial⟩
theorem LR.len (E : Env le Nm ar) (h : LR le Nm ar D W0 m W d) : W.length ≤ 5 + 36 * D := by
  obtain ⟨V, B, σ, r, I, _⟩ := h
  have : W.length = V.length := by have := congrArg List.length I.eq; simpa using this
  rw [this]; exact I.run.len E
/-- the rows that are told hold small terms -/
theorem LR.vals (E : Env le Nm ar) (h : LR le Nm ar D W0 m W d) : (∀ e ∈ d, G Nm ar (6 * D) e.2 ∧ e.1 ∈ Nm) ∧ d.length ≤ 5 ∧ (ks d).Nodup := by
  obtain ⟨V, B, σ, r, I, _⟩ := h
  have T := I.run.pi.tri
  refine ⟨fun e he => ?_, ?_, by rw [I.d, ks_res]; exact T.nd⟩
  · rw [I.d] at he
    obtain ⟨e0, h0, rfl⟩ := List.mem_map.mp he
    have g := I.run.gB e0 h0
    refine ⟨?_, g.2⟩
    show G Nm ar (6 * D) (σ e0.1)
    rw [T.eqn e0.1 e0.2 h0]
    exact I.deep E g.1
  · rw [I.d]; unfold res; rw [List.length_map]; exact I.run.five E
theorem Run.vals (E : Env le Nm ar) (I : Run le Nm ar D W0 V B σ r) : (∀ e ∈ res B σ, G Nm ar (6 * D) e.2 ∧ e.1 ∈ Nm) ∧ (res B σ).length ≤ 5 ∧ (ks (res B σ)).Nodup := by
  have T := I.pi.tri
  refine ⟨fun e he => ?_, by unfold res; rw [List.length_map]; exact I.five E, by rw [ks_res]; exact T.nd⟩
  obtain ⟨e0, h0, rfl⟩ := List.mem_map.mp he
  have g := I.gB e0 h0
  refine ⟨?_, g.2⟩
  show G Nm ar (6 * D) (σ e0.1)
  rw [T.eqn e0.1 e0.2 h0]
  refine ⟨I.deep E g.1, fun x o => ?_, okA_ap _ g.1.ok fun x _ => T.okA (fun e he => (I.gB e he).1.ok) x⟩
  obtain ⟨z, oz, hz⟩ := (occ_ap _).mp o
  exact T.nms (fun e he => (I.gB e he).1.nm) z (g.1.nm z oz) x hz
end
end
end Un
set_option maxHeartbeats 4000000
namespace Lw
open PySem L2 PyProof.Rows Px
def topS (i : Nat) : Stmt := PySem.Challenge.pw_exactkinds_k02_trees_in_their_order.main.body.getD i (.Pass ⟨0, 0, 0, 0⟩)
abbrev s_size : Stmt := topS 1
abbrev s_order : Stmt := topS 2
abbrev s_trees_of_size : Stmt := topS 3
abbrev s_trees : Stmt := topS 4
abbrev s__law_draws : Stmt := topS 6
abbrev s__law_draw : Stmt := topS 7
abbrev s__law_pick : Stmt := topS 8
abbrev s__law_makers : Stmt := topS 9
abbrev s__law_term : Stmt := topS 10
abbrev s__law_key : Stmt := topS 11
abbrev s__law_trees : Stmt := topS 12
abbrev s__law_sign : Stmt := topS 13
abbrev s__law_right : Stmt := topS 14
abbrev s_law : Stmt := topS 15
/-- what the top leaves -/
structure Txt (K : PySem.W.Frag) (mg : Str → Option Value) : Prop where
  d_size : IsDef K mg "size" s_size
  d_order : IsDef K mg "order" s_order
  d_trees_of_size : IsDef K mg "trees_of_size" s_trees_of_size
  d_trees : IsDef K mg "trees" s_trees
  d__law_draws : IsDef K mg "_law_draws" s__law_draws
  d__law_draw : IsDef K mg "_law_draw" s__law_draw
  d__law_pick : IsDef K mg "_law_pick" s__law_pick
  d__law_makers : IsDef K mg "_law_makers" s__law_makers
  d__law_term : IsDef K mg "_law_term" s__law_term
  d__law_key : IsDef K mg "_law_key" s__law_key
  d__law_trees : IsDef K mg "_law_trees" s__law_trees
  d__law_sign : IsDef K mg "_law_sign" s__law_sign
  d__law_right : IsDef K mg "_law_right" s__law_right
  d_law : IsDef K mg "law" s_law
  z_isinstance : mg "isinstance" = none
  z_str : mg "str" = none
  z_sum : mg "sum" = none
  z_zip : mg "zip" = none
  z_range : mg "range" = none
  z_any : mg "any" = none
  z_len : mg "len" = none
  z_list : mg "list" = none
  z_abs : mg "abs" = none
  z_int : mg "int" = none
  z_tuple : mg "tuple" = none
  z_sorted : mg "sorted" = none
  z_bool : mg "bool" = none
/-! size(term) -/
abbrev N_size : List Str := ["term", "part"]
theorem sc_size : FnScope N_size ["term"] (defScope s_size) := ⟨rfl, rfl, rfl, by decide +kernel, rfl, by decide +kernel, by decide +kernel⟩
def rd_size (q_size : FS) : QTS := (qSeq (qIf (qTru (qCB gIsiT (qCons (qVar 0) (qCons (qK (.ty "str")) qNil)))) (qRet (qK (.int 1))) qNext)
  (qRet (qOp2 gAdd (qK (.int 1)) (qCB gSum (qCons (qLc (qIt (qSl gSl (qVar 0) (qPart (qK (.int 1))) qNo)) (qgN 1) qYes (qCall q_size (qCons (qVar 1) qNil)) [1]) qNil)))))
theorem dv_size {P : Program} {w : World} {K : PySem.W.Frag} {mg : Str → Option Value} {base : Heap} {k : Nat} {q_size : FS} (T : Txt K mg) (h_size : Has P w K mg base "size" k ["term"] q_size) (S : FS) (lp : S.io.length = 1)
    (rd : ∀ pvs : List PV, pvs.length = S.io.length → S.pre pvs → rd_size q_size (endsOf S pvs) (mk S.io pvs ++ uns 1)) : Has P w K mg base "size" (k + 1) ["term"] S := by
  obtain ⟨f, fd, F, m⟩ := T.d_size.ex
  refine ⟨f, fd, fn_p F sc_size lp (t := rd_size q_size) (fun cdv A outer s H E hr => ?_) rd, m, F.kp, F.binds (ps := ["term"]) fun _ _ _ _ _ _ us hl => match us, hl with | [_], _ => rfl, F.at⟩
  exact (qss_cons (qs_if (qc_tru (qe_callB call_isiPT T.z_isinstance (qa_cons (qv 0) (qa_cons (qe_ty T.z_str) qa_nil)))) (qss_one (qs_ret qe_int)) qss_nil)
  (qss_one (qs_ret (qe_op op_addP qe_int (qe_callB (call_sumP rfl) T.z_sum (qa_cons (qe_lc rfl sc_size.nd (blkOk_by (N := N_size) (sc := defScope s_size) (own := [("part", 1)]) (by decide +kernel)) (qi_seq (qe_slice sl_seq (qv 0) (qo_some qe_int) qo_none)) (fun _ => (qg_name 1 sc_size.nd)) (fun _ => qcs_nil) (fun _ => (qe_callH h_size hr (qa_cons (qv 1) qa_nil)))) qa_nil))))))

/-! order(makers, one, other) -/
abbrev N_order : List Str := ["makers", "one", "other", "words", "first", "second", "found", "name", "_"]
theorem sc_order : FnScope N_order ["makers", "one", "other"] (defScope s_order) := ⟨rfl, rfl, rfl, by decide +kernel, rfl, by decide +kernel, by decide +kernel⟩
def rd_order (q_size q_order : FS) : QTS := (qSeq (qIf (qB (qOp2 gNe (qCall q_size (qCons (qVar 1) qNil)) (qCall q_size (qCons (qVar 2) qNil)))) (qRet (qIfE (qB (qOp2 gLt (qCall q_size (qCons (qVar 1) qNil)) (qCall q_size (qCons (qVar 2) qNil)))) (qNeg (qK (.int 1))) (qK (.int 1)))) qNext)
  (qSeq (qIf (qB (qOp2 gNe (qOp2 gIx (qVar 1) (qK (.int 0))) (qOp2 gIx (qVar 2) (qK (.int 0))))) (qSeq (qSet 3 (qLc (qIt (qVar 0)) (qgT 2 (qgCons (qgN 7) (qgCons (qgN 8) qgNil))) qYes (qVar 7) [7, 8]))
  (qRet (qIfE (qB (qOp2 gLt (qMeth "list" gIndex (qVar 3) (qCons (qOp2 gIx (qVar 1) (qK (.int 0))) qNil)) (qMeth "list" gIndex (qVar 3) (qCons (qOp2 gIx (qVar 2) (qK (.int 0))) qNil)))) (qNeg (qK (.int 1))) (qK (.int 1))))) qNext)
  (qSeq (qFor (qZipI (qCons (qSl gSl (qVar 1) (qPart (qK (.int 1))) qNo) (qCons (qSl gSl (qVar 2) (qPart (qK (.int 1))) qNo) qNil))) (qgT 2 (qgCons (qgN 4) (qgCons (qgN 5) qgNil))) (qSeq (qSet 6 (qCall q_order (qCons (qVar 0) (qCons (qVar 4) (qCons (qVar 5) qNil)))))
  (qIf (qB (qOp2 gNe (qVar 6) (qK (.int 0)))) (qRet (qVar 6)) qNext)))
  (qRet (qK (.int 0))))))
theorem dv_order {P : Program} {w : World} {K : PySem.W.Frag} {mg : Str → Option Value} {base : Heap} {k : Nat} {q_size q_order : FS} (T : Txt K mg) (h_size : Has P w K mg base "size" k ["term"] q_size) (h_order : Has P w K mg base "order" k ["makers", "one", "other"] q_order) (S : FS) (lp : S.io.length = 3)
    (rd : ∀ pvs : List PV, pvs.length = S.io.length → S.pre pvs → rd_order q_size q_order (endsOf S pvs) (mk S.io pvs ++ uns 6)) : Has P w K mg base "order" (k + 1) ["makers", "one", "other"] S := by
  obtain ⟨f, fd, F, m⟩ := T.d_order.ex
  refine ⟨f, fd, fn_p F sc_order lp (t := rd_order q_size q_order) (fun cdv A outer s H E hr => ?_) rd, m, F.kp, F.binds (ps := ["makers", "one", "other"]) fun _ _ _ _ _ _ us hl => match us, hl with | [_, _, _], _ => rfl, F.at⟩
  exact (qss_cons (qs_if (qc_cmp (op_neP (room64 hr)) (qe_callH h_size hr (qa_cons (qv 1) qa_nil)) (qe_callH h_size hr (qa_cons (qv 2) qa_nil))) (qss_one (qs_ret (qe_ifExp (qc_cmp op_ltP (qe_callH h_size hr (qa_cons (qv 1) qa_nil)) (qe_callH h_size hr (qa_cons (qv 2) qa_nil))) (qe_neg qe_int) qe_int))) qss_nil)
  (qss_cons (qs_if (qc_cmp (op_neP (room64 hr)) (qe_ix ix_P (qv 1) qe_int) (qe_ix ix_P (qv 2) qe_int)) (qss_cons (qs_setLc 3 rfl sc_order.nd (sw_true rfl rfl rfl (by decide +kernel)) (blkOk_by (N := N_order) (sc := defScope s_order) (own := [("name", 7), ("_", 8)]) (by decide +kernel)) (qi_seq (qv 0)) (fun _ => (qg_tup rfl (qgs_cons (qg_name 7 sc_order.nd) (qgs_cons (qg_name 8 sc_order.nd) qgs_nil)))) (fun _ => qcs_nil) (fun _ => (qv 7)))
  (qss_one (qs_ret (qe_ifExp (qc_cmp op_ltP (qe_meth (me_index (room65 hr)) PySem.F.plainAttrs_list PySem.F.slot_list_index PySem.F.type_list_index (qv 3) (qa_cons (qe_ix ix_P (qv 1) qe_int) qa_nil)) (qe_meth (me_index (room65 hr)) PySem.F.plainAttrs_list PySem.F.slot_list_index PySem.F.type_list_index (qv 3) (qa_cons (qe_ix ix_P (qv 2) qe_int) qa_nil))) (qe_neg qe_int) qe_int)))) qss_nil)
  (qss_cons (qs_for PassesOwn.never rfl (qi_zip T.z_zip (qa_cons (qe_slice sl_seq (qv 1) (qo_some qe_int) qo_none) (qa_cons (qe_slice sl_seq (qv 2) (qo_some qe_int) qo_none) qa_nil))) (qg_tup rfl (qgs_cons (qg_name 4 sc_order.nd) (qgs_cons (qg_name 5 sc_order.nd) qgs_nil))) (qss_cons (qs_set 6 sc_order.nd (qe_callH h_order hr (qa_cons (qv 0) (qa_cons (qv 4) (qa_cons (qv 5) qa_nil)))))
  (qss_one (qs_if (qc_cmp (op_neP (room64 hr)) (qv 6) qe_int) (qss_one (qs_ret (qv 6))) qss_nil))))
  (qss_one (qs_ret qe_int)))))

/-! trees_of_size(makers, rows, many)   owned: found -/
abbrev N_trees_of_size : List Str := ["makers", "rows", "many", "found", "name", "parts", "left", "one", "other"]
theorem sc_trees_of_size : FnScope N_trees_of_size ["makers", "rows", "many"] (defScope s_trees_of_size) := ⟨rfl, rfl, rfl, by decide +kernel, rfl, by decide +kernel, by decide +kernel⟩
def rd_trees_of_size : QTS := (qSeq (qOwn 3 (qLst qNil))
  (qSeq (qFor (qIt (qVar 0)) (qgT 2 (qgCons (qgN 4) (qgCons (qgN 5) qgNil))) (qIf (qAnd (qB (qOp2 gEq (qVar 5) (qK (.int 0)))) (qB (qOp2 gEq (qVar 2) (qK (.int 1))))) (qDrop (qMut "list" 3 gAppend (qCons (qTup (qCons (qVar 4) qNil)) qNil))) (qIf (qB (qOp2 gEq (qVar 5) (qK (.int 1)))) (qDrop (qMut "list" 3 gExtend (qCons (qLc (qIt (qOp2 gIx (qVar 1) (qOp2 gSub (qVar 2) (qK (.int 1))))) (qgN 7) qYes (qTup (qCons (qVar 4) (qCons (qVar 7) qNil))) [7]) qNil))) (qIf (qB (qOp2 gEq (qVar 5) (qK (.int 2)))) (qFor (qRng2 (qCons (qK (.int 1)) (qCons (qOp2 gSub (qVar 2) (qK (.int 1))) qNil))) (qgN 6) (qDrop (qMut "list" 3 gExtend (qCons (qLc2 (qIt (qOp2 gIx (qVar 1) (qVar 6))) (qgN 7) qYes (qIt (qOp2 gIx (qVar 1) (qOp2 gSub (qOp2 gSub (qVar 2) (qK (.int 1))) (qVar 6)))) (qgN 8) qYes (qTup (qCons (qVar 4) (qCons (qVar 7) (qCons (qVar 8) qNil)))) [7, 8] [8]) qNil)))) qNext))))
  (qRet (qVar 3))))
theorem dv_trees_of_size {P : Program} {w : World} {K : PySem.W.Frag} {mg : Str → Option Value} {base : Heap} {k : Nat} (T : Txt K mg) (S : FS) (lp : S.io.length = 3)
    (rd : ∀ pvs : List PV, pvs.length = S.io.length → S.pre pvs → rd_trees_of_size (endsOf S pvs) (mk S.io pvs ++ uns 6)) : Has P w K mg base "trees_of_size" (k + 1) ["makers", "rows", "many"] S := by
  obtain ⟨f, fd, F, m⟩ := T.d_trees_of_size.ex
  refine ⟨f, fd, fn_p F sc_trees_of_size lp (t := rd_trees_of_size) (fun cdv A outer s H E hr => ?_) rd, m, F.kp, F.binds (ps := ["makers", "rows", "many"]) fun _ _ _ _ _ _ us hl => match us, hl with | [_, _, _], _ => rfl, F.at⟩
  exact (qss_cons (qs_own 3 sc_trees_of_size.nd (qe_lst qa_nil))
  (qss_cons (qs_for PassesOwn.never rfl (qi_seq (qv 0)) (qg_tup rfl (qgs_cons (qg_name 4 sc_trees_of_size.nd) (qgs_cons (qg_name 5 sc_trees_of_size.nd) qgs_nil))) (qss_one (qs_if (qw_and (qc_cmp (op_eqP (room64 hr)) (qv 5) qe_int) (qw_and1 (qc_cmp (op_eqP (room64 hr)) (qv 2) qe_int))).qc (qss_one (qs_expr (qe_mut 3 m_append PySem.F.plainAttrs_list PySem.F.slot_list_append PySem.F.type_list_append (qa_cons (qe_tup (qa_cons (qv 4) qa_nil)) qa_nil)))) (qss_one (qs_if (qc_cmp (op_eqP (room64 hr)) (qv 5) qe_int) (qss_one (qs_expr (qe_mut 3 m_extend PySem.F.plainAttrs_list PySem.F.slot_list_extend PySem.F.type_list_extend (qa_cons (qe_lc rfl sc_trees_of_size.nd (blkOk_by (N := N_trees_of_size) (sc := defScope s_trees_of_size) (own := [("one", 7)]) (by decide +kernel)) (qi_seq (qe_ix ix_P (qv 1) (qe_op op_subP (qv 2) qe_int))) (fun _ => (qg_name 7 sc_trees_of_size.nd)) (fun _ => qcs_nil) (fun _ => (qe_tup (qa_cons (qv 4) (qa_cons (qv 7) qa_nil))))) qa_nil)))) (qss_one (qs_if (qc_cmp (op_eqP (room64 hr)) (qv 5) qe_int) (qss_one (qs_for PassesOwn.never rfl (qi_range2 T.z_range (qa_cons qe_int (qa_cons (qe_op op_subP (qv 2) qe_int) qa_nil))) (qg_name 6 sc_trees_of_size.nd) (qss_one (qs_expr (qe_mut 3 m_extend PySem.F.plainAttrs_list PySem.F.slot_list_extend PySem.F.type_list_extend (qa_cons (qe_lc2 rfl sc_trees_of_size.nd (blkOk_by (N := N_trees_of_size) (sc := defScope s_trees_of_size) (own := [("one", 7), ("other", 8)]) (by decide +kernel)) (qi_seq (qe_ix ix_P (qv 1) (qv 6))) (fun _ => (qg_name 7 sc_trees_of_size.nd)) (fun _ => qcs_nil) (fun _ => (qi0_seq (qe_ix ix_P (qv 1) (qe_op op_subP (qe_op op_subP (qv 2) qe_int) (qv 6))))) (fun _ => (qg_name 8 sc_trees_of_size.nd)) (fun _ => qcs_nil) (fun _ => (qe_tup (qa_cons (qv 4) (qa_cons (qv 7) (qa_cons (qv 8) qa_nil)))))) qa_nil)))))) qss_nil)))))))
  (qss_one (qs_ret (qv 3)))))

/-! trees(makers, many)   owned: found, rows -/
abbrev N_trees : List Str := ["makers", "many", "endless", "rows", "found", "row", "_", "parts"]
theorem sc_trees : FnScope N_trees ["makers", "many"] (defScope s_trees) := ⟨rfl, rfl, rfl, by decide +kernel, rfl, by decide +kernel, by decide +kernel⟩
def rd_trees (q_trees_of_size : FS) : QTS := (qSeq (qSet 2 (qCB gAny (qCons (qLc (qIt (qVar 0)) (qgT 2 (qgCons (qgN 6) (qgCons (qgN 7) qgNil))) qYes (qOp2 gGt (qVar 7) (qK (.int 0))) [6, 7]) qNil)))
  (qSeq (qOwn 3 (qLst (qCons (qLst qNil) qNil)))
  (qSeq (qOwn 4 (qLst qNil))
  (qSeq (qWhile (qAnd (qB (qOp2 gLt (qCB gLen (qCons (qVar 4) qNil)) (qVar 1))) (qOr (qTru (qVar 2)) (qB (qOp2 gEq (qCB gLen (qCons (qVar 3) qNil)) (qK (.int 1)))))) (qSeq (qSet 5 (qCallF q_trees_of_size (qCons (qVar 0) (qCons (qVar 3) (qCons (qCB gLen (qCons (qVar 3) qNil)) qNil)))))
  (qSeq (qDrop (qMut "list" 3 gAppend (qCons (qVar 5) qNil)))
  (qDrop (qMut "list" 4 gExtend (qCons (qVar 5) qNil))))))
  (qRet (qSl gSl (qVar 4) qNo (qPart (qVar 1))))))))
theorem dv_trees {P : Program} {w : World} {K : PySem.W.Frag} {mg : Str → Option Value} {base : Heap} {k : Nat} {q_trees_of_size : FS} (T : Txt K mg) (h_trees_of_size : Has P w K mg base "trees_of_size" k ["makers", "rows", "many"] q_trees_of_size) (S : FS) (lp : S.io.length = 2)
    (rd : ∀ pvs : List PV, pvs.length = S.io.length → S.pre pvs → rd_trees q_trees_of_size (endsOf S pvs) (mk S.io pvs ++ uns 6)) : Has P w K mg base "trees" (k + 1) ["makers", "many"] S := by
  obtain ⟨f, fd, F, m⟩ := T.d_trees.ex
  refine ⟨f, fd, fn_p F sc_trees lp (t := rd_trees q_trees_of_size) (fun cdv A outer s H E hr => ?_) rd, m, F.kp, F.binds (ps := ["makers", "many"]) fun _ _ _ _ _ _ us hl => match us, hl with | [_, _], _ => rfl, F.at⟩
  exact (qss_cons (qs_set 2 sc_trees.nd (qe_callB (call_anyP rfl) T.z_any (qa_cons (qe_lc rfl sc_trees.nd (blkOk_by (N := N_trees) (sc := defScope s_trees) (own := [("_", 6), ("parts", 7)]) (by decide +kernel)) (qi_seq (qv 0)) (fun _ => (qg_tup rfl (qgs_cons (qg_name 6 sc_trees.nd) (qgs_cons (qg_name 7 sc_trees.nd) qgs_nil)))) (fun _ => qcs_nil) (fun _ => (qe_cmp op_gtP (qv 7) qe_int))) qa_nil)))
  (qss_cons (qs_own 3 sc_trees.nd (qe_lst (qa_cons (qe_lst qa_nil) qa_nil)))
  (qss_cons (qs_own 4 sc_trees.nd (qe_lst qa_nil))
  (qss_cons (qs_while PassesOwn.never (qw_and (qc_cmp op_ltP (qe_callB call_lenP T.z_len (qa_cons (qv 4) qa_nil)) (qv 1)) (qw_and1 (qw_or (qc_tru (qv 2)) (qw_or1 (qc_cmp (op_eqP (room64 hr)) (qe_callB call_lenP T.z_len (qa_cons (qv 3) qa_nil)) qe_int))).qc)).qc (qss_cons (qs_set 5 sc_trees.nd (qe_callHF h_trees_of_size hr (qa_cons (qv 0) (qa_cons (qv 3) (qa_cons (qe_callB call_lenP T.z_len (qa_cons (qv 3) qa_nil)) qa_nil)))))
  (qss_cons (qs_expr (qe_mut 3 m_append PySem.F.plainAttrs_list PySem.F.slot_list_append PySem.F.type_list_append (qa_cons (qv 5) qa_nil)))
  (qss_one (qs_expr (qe_mut 4 m_extend PySem.F.plainAttrs_list PySem.F.slot_list_extend PySem.F.type_list_extend (qa_cons (qv 5) qa_nil)))))))
  (qss_one (qs_ret (qe_slice sl_seq (qv 4) qo_none (qo_some (qv 1)))))))))

/-! _law_draws(script) -/
abbrev N__law_draws : List Str := ["script"]
theorem sc__law_draws : FnScope N__law_draws ["script"] (defScope s__law_draws) := ⟨rfl, rfl, rfl, by decide +kernel, rfl, by decide +kernel, by decide +kernel⟩
def rd__law_draws : QTS := (qRet (qLst (qCons (qCB gListD (qCons (qVar 0) qNil)) (qCons (qK (.int 0)) (qCons (qK (.int 0)) (qCons (qK (.int 1)) qNil))))))
theorem dv__law_draws {P : Program} {w : World} {K : PySem.W.Frag} {mg : Str → Option Value} {base : Heap} {k : Nat} (T : Txt K mg) (S : FS) (lp : S.io.length = 1)
    (rd : ∀ pvs : List PV, pvs.length = S.io.length → S.pre pvs → rd__law_draws (endsOf S pvs) (mk S.io pvs ++ uns 0)) : Has P w K mg base "_law_draws" (k + 1) ["script"] S := by
  obtain ⟨f, fd, F, m⟩ := T.d__law_draws.ex
  refine ⟨f, fd, fn_p F sc__law_draws lp (t := rd__law_draws) (fun cdv A outer s H E hr => ?_) rd, m, F.kp, F.binds (ps := ["script"]) fun _ _ _ _ _ _ us hl => match us, hl with | [_], _ => rfl, F.at⟩
  exact (qss_one (qs_ret (qe_lst (qa_cons (qe_callTy (call_listPD rfl) T.z_list (qa_cons (qv 0) qa_nil)) (qa_cons qe_int (qa_cons qe_int (qa_cons qe_int qa_nil)))))))

/-! _law_draw(draws, limit)   owned: draws -/
abbrev N__law_draw : List Str := ["draws", "limit", "cell", "value"]
theorem sc__law_draw : FnScope N__law_draw ["draws", "limit"] (defScope s__law_draw) := ⟨rfl, rfl, rfl, by decide +kernel, rfl, by decide +kernel, by decide +kernel⟩
def rd__law_draw : QTS := (qSeq (qIf (qAnd (qB (qOp2 gEq (qOp2 gIx (qVar 0) (qK (.int 2))) (qK (.int 0)))) (qB (qOp2 gLt (qOp2 gIx (qVar 0) (qK (.int 1))) (qCB gLen (qCons (qOp2 gIx (qVar 0) (qK (.int 0))) qNil))))) (qSeq (qSet 2 (qCB gAbs (qCons (qOp2 gIx (qOp2 gIx (qVar 0) (qK (.int 0))) (qOp2 gIx (qVar 0) (qK (.int 1)))) qNil)))
  (qSeq (qSetIx 0 (qOp2 gAdd (qOp2 gIx (qVar 0) (qK (.int 1))) (qK (.int 1))) (qK (.int 1)))
  (qSeq (qIf (qB (qOp2 gGe (qVar 2) (qOp2 gPow (qK (.int 10)) (qK (.int 18))))) (qSetIx 0 (qVar 2) (qK (.int 2))) qNext)
  (qSetIx 0 (qOp2 gMod (qCB gIntC (qCons (qOp2 gAdd (qOp2 gAdd (qOp2 gMul (qOp2 gIx (qVar 0) (qK (.int 3))) (qK (.int 48271))) (qVar 2)) (qK (.int 13))) qNil)) (qK (.int 2147483647))) (qK (.int 3)))))) qNext)
  (qSeq (qIf (qB (qOp2 gGt (qOp2 gIx (qVar 0) (qK (.int 2))) (qK (.int 0)))) (qSeq (qSet 3 (qOp2 gMod (qCB gIntC (qCons (qOp2 gIx (qVar 0) (qK (.int 2))) qNil)) (qVar 1)))
  (qSeq (qSetIx 0 (qOp2 gDiv (qOp2 gIx (qVar 0) (qK (.int 2))) (qVar 1)) (qK (.int 2)))
  (qRet (qVar 3)))) qNext)
  (qSeq (qSetIx 0 (qOp2 gMod (qCB gIntC (qCons (qOp2 gAdd (qOp2 gMul (qOp2 gIx (qVar 0) (qK (.int 3))) (qK (.int 69621))) (qK (.int 7))) qNil)) (qK (.int 2147483629))) (qK (.int 3)))
  (qRet (qOp2 gMod (qCB gIntC (qCons (qOp2 gDiv (qOp2 gIx (qVar 0) (qK (.int 3))) (qK (.int 11))) qNil)) (qVar 1))))))
theorem dv__law_draw {P : Program} {w : World} {K : PySem.W.Frag} {mg : Str → Option Value} {base : Heap} {k : Nat} (T : Txt K mg) (S : FS) (lp : S.io.length = 2)
    (rd : ∀ pvs : List PV, pvs.length = S.io.length → S.pre pvs → rd__law_draw (endsOf S pvs) (mk S.io pvs ++ uns 2)) : Has P w K mg base "_law_draw" (k + 1) ["draws", "limit"] S := by
  obtain ⟨f, fd, F, m⟩ := T.d__law_draw.ex
  refine ⟨f, fd, fn_p F sc__law_draw lp (t := rd__law_draw) (fun cdv A outer s H E hr => ?_) rd, m, F.kp, F.binds (ps := ["draws", "limit"]) fun _ _ _ _ _ _ us hl => match us, hl with | [_, _], _ => rfl, F.at⟩
  exact (qss_cons (qs_if (qw_and (qc_cmp (op_eqP (room64 hr)) (qe_ix ix_P (qv 0) qe_int) qe_int) (qw_and1 (qc_cmp op_ltP (qe_ix ix_P (qv 0) qe_int) (qe_callB call_lenP T.z_len (qa_cons (qe_ix ix_P (qv 0) qe_int) qa_nil))))).qc (qss_cons (qs_set 2 sc__law_draw.nd (qe_callB call_absP T.z_abs (qa_cons (qe_ix ix_P (qe_ix ix_P (qv 0) qe_int) (qe_ix ix_P (qv 0) qe_int)) qa_nil)))
  (qss_cons (qs_setIx (room65 hr) 0 (qe_op op_addP (qe_ix ix_P (qv 0) qe_int) qe_int) qe_int)
  (qss_cons (qs_if (qc_cmp op_geP (qv 2) (qe_op op_powP qe_int qe_int)) (qss_one (qs_setIx (room65 hr) 0 (qv 2) qe_int)) qss_nil)
  (qss_one (qs_setIx (room65 hr) 0 (qe_op op_modP (qe_callTy call_intP T.z_int (qa_cons (qe_op op_addP (qe_op op_addP (qe_op op_mulP (qe_ix ix_P (qv 0) qe_int) qe_int) (qv 2)) qe_int) qa_nil)) qe_int) qe_int))))) qss_nil)
  (qss_cons (qs_if (qc_cmp op_gtP (qe_ix ix_P (qv 0) qe_int) qe_int) (qss_cons (qs_set 3 sc__law_draw.nd (qe_op op_modP (qe_callTy call_intP T.z_int (qa_cons (qe_ix ix_P (qv 0) qe_int) qa_nil)) (qv 1)))
  (qss_cons (qs_setIx (room65 hr) 0 (qe_op op_divP (qe_ix ix_P (qv 0) qe_int) (qv 1)) qe_int)
  (qss_one (qs_ret (qv 3))))) qss_nil)
  (qss_cons (qs_setIx (room65 hr) 0 (qe_op op_modP (qe_callTy call_intP T.z_int (qa_cons (qe_op op_addP (qe_op op_mulP (qe_ix ix_P (qv 0) qe_int) qe_int) qe_int) qa_nil)) qe_int) qe_int)
  (qss_one (qs_ret (qe_op op_modP (qe_callTy call_intP T.z_int (qa_cons (qe_op op_divP (qe_ix ix_P (qv 0) qe_int) qe_int) qa_nil)) (qv 1)))))))

/-! _law_pick(draws, row)   owned: draws -/
abbrev N__law_pick : List Str := ["draws", "row"]
theorem sc__law_pick : FnScope N__law_pick ["draws", "row"] (defScope s__law_pick) := ⟨rfl, rfl, rfl, by decide +kernel, rfl, by decide +kernel, by decide +kernel⟩
def rd__law_pick (q__law_draw : FS) : QTS := (qRet (qOp2 gIx (qVar 1) (qCall q__law_draw (qCons (qVar 0) (qCons (qCB gLen (qCons (qVar 1) qNil)) qNil)))))
theorem dv__law_pick {P : Program} {w : World} {K : PySem.W.Frag} {mg : Str → Option Value} {base : Heap} {k : Nat} {q__law_draw : FS} (T : Txt K mg) (h__law_draw : Has P w K mg base "_law_draw" k ["draws", "limit"] q__law_draw) (S : FS) (lp : S.io.length = 2)
    (rd : ∀ pvs : List PV, pvs.length = S.io.length → S.pre pvs → rd__law_pick q__law_draw (endsOf S pvs) (mk S.io pvs ++ uns 0)) : Has P w K mg base "_law_pick" (k + 1) ["draws", "row"] S := by
  obtain ⟨f, fd, F, m⟩ := T.d__law_pick.ex
  refine ⟨f, fd, fn_p F sc__law_pick lp (t := rd__law_pick q__law_draw) (fun cdv A outer s H E hr => ?_) rd, m, F.kp, F.binds (ps := ["draws", "row"]) fun _ _ _ _ _ _ us hl => match us, hl with | [_, _], _ => rfl, F.at⟩
  exact (qss_one (qs_ret (qe_ix ix_P (qv 1) (qe_callH h__law_draw hr (qa_cons (qv 0) (qa_cons (qe_callB call_lenP T.z_len (qa_cons (qv 1) qa_nil)) qa_nil))))))

/-! _law_makers(draws)   owned: draws, rows -/
abbrev N__law_makers : List Str := ["draws", "rows", "word", "turn"]
theorem sc__law_makers : FnScope N__law_makers ["draws"] (defScope s__law_makers) := ⟨rfl, rfl, rfl, by decide +kernel, rfl, by decide +kernel, by decide +kernel⟩
def rd__law_makers (q__law_draw : FS) : QTS := (qSeq (qOwn 1 (qLst (qCons (qTup (qCons (qK (.str (Str.ofString "zero"))) (qCons (qK (.int 0)) qNil))) qNil)))
  (qSeq (qFor (qIt (qLst (qCons (qK (.str (Str.ofString "next"))) (qCons (qK (.str (Str.ofString "pair"))) (qCons (qK (.str (Str.ofString "top"))) (qCons (qK (.str (Str.ofString "x"))) qNil)))))) (qgN 2) (qIf (qB (qOp2 gGt (qCall q__law_draw (qCons (qVar 0) (qCons (qK (.int 3)) qNil))) (qK (.int 0)))) (qDrop (qMut "list" 1 gAppend (qCons (qTup (qCons (qVar 2) (qCons (qCall q__law_draw (qCons (qVar 0) (qCons (qK (.int 3)) qNil))) qNil))) qNil))) qNext))
  (qSeq (qSet 3 (qCall q__law_draw (qCons (qVar 0) (qCons (qCB gLen (qCons (qVar 1) qNil)) qNil))))
  (qRet (qCB gTuple (qCons (qOp2 gAdd (qSl gSl (qVar 1) (qPart (qVar 3)) qNo) (qSl gSl (qVar 1) qNo (qPart (qVar 3)))) qNil))))))
theorem dv__law_makers {P : Program} {w : World} {K : PySem.W.Frag} {mg : Str → Option Value} {base : Heap} {k : Nat} {q__law_draw : FS} (T : Txt K mg) (h__law_draw : Has P w K mg base "_law_draw" k ["draws", "limit"] q__law_draw) (S : FS) (lp : S.io.length = 1)
    (rd : ∀ pvs : List PV, pvs.length = S.io.length → S.pre pvs → rd__law_makers q__law_draw (endsOf S pvs) (mk S.io pvs ++ uns 3)) : Has P w K mg base "_law_makers" (k + 1) ["draws"] S := by
  obtain ⟨f, fd, F, m⟩ := T.d__law_makers.ex
  refine ⟨f, fd, fn_p F sc__law_makers lp (t := rd__law_makers q__law_draw) (fun cdv A outer s H E hr => ?_) rd, m, F.kp, F.binds (ps := ["draws"]) fun _ _ _ _ _ _ us hl => match us, hl with | [_], _ => rfl, F.at⟩
  exact (qss_cons (qs_own 1 sc__law_makers.nd (qe_lst (qa_cons (qe_tup (qa_cons qe_str (qa_cons qe_int qa_nil))) qa_nil)))
  (qss_cons (qs_for PassesOwn.never rfl (qi_seq (qe_lst (qa_cons qe_str (qa_cons qe_str (qa_cons qe_str (qa_cons qe_str qa_nil)))))) (qg_name 2 sc__law_makers.nd) (qss_one (qs_if (qc_cmp op_gtP (qe_callH h__law_draw hr (qa_cons (qv 0) (qa_cons qe_int qa_nil))) qe_int) (qss_one (qs_expr (qe_mut 1 m_append PySem.F.plainAttrs_list PySem.F.slot_list_append PySem.F.type_list_append (qa_cons (qe_tup (qa_cons (qv 2) (qa_cons (qe_callH h__law_draw hr (qa_cons (qv 0) (qa_cons qe_int qa_nil))) qa_nil))) qa_nil)))) qss_nil)))
  (qss_cons (qs_set 3 sc__law_makers.nd (qe_callH h__law_draw hr (qa_cons (qv 0) (qa_cons (qe_callB call_lenP T.z_len (qa_cons (qv 1) qa_nil)) qa_nil))))
  (qss_one (qs_ret (qe_callTy call_tupleP T.z_tuple (qa_cons (qe_op op_addP (qe_slice sl_seq (qv 1) (qo_some (qv 3)) qo_none) (qe_slice sl_seq (qv 1) qo_none (qo_some (qv 3)))) qa_nil)))))))

/-! _law_term(draws, makers, names, deep)   owned: draws -/
abbrev N__law_term : List Str := ["draws", "makers", "names", "deep", "word", "parts", "k"]
theorem sc__law_term : FnScope N__law_term ["draws", "makers", "names", "deep"] (defScope s__law_term) := ⟨rfl, rfl, rfl, by decide +kernel, rfl, by decide +kernel, by decide +kernel⟩
def rd__law_term (q__law_draw q__law_pick q__law_term : FS) : QTS := (qSeq (qIf (qOr (qB (qOp2 gEq (qVar 3) (qK (.int 0)))) (qB (qOp2 gEq (qCall q__law_draw (qCons (qVar 0) (qCons (qK (.int 3)) qNil))) (qK (.int 0))))) (qSeq (qIf (qB (qOp2 gEq (qCall q__law_draw (qCons (qVar 0) (qCons (qK (.int 4)) qNil))) (qK (.int 0)))) (qRet (qCall q__law_pick (qCons (qVar 0) (qCons (qLc (qIt (qVar 1)) (qgT 2 (qgCons (qgN 4) (qgCons (qgN 5) qgNil))) (qB (qOp2 gEq (qVar 5) (qK (.int 0)))) (qTup (qCons (qVar 4) qNil)) [4, 5]) qNil)))) qNext)
  (qRet (qCall q__law_pick (qCons (qVar 0) (qCons (qVar 2) qNil))))) qNext)
  (qSeq (qAsg (qCall q__law_pick (qCons (qVar 0) (qCons (qVar 1) qNil))) (qgT 2 (qgCons (qgN 4) (qgCons (qgN 5) qgNil))))
  (qRet (qOp2 gAdd (qTup (qCons (qVar 4) qNil)) (qCB gTuple (qCons (qLc (qRng1 (qCons (qVar 5) qNil)) (qgN 6) qYes (qCall q__law_term (qCons (qVar 0) (qCons (qVar 1) (qCons (qVar 2) (qCons (qOp2 gSub (qVar 3) (qK (.int 1))) qNil))))) [6]) qNil))))))
theorem dv__law_term {P : Program} {w : World} {K : PySem.W.Frag} {mg : Str → Option Value} {base : Heap} {k : Nat} {q__law_draw q__law_pick q__law_term : FS} (T : Txt K mg) (h__law_draw : Has P w K mg base "_law_draw" k ["draws", "limit"] q__law_draw) (h__law_pick : Has P w K mg base "_law_pick" k ["draws", "row"] q__law_pick) (h__law_term : Has P w K mg base "_law_term" k ["draws", "makers", "names", "deep"] q__law_term) (S : FS) (lp : S.io.length = 4)
    (rd : ∀ pvs : List PV, pvs.length = S.io.length → S.pre pvs → rd__law_term q__law_draw q__law_pick q__law_term (endsOf S pvs) (mk S.io pvs ++ uns 3)) : Has P w K mg base "_law_term" (k + 1) ["draws", "makers", "names", "deep"] S := by
  obtain ⟨f, fd, F, m⟩ := T.d__law_term.ex
  refine ⟨f, fd, fn_p F sc__law_term lp (t := rd__law_term q__law_draw q__law_pick q__law_term) (fun cdv A outer s H E hr => ?_) rd, m, F.kp, F.binds (ps := ["draws", "makers", "names", "deep"]) fun _ _ _ _ _ _ us hl => match us, hl with | [_, _, _, _], _ => rfl, F.at⟩
  exact (qss_cons (qs_if (qw_or (qc_cmp (op_eqP (room64 hr)) (qv 3) qe_int) (qw_or1 (qc_cmp (op_eqP (room64 hr)) (qe_callH h__law_draw hr (qa_cons (qv 0) (qa_cons qe_int qa_nil))) qe_int))).qc (qss_cons (qs_if (qc_cmp (op_eqP (room64 hr)) (qe_callH h__law_draw hr (qa_cons (qv 0) (qa_cons qe_int qa_nil))) qe_int) (qss_one (qs_ret (qe_callH h__law_pick hr (qa_cons (qv 0) (qa_cons (qe_lc rfl sc__law_term.nd (blkOk_by (N := N__law_term) (sc := defScope s__law_term) (own := [("word", 4), ("parts", 5)]) (by decide +kernel)) (qi_seq (qv 1)) (fun _ => (qg_tup rfl (qgs_cons (qg_name 4 sc__law_term.nd) (qgs_cons (qg_name 5 sc__law_term.nd) qgs_nil)))) (fun _ => (qcs_one (qc_cmp (op_eqP (room64 hr)) (qv 5) qe_int))) (fun _ => (qe_tup (qa_cons (qv 4) qa_nil)))) qa_nil))))) qss_nil)
  (qss_one (qs_ret (qe_callH h__law_pick hr (qa_cons (qv 0) (qa_cons (qv 2) qa_nil)))))) qss_nil)
  (qss_cons (qs_asg (qe_callH h__law_pick hr (qa_cons (qv 0) (qa_cons (qv 1) qa_nil))) (qg_tup rfl (qgs_cons (qg_name 4 sc__law_term.nd) (qgs_cons (qg_name 5 sc__law_term.nd) qgs_nil))))
  (qss_one (qs_ret (qe_op op_addP (qe_tup (qa_cons (qv 4) qa_nil)) (qe_callTy call_tupleP T.z_tuple (qa_cons (qe_lc rfl sc__law_term.nd (blkOk_by (N := N__law_term) (sc := defScope s__law_term) (own := [("k", 6)]) (by decide +kernel)) (qi_range1 T.z_range (qa_cons (qv 5) qa_nil)) (fun _ => (qg_name 6 sc__law_term.nd)) (fun _ => qcs_nil) (fun _ => (qe_callH h__law_term hr (qa_cons (qv 0) (qa_cons (qv 1) (qa_cons (qv 2) (qa_cons (qe_op op_subP (qv 3) qe_int) qa_nil))))))) qa_nil)))))))

/-! _law_key(makers, tree) -/
abbrev N__law_key : List Str := ["makers", "tree", "number", "keys", "word", "parts", "part", "key"]
theorem sc__law_key : FnScope N__law_key ["makers", "tree"] (defScope s__law_key) := ⟨rfl, rfl, rfl, by decide +kernel, rfl, by decide +kernel, by decide +kernel⟩
def rd__law_key (q__law_key : FS) : QTS := (qSeq (qSet 2 (qMeth "list" gIndex (qLc (qIt (qVar 0)) (qgT 2 (qgCons (qgN 4) (qgCons (qgN 5) qgNil))) qYes (qVar 4) [4, 5]) (qCons (qOp2 gIx (qVar 1) (qK (.int 0))) qNil)))
  (qSeq (qSet 3 (qCB gTuple (qCons (qLc (qIt (qSl gSl (qVar 1) (qPart (qK (.int 1))) qNo)) (qgN 6) qYes (qCall q__law_key (qCons (qVar 0) (qCons (qVar 6) qNil))) [6]) qNil)))
  (qRet (qOp2 gAdd (qTup (qCons (qOp2 gAdd (qK (.int 1)) (qCB gSum (qCons (qLc (qIt (qVar 3)) (qgN 7) qYes (qOp2 gIx (qVar 7) (qK (.int 0))) [7]) qNil))) (qCons (qVar 2) qNil))) (qVar 3)))))
theorem dv__law_key {P : Program} {w : World} {K : PySem.W.Frag} {mg : Str → Option Value} {base : Heap} {k : Nat} {q__law_key : FS} (T : Txt K mg) (h__law_key : Has P w K mg base "_law_key" k ["makers", "tree"] q__law_key) (S : FS) (lp : S.io.length = 2)
    (rd : ∀ pvs : List PV, pvs.length = S.io.length → S.pre pvs → rd__law_key q__law_key (endsOf S pvs) (mk S.io pvs ++ uns 6)) : Has P w K mg base "_law_key" (k + 1) ["makers", "tree"] S := by
  obtain ⟨f, fd, F, m⟩ := T.d__law_key.ex
  refine ⟨f, fd, fn_p F sc__law_key lp (t := rd__law_key q__law_key) (fun cdv A outer s H E hr => ?_) rd, m, F.kp, F.binds (ps := ["makers", "tree"]) fun _ _ _ _ _ _ us hl => match us, hl with | [_, _], _ => rfl, F.at⟩
  exact (qss_cons (qs_set 2 sc__law_key.nd (qe_meth (me_index (room65 hr)) PySem.F.plainAttrs_list PySem.F.slot_list_index PySem.F.type_list_index (qe_lc rfl sc__law_key.nd (blkOk_by (N := N__law_key) (sc := defScope s__law_key) (own := [("word", 4), ("parts", 5)]) (by decide +kernel)) (qi_seq (qv 0)) (fun _ => (qg_tup rfl (qgs_cons (qg_name 4 sc__law_key.nd) (qgs_cons (qg_name 5 sc__law_key.nd) qgs_nil)))) (fun _ => qcs_nil) (fun _ => (qv 4))) (qa_cons (qe_ix ix_P (qv 1) qe_int) qa_nil)))
  (qss_cons (qs_set 3 sc__law_key.nd (qe_callTy call_tupleP T.z_tuple (qa_cons (qe_lc rfl sc__law_key.nd (blkOk_by (N := N__law_key) (sc := defScope s__law_key) (own := [("part", 6)]) (by decide +kernel)) (qi_seq (qe_slice sl_seq (qv 1) (qo_some qe_int) qo_none)) (fun _ => (qg_name 6 sc__law_key.nd)) (fun _ => qcs_nil) (fun _ => (qe_callH h__law_key hr (qa_cons (qv 0) (qa_cons (qv 6) qa_nil))))) qa_nil)))
  (qss_one (qs_ret (qe_op op_addP (qe_tup (qa_cons (qe_op op_addP qe_int (qe_callB (call_sumP rfl) T.z_sum (qa_cons (qe_lc rfl sc__law_key.nd (blkOk_by (N := N__law_key) (sc := defScope s__law_key) (own := [("key", 7)]) (by decide +kernel)) (qi_seq (qv 3)) (fun _ => (qg_name 7 sc__law_key.nd)) (fun _ => qcs_nil) (fun _ => (qe_ix ix_P (qv 7) qe_int))) qa_nil))) (qa_cons (qv 2) qa_nil))) (qv 3))))))

/-! _law_trees(makers, many)   owned: rows -/
abbrev N__law_trees : List Str := ["makers", "many", "rows", "found", "total", "row", "word", "parts", "left", "one", "keyed", "other", "tree", "key"]
theorem sc__law_trees : FnScope N__law_trees ["makers", "many"] (defScope s__law_trees) := ⟨rfl, rfl, rfl, by decide +kernel, rfl, by decide +kernel, by decide +kernel⟩
def rd__law_trees (q__law_key : FS) : QTS := (qSeq (qOwn 2 (qLst (qCons (qLst qNil) qNil)))
  (qSeq (qSet 3 (qLst qNil))
  (qSeq (qFor (qRng2 (qCons (qK (.int 1)) (qCons (qK (.int 90)) qNil))) (qgN 4) (qSeq (qIf (qB (qOp2 gGe (qCB gLen (qCons (qVar 3) qNil)) (qVar 1))) qBreak qNext)
  (qSeq (qSet 5 (qLst qNil))
  (qSeq (qFor (qIt (qVar 0)) (qgT 2 (qgCons (qgN 6) (qgCons (qgN 7) qgNil))) (qSeq (qIf (qAnd (qB (qOp2 gEq (qVar 7) (qK (.int 0)))) (qB (qOp2 gEq (qVar 4) (qK (.int 1))))) (qSet 5 (qOp2 gAdd (qVar 5) (qLst (qCons (qTup (qCons (qVar 6) qNil)) qNil)))) qNext)
  (qSeq (qIf (qB (qOp2 gEq (qVar 7) (qK (.int 1)))) (qSet 5 (qOp2 gAdd (qVar 5) (qLc (qIt (qOp2 gIx (qVar 2) (qOp2 gSub (qVar 4) (qK (.int 1))))) (qgN 9) qYes (qTup (qCons (qVar 6) (qCons (qVar 9) qNil))) [9]))) qNext)
  (qIf (qB (qOp2 gEq (qVar 7) (qK (.int 2)))) (qFor (qRng2 (qCons (qK (.int 1)) (qCons (qOp2 gSub (qVar 4) (qK (.int 1))) qNil))) (qgN 8) (qFor (qIt (qOp2 gIx (qVar 2) (qVar 8))) (qgN 9) (qSet 5 (qOp2 gAdd (qVar 5) (qLc (qIt (qOp2 gIx (qVar 2) (qOp2 gSub (qOp2 gSub (qVar 4) (qK (.int 1))) (qVar 8)))) (qgN 11) qYes (qTup (qCons (qVar 6) (qCons (qVar 9) (qCons (qVar 11) qNil)))) [11]))))) qNext))))
  (qSeq (qSet 10 (qCB gSortX (qCons (qLc (qIt (qVar 5)) (qgN 12) qYes (qTup (qCons (qCall q__law_key (qCons (qVar 0) (qCons (qVar 12) qNil))) (qCons (qVar 12) qNil))) [12]) qNil)))
  (qSeq (qDrop (qMut "list" 2 gAppend (qCons (qLc (qIt (qVar 10)) (qgT 2 (qgCons (qgN 13) (qgCons (qgN 12) qgNil))) qYes (qVar 12) [13, 12]) qNil)))
  (qSet 3 (qOp2 gAdd (qVar 3) (qOp2 gIx (qVar 2) (qVar 4))))))))))
  (qRet (qSl gSl (qVar 3) qNo (qPart (qVar 1)))))))
theorem dv__law_trees {P : Program} {w : World} {K : PySem.W.Frag} {mg : Str → Option Value} {base : Heap} {k : Nat} {q__law_key : FS} (T : Txt K mg) (h__law_key : Has P w K mg base "_law_key" k ["makers", "tree"] q__law_key) (S : FS) (lp : S.io.length = 2)
    (rd : ∀ pvs : List PV, pvs.length = S.io.length → S.pre pvs → rd__law_trees q__law_key (endsOf S pvs) (mk S.io pvs ++ uns 12)) : Has P w K mg base "_law_trees" (k + 1) ["makers", "many"] S := by
  obtain ⟨f, fd, F, m⟩ := T.d__law_trees.ex
  refine ⟨f, fd, fn_p F sc__law_trees lp (t := rd__law_trees q__law_key) (fun cdv A outer s H E hr => ?_) rd, m, F.kp, F.binds (ps := ["makers", "many"]) fun _ _ _ _ _ _ us hl => match us, hl with | [_, _], _ => rfl, F.at⟩
  exact (qss_cons (qs_own 2 sc__law_trees.nd (qe_lst (qa_cons (qe_lst qa_nil) qa_nil)))
  (qss_cons (qs_set 3 sc__law_trees.nd (qe_lst qa_nil))
  (qss_cons (qs_for PassesOwn.never rfl (qi_range2 T.z_range (qa_cons qe_int (qa_cons qe_int qa_nil))) (qg_name 4 sc__law_trees.nd) (qss_cons (qs_if (qc_cmp op_geP (qe_callB call_lenP T.z_len (qa_cons (qv 3) qa_nil)) (qv 1)) (qss_one qs_break) qss_nil)
  (qss_cons (qs_set 5 sc__law_trees.nd (qe_lst qa_nil))
  (qss_cons (qs_for PassesOwn.never rfl (qi_seq (qv 0)) (qg_tup rfl (qgs_cons (qg_name 6 sc__law_trees.nd) (qgs_cons (qg_name 7 sc__law_trees.nd) qgs_nil))) (qss_cons (qs_if (qw_and (qc_cmp (op_eqP (room64 hr)) (qv 7) qe_int) (qw_and1 (qc_cmp (op_eqP (room64 hr)) (qv 4) qe_int))).qc (qss_one (qs_set 5 sc__law_trees.nd (qe_op op_addP (qv 5) (qe_lst (qa_cons (qe_tup (qa_cons (qv 6) qa_nil)) qa_nil))))) qss_nil)
  (qss_cons (qs_if (qc_cmp (op_eqP (room64 hr)) (qv 7) qe_int) (qss_one (qs_set 5 sc__law_trees.nd (qe_op op_addP (qv 5) (qe_lc rfl sc__law_trees.nd (blkOk_by (N := N__law_trees) (sc := defScope s__law_trees) (own := [("one", 9)]) (by decide +kernel)) (qi_seq (qe_ix ix_P (qv 2) (qe_op op_subP (qv 4) qe_int))) (fun _ => (qg_name 9 sc__law_trees.nd)) (fun _ => qcs_nil) (fun _ => (qe_tup (qa_cons (qv 6) (qa_cons (qv 9) qa_nil)))))))) qss_nil)
  (qss_one (qs_if (qc_cmp (op_eqP (room64 hr)) (qv 7) qe_int) (qss_one (qs_for PassesOwn.never rfl (qi_range2 T.z_range (qa_cons qe_int (qa_cons (qe_op op_subP (qv 4) qe_int) qa_nil))) (qg_name 8 sc__law_trees.nd) (qss_one (qs_for PassesOwn.never rfl (qi_seq (qe_ix ix_P (qv 2) (qv 8))) (qg_name 9 sc__law_trees.nd) (qss_one (qs_set 5 sc__law_trees.nd (qe_op op_addP (qv 5) (qe_lc rfl sc__law_trees.nd (blkOk_by (N := N__law_trees) (sc := defScope s__law_trees) (own := [("other", 11)]) (by decide +kernel)) (qi_seq (qe_ix ix_P (qv 2) (qe_op op_subP (qe_op op_subP (qv 4) qe_int) (qv 8)))) (fun _ => (qg_name 11 sc__law_trees.nd)) (fun _ => qcs_nil) (fun _ => (qe_tup (qa_cons (qv 6) (qa_cons (qv 9) (qa_cons (qv 11) qa_nil))))))))))))) qss_nil)))))
  (qss_cons (qs_set 10 sc__law_trees.nd (qe_callB (call_sortX (room200 hr)) T.z_sorted (qa_cons (qe_lc rfl sc__law_trees.nd (blkOk_by (N := N__law_trees) (sc := defScope s__law_trees) (own := [("tree", 12)]) (by decide +kernel)) (qi_seq (qv 5)) (fun _ => (qg_name 12 sc__law_trees.nd)) (fun _ => qcs_nil) (fun _ => (qe_tup (qa_cons (qe_callH h__law_key hr (qa_cons (qv 0) (qa_cons (qv 12) qa_nil))) (qa_cons (qv 12) qa_nil))))) qa_nil)))
  (qss_cons (qs_expr (qe_mut 2 m_append PySem.F.plainAttrs_list PySem.F.slot_list_append PySem.F.type_list_append (qa_cons (qe_lc rfl sc__law_trees.nd (blkOk_by (N := N__law_trees) (sc := defScope s__law_trees) (own := [("key", 13), ("tree", 12)]) (by decide +kernel)) (qi_seq (qv 10)) (fun _ => (qg_tup rfl (qgs_cons (qg_name 13 sc__law_trees.nd) (qgs_cons (qg_name 12 sc__law_trees.nd) qgs_nil)))) (fun _ => qcs_nil) (fun _ => (qv 12))) qa_nil)))
  (qss_one (qs_set 3 sc__law_trees.nd (qe_op op_addP (qv 3) (qe_ix ix_P (qv 2) (qv 4)))))))))))
  (qss_one (qs_ret (qe_slice sl_seq (qv 3) qo_none (qo_some (qv 1))))))))

/-! _law_sign(makers, one, other) -/
abbrev N__law_sign : List Str := ["makers", "one", "other", "first", "second"]
theorem sc__law_sign : FnScope N__law_sign ["makers", "one", "other"] (defScope s__law_sign) := ⟨rfl, rfl, rfl, by decide +kernel, rfl, by decide +kernel, by decide +kernel⟩
def rd__law_sign (q__law_key : FS) : QTS := (qSeq (qSet 3 (qCall q__law_key (qCons (qVar 0) (qCons (qVar 1) qNil))))
  (qSeq (qSet 4 (qCall q__law_key (qCons (qVar 0) (qCons (qVar 2) qNil))))
  (qRet (qOp2 gSub (qCB gIntC (qCons (qOp2 gGtX (qVar 3) (qVar 4)) qNil)) (qCB gIntC (qCons (qOp2 gLtX (qVar 3) (qVar 4)) qNil))))))
theorem dv__law_sign {P : Program} {w : World} {K : PySem.W.Frag} {mg : Str → Option Value} {base : Heap} {k : Nat} {q__law_key : FS} (T : Txt K mg) (h__law_key : Has P w K mg base "_law_key" k ["makers", "tree"] q__law_key) (S : FS) (lp : S.io.length = 3)
    (rd : ∀ pvs : List PV, pvs.length = S.io.length → S.pre pvs → rd__law_sign q__law_key (endsOf S pvs) (mk S.io pvs ++ uns 2)) : Has P w K mg base "_law_sign" (k + 1) ["makers", "one", "other"] S := by
  obtain ⟨f, fd, F, m⟩ := T.d__law_sign.ex
  refine ⟨f, fd, fn_p F sc__law_sign lp (t := rd__law_sign q__law_key) (fun cdv A outer s H E hr => ?_) rd, m, F.kp, F.binds (ps := ["makers", "one", "other"]) fun _ _ _ _ _ _ us hl => match us, hl with | [_, _, _], _ => rfl, F.at⟩
  exact (qss_cons (qs_set 3 sc__law_sign.nd (qe_callH h__law_key hr (qa_cons (qv 0) (qa_cons (qv 1) qa_nil))))
  (qss_cons (qs_set 4 sc__law_sign.nd (qe_callH h__law_key hr (qa_cons (qv 0) (qa_cons (qv 2) qa_nil))))
  (qss_one (qs_ret (qe_op op_subP (qe_callTy call_intP T.z_int (qa_cons (qe_cmp (op_gtX (room190 hr)) (qv 3) (qv 4)) qa_nil)) (qe_callTy call_intP T.z_int (qa_cons (qe_cmp (op_ltX (room190 hr)) (qv 3) (qv 4)) qa_nil)))))))

/-! _law_right(makers, one, other) -/
abbrev N__law_right : List Str := ["makers", "one", "other", "told"]
theorem sc__law_right : FnScope N__law_right ["makers", "one", "other"] (defScope s__law_right) := ⟨rfl, rfl, rfl, by decide +kernel, rfl, by decide +kernel, by decide +kernel⟩
def rd__law_right (q_order q__law_sign : FS) : QTS := (qSeq (qSet 3 (qCall q_order (qCons (qVar 0) (qCons (qVar 1) (qCons (qVar 2) qNil)))))
  (qRet (qAndV (qCB gIsiT (qCons (qVar 3) (qCons (qK (.ty "int")) qNil))) (qAndV (qNotV (qCB gIsiT (qCons (qVar 3) (qCons (qK (.ty "bool")) qNil)))) (qOp2 gEq (qVar 3) (qCall q__law_sign (qCons (qVar 0) (qCons (qVar 1) (qCons (qVar 2) qNil)))))))))
theorem dv__law_right {P : Program} {w : World} {K : PySem.W.Frag} {mg : Str → Option Value} {base : Heap} {k : Nat} {q_order q__law_sign : FS} (T : Txt K mg) (h_order : Has P w K mg base "order" k ["makers", "one", "other"] q_order) (h__law_sign : Has P w K mg base "_law_sign" k ["makers", "one", "other"] q__law_sign) (S : FS) (lp : S.io.length = 3)
    (rd : ∀ pvs : List PV, pvs.length = S.io.length → S.pre pvs → rd__law_right q_order q__law_sign (endsOf S pvs) (mk S.io pvs ++ uns 1)) : Has P w K mg base "_law_right" (k + 1) ["makers", "one", "other"] S := by
  obtain ⟨f, fd, F, m⟩ := T.d__law_right.ex
  refine ⟨f, fd, fn_p F sc__law_right lp (t := rd__law_right q_order q__law_sign) (fun cdv A outer s H E hr => ?_) rd, m, F.kp, F.binds (ps := ["makers", "one", "other"]) fun _ _ _ _ _ _ us hl => match us, hl with | [_, _, _], _ => rfl, F.at⟩
  exact (qss_cons (qs_set 3 sc__law_right.nd (qe_callH h_order hr (qa_cons (qv 0) (qa_cons (qv 1) (qa_cons (qv 2) qa_nil)))))
  (qss_one (qs_ret (qe_and (qe_callB call_isiPT T.z_isinstance (qa_cons (qv 3) (qa_cons (qe_ty T.z_int) qa_nil))) (qe_and (qe_not (qe_callB call_isiPT T.z_isinstance (qa_cons (qv 3) (qa_cons (qe_ty T.z_bool) qa_nil)))) (qe_one (qe_cmp (op_eqP (room64 hr)) (qv 3) (qe_callH h__law_sign hr (qa_cons (qv 0) (qa_cons (qv 1) (qa_cons (qv 2) qa_nil)))))))))))

/-! law(script)   owned: draws -/
abbrev N_law : List Str := ["script", "draws", "makers", "many", "due", "k", "turn", "one", "other"]
theorem sc_law : FnScope N_law ["script"] (defScope s_law) := ⟨rfl, rfl, rfl, by decide +kernel, rfl, by decide +kernel, by decide +kernel⟩
def rd_law (q__law_draws q__law_makers q__law_draw q__law_trees q_trees q_order q__law_term q__law_pick q__law_right : FS) : QTS := (qSeq (qOwn 1 (qCall q__law_draws (qCons (qVar 0) qNil)))
  (qSeq (qSet 2 (qCall q__law_makers (qCons (qVar 1) qNil)))
  (qSeq (qSet 3 (qCall q__law_draw (qCons (qVar 1) (qCons (qK (.int 41)) qNil))))
  (qSeq (qSet 4 (qCall q__law_trees (qCons (qVar 2) (qCons (qVar 3) qNil))))
  (qSeq (qIf (qB (qOp2 gNeX (qCall q_trees (qCons (qVar 2) (qCons (qVar 3) qNil))) (qVar 4))) (qRet (qK (.bl false))) qNext)
  (qSeq (qFor (qRng1 (qCons (qOp2 gSub (qCB gLen (qCons (qVar 4) qNil)) (qK (.int 1))) qNil)) (qgN 5) (qIf (qOr (qB (qOp2 gNe (qCall q_order (qCons (qVar 2) (qCons (qOp2 gIx (qVar 4) (qVar 5)) (qCons (qOp2 gIx (qVar 4) (qOp2 gAdd (qVar 5) (qK (.int 1)))) qNil)))) (qNeg (qK (.int 1))))) (qB (qOp2 gNe (qCall q_order (qCons (qVar 2) (qCons (qOp2 gIx (qVar 4) (qOp2 gAdd (qVar 5) (qK (.int 1)))) (qCons (qOp2 gIx (qVar 4) (qVar 5)) qNil)))) (qK (.int 1))))) (qRet (qK (.bl false))) qNext))
  (qSeq (qFor (qRng1 (qCons (qK (.int 8)) qNil)) (qgN 6) (qSeq (qSet 7 (qCall q__law_term (qCons (qVar 1) (qCons (qVar 2) (qCons (qLst (qCons (qTup (qCons (qK (.str (Str.ofString "zero"))) qNil)) qNil)) (qCons (qCall q__law_draw (qCons (qVar 1) (qCons (qK (.int 4)) qNil))) qNil))))))
  (qSeq (qSet 8 (qCall q__law_pick (qCons (qVar 1) (qCons (qOp2 gAdd (qLst (qCons (qVar 7) (qCons (qCall q__law_term (qCons (qVar 1) (qCons (qVar 2) (qCons (qLst (qCons (qTup (qCons (qK (.str (Str.ofString "zero"))) qNil)) qNil)) (qCons (qCall q__law_draw (qCons (qVar 1) (qCons (qK (.int 4)) qNil))) qNil))))) qNil))) (qVar 4)) qNil))))
  (qIf (qOr (qNot (qTru (qCall q__law_right (qCons (qVar 2) (qCons (qVar 7) (qCons (qVar 8) qNil)))))) (qNot (qTru (qCall q__law_right (qCons (qVar 2) (qCons (qVar 8) (qCons (qVar 7) qNil))))))) (qRet (qK (.bl false))) qNext))))
  (qRet (qK (.bl true))))))))))
theorem dv_law {P : Program} {w : World} {K : PySem.W.Frag} {mg : Str → Option Value} {base : Heap} {k : Nat} {q__law_draws q__law_makers q__law_draw q__law_trees q_trees q_order q__law_term q__law_pick q__law_right : FS} (T : Txt K mg) (h__law_draws : Has P w K mg base "_law_draws" k ["script"] q__law_draws) (h__law_makers : Has P w K mg base "_law_makers" k ["draws"] q__law_makers) (h__law_draw : Has P w K mg base "_law_draw" k ["draws", "limit"] q__law_draw) (h__law_trees : Has P w K mg base "_law_trees" k ["makers", "many"] q__law_trees) (h_trees : Has P w K mg base "trees" k ["makers", "many"] q_trees) (h_order : Has P w K mg base "order" k ["makers", "one", "other"] q_order) (h__law_term : Has P w K mg base "_law_term" k ["draws", "makers", "names", "deep"] q__law_term) (h__law_pick : Has P w K mg base "_law_pick" k ["draws", "row"] q__law_pick) (h__law_right : Has P w K mg base "_law_right" k ["makers", "one", "other"] q__law_right) (S : FS) (lp : S.io.length = 1)
    (rd : ∀ pvs : List PV, pvs.length = S.io.length → S.pre pvs → rd_law q__law_draws q__law_makers q__law_draw q__law_trees q_trees q_order q__law_term q__law_pick q__law_right (endsOf S pvs) (mk S.io pvs ++ uns 8)) : Has P w K mg base "law" (k + 1) ["script"] S := by
  obtain ⟨f, fd, F, m⟩ := T.d_law.ex
  refine ⟨f, fd, fn_p F sc_law lp (t := rd_law q__law_draws q__law_makers q__law_draw q__law_trees q_trees q_order q__law_term q__law_pick q__law_right) (fun cdv A outer s H E hr => ?_) rd, m, F.kp, F.binds (ps := ["script"]) fun _ _ _ _ _ _ us hl => match us, hl with | [_], _ => rfl, F.at⟩
  exact (qss_cons (qs_own 1 sc_law.nd (qe_callH h__law_draws hr (qa_cons (qv 0) qa_nil)))
  (qss_cons (qs_set 2 sc_law.nd (qe_callH h__law_makers hr (qa_cons (qv 1) qa_nil)))
  (qss_cons (qs_set 3 sc_law.nd (qe_callH h__law_draw hr (qa_cons (qv 1) (qa_cons qe_int qa_nil))))
  (qss_cons (qs_set 4 sc_law.nd (qe_callH h__law_trees hr (qa_cons (qv 2) (qa_cons (qv 3) qa_nil))))
  (qss_cons (qs_if (qc_cmp (op_neX (room191 hr)) (qe_callH h_trees hr (qa_cons (qv 2) (qa_cons (qv 3) qa_nil))) (qv 4)) (qss_one (qs_ret qe_bl)) qss_nil)
  (qss_cons (qs_for PassesOwn.never rfl (qi_range1 T.z_range (qa_cons (qe_op op_subP (qe_callB call_lenP T.z_len (qa_cons (qv 4) qa_nil)) qe_int) qa_nil)) (qg_name 5 sc_law.nd) (qss_one (qs_if (qw_or (qc_cmp (op_neP (room64 hr)) (qe_callH h_order hr (qa_cons (qv 2) (qa_cons (qe_ix ix_P (qv 4) (qv 5)) (qa_cons (qe_ix ix_P (qv 4) (qe_op op_addP (qv 5) qe_int)) qa_nil)))) (qe_neg qe_int)) (qw_or1 (qc_cmp (op_neP (room64 hr)) (qe_callH h_order hr (qa_cons (qv 2) (qa_cons (qe_ix ix_P (qv 4) (qe_op op_addP (qv 5) qe_int)) (qa_cons (qe_ix ix_P (qv 4) (qv 5)) qa_nil)))) qe_int))).qc (qss_one (qs_ret qe_bl)) qss_nil)))
  (qss_cons (qs_for PassesOwn.never rfl (qi_range1 T.z_range (qa_cons qe_int qa_nil)) (qg_name 6 sc_law.nd) (qss_cons (qs_set 7 sc_law.nd (qe_callH h__law_term hr (qa_cons (qv 1) (qa_cons (qv 2) (qa_cons (qe_lst (qa_cons (qe_tup (qa_cons qe_str qa_nil)) qa_nil)) (qa_cons (qe_callH h__law_draw hr (qa_cons (qv 1) (qa_cons qe_int qa_nil))) qa_nil))))))
  (qss_cons (qs_set 8 sc_law.nd (qe_callH h__law_pick hr (qa_cons (qv 1) (qa_cons (qe_op op_addP (qe_lst (qa_cons (qv 7) (qa_cons (qe_callH h__law_term hr (qa_cons (qv 1) (qa_cons (qv 2) (qa_cons (qe_lst (qa_cons (qe_tup (qa_cons qe_str qa_nil)) qa_nil)) (qa_cons (qe_callH h__law_draw hr (qa_cons (qv 1) (qa_cons qe_int qa_nil))) qa_nil))))) qa_nil))) (qv 4)) qa_nil))))
  (qss_one (qs_if (qw_or (qc_not (qc_tru (qe_callH h__law_right hr (qa_cons (qv 2) (qa_cons (qv 7) (qa_cons (qv 8) qa_nil)))))) (qw_or1 (qc_not (qc_tru (qe_callH h__law_right hr (qa_cons (qv 2) (qa_cons (qv 8) (qa_cons (qv 7) qa_nil)))))))).qc (qss_one (qs_ret qe_bl)) qss_nil)))))
  (qss_one (qs_ret qe_bl)))))))))

end Lw
set_option maxHeartbeats 4000000
namespace Lw
open PySem L2 PyProof.Rows Px
local macro_rules | `(tactic| walk_at "px") => `(tactic| simp -dsimp only [qVar, qK, qNil, qCons, qTup, qLst, vals, looks, R.look, R.wk, qCB, qB, qOp2, qTru, truG, qAnd, qOr, qNot, qAndV, qOrV, qNotV, qIfE, qNo, qPart, qSl, gSl, qIt, qRng1, qRng2, qgN, qgNil, qgCons, qgT, notIo_zero, notIo_succ, notIo_nil', slOk_un, slOk_val, slOk_own, slOk_pl, slOk_pd, notIos_nil, notIos_cons, qYes, qLc, qNext, qSeq, qBreak, qCont, qFrz, frz, qDrop, retG, qRet, qRetN, qIf, qSet, qOwn, qAsg, qFor, qMut, ownTy, gAppend, gExtend, gPop, isOwn, qSetIx, qCall, splitArgs, putOuts, setOwn, finOk, endsOf, mk, outsOf, uns,
  gAdd, gInt, gInt0, gEq, gNe, gIn, gNotIn, gIs, gIsNot, Px.isNon, gIx, getP, gLen, gAbs, gIntC, gSum, gMax, gMax2, gMinT, gAll, gAny, gList, gTuple, gIsi, qNeg, qDict0, wipeE, lcGo_nil, br_t, br_f, atI_0, atI_1, atI_2, atI_3, ixN_0, ixN_1, ixN_2, ixN_3, List.length_map, List.length_set, cut_from1, isTy, tyN, gIsiT, asTys, gListD, keyP, isDic, qGet1, qGet2, qLZ, gZip, qPairs, mergeP, qDisp, gDictC, gStr, qChain, qPar, qAug, qMeth, tyIs, gIndex, qLcK, qDc, qDcK, dicAt, qForK, qZipI, qCallB, qCallF, splitB, Option.isSome_some, Option.isSome_none, isEmp_concat, List.getLast?_concat, List.dropLast_concat, List.isEmpty_nil, gEqX, gNeX, List.any_cons, List.any_nil, tyOk_str, tyOk_tuple, tyOk_int, tyOk_bool, tyOk_list, tyOk_dict, Option.map_some, Option.map_none,
  eqOk_str, eqOk_int, eqOk_bl, eqOk_non, eqOkW_str, eqOkW_int, eqOkW_bl, eqOkW_non, gEqW, gNeW, qVals, ownDic, qLc2, gLtX, gGtX, gSortX, peq_str, peq_int, peq_bl, List.getElem?_cons_zero, List.getElem?_cons_succ, List.getElem?_nil, List.set_cons_zero, List.set_cons_succ, List.zipWith_cons_cons, List.zipWith_nil_left, List.replicate_succ, List.replicate_zero, List.cons_append, List.nil_append, List.length_cons, List.length_nil, List.map_cons, List.map_nil, ↓reduceIte, Bool.false_eq_true, and_true, true_and, Bool.not_true, Bool.not_false, Nat.reduceAdd, Nat.reduceLT, Nat.reduceLeDiff, Nat.zero_lt_succ, Nat.lt_add_one, ne_eq, not_true_eq_false, not_false_eq_true, String.reduceEq, String.reduceBEq, Bool.or_false, Bool.false_or, Bool.or_true, Bool.true_or, Bool.and_false, Bool.and_true, Bool.false_and, Bool.true_and, reduceCtorEq])
/-! ### draws -/
def DrOk (d : PV) : Prop := ∃ (ns : List Int) (pos cell seed : Int), d = .lst [.lst (ns.map PV.int), .int pos, .int cell, .int seed] ∧ 0 ≤ pos
def S_draws : FS := { io := [false], fr := true, pre := fun ps => ∃ ns : List Int, ps = [.scr ns], post := fun _ r _ => DrOk r }
def S_draw : FS := { io := [true, false], pre := fun ps => ∃ d n, ps = [d, .int n] ∧ DrOk d ∧ 0 < n ∧ n < 1000000, post := fun ps r outs => ∃ k d', r = .int k ∧ outs = [d'] ∧ DrOk d' ∧ 0 ≤ k ∧ ∀ d n, ps = [d, .int n] → k < n }
def S_pick : FS := { io := [true, false], pre := fun ps => ∃ d row, ps = [d, row] ∧ isRow row ∧ DrOk d ∧ items row ≠ [] ∧ (items row).length < 1000000, post := fun ps r outs => ∃ d', outs = [d'] ∧ DrOk d' ∧ ∀ d row, ps = [d, row] → r ∈ items row }
/-- makers -/
abbrev Ms := List (Str × Nat)
def encM (m : Str × Nat) : PV := .tup [.str m.1, .int (m.2 : Nat)]
def encMs (ms : Ms) : PV := .tup (ms.map encM)
def words5 : List Str := [Str.ofString "zero", Str.ofString "next", Str.ofString "pair", Str.ofString "top", Str.ofString "x"]
structure MsOk (ms : Ms) : Prop where
  len : ms.length ≤ 5
  two : ∀ m ∈ ms, m.2 ≤ 2
  zero : (Str.ofString "zero", 0) ∈ ms
  nd : (ms.map (·.1)).Nodup
  words : ∀ m ∈ ms, m.1 ∈ words5
def S_makers : FS := { io := [true], pre := fun ps => ∃ d, ps = [d] ∧ DrOk d, post := fun _ r outs => ∃ ms d', r = encMs ms ∧ MsOk ms ∧ outs = [d'] ∧ DrOk d' }
/-- terms over makers and what stands for names -/
inductive TermOf (ms : Ms) (names : List PV) : Nat → PV → Prop where
  | name {n : Nat} {q : PV} (h : q ∈ names) : TermOf ms names n q
  | leaf {n : Nat} {w : Str} (h : (w, 0) ∈ ms) : TermOf ms names n (.tup [.str w])
  | node {n : Nat} {w : Str} {k : Nat} {ps : List PV} (h : (w, k) ∈ ms) (l : ps.length = k) (t : ∀ p ∈ ps, TermOf ms names n p) : TermOf ms names (n + 1) (.tup (.str w :: ps))
def S_term (m : Nat) : FS := { io := [true, false, false, false], pre := fun ps => ∃ d ms names deep, ps = [d, encMs ms, .lst names, .int deep] ∧ DrOk d ∧ MsOk ms ∧ names ≠ [] ∧ names.length < 1000 ∧ 0 ≤ deep ∧ deep < (m : Int), post := fun ps r outs => ∃ d', outs = [d'] ∧ DrOk d' ∧ ∀ d ms names deep, ps = [d, encMs ms, .lst names, .int deep] → TermOf ms names deep.toNat r }
theorem encM_inj {a b : Str × Nat} (h : encM a = encM b) : a = b := by
  unfold encM at h
  injection h with h
  injection h with h1 h
  injection h with h2 h
  injection h1 with h1
  injection h2 with h2
  exact Prod.ext h1 (by omega)
theorem encMs_inj {a b : Ms} (h : encMs a = encMs b) : a = b := by
  unfold encMs at h
  injection h with h
  have := congrArg List.length h
  induction a generalizing b with
  | nil => cases b with
    | nil => rfl
    | cons _ _ => simp at h
  | cons x a ih => cases b with
    | nil => simp at h
    | cons y b =>
      simp only [List.map_cons, List.cons.injEq] at h
      rw [encM_inj h.1, ih h.2 (by simpa using this)]
/-! ### how they are called -/
theorem draw_i {ρ : En} {j : Nat} {b : Bool} {d : PV} {n : Int} {Q : PK1} {dm : Dum Q} (h : ρ[j]? = some (Sl.own b d)) (hd : DrOk d) (h0 : 0 < n) (h1 : n < 1000000) (k : ∀ m d', DrOk d' → 0 ≤ m → m < n → Q (.pv (.int m)) (setOwn ρ j d')) : callR S_draw [.sl j, .pv (.int n)] ρ Q dm := by
  refine call_1 (j := j) (ps := [d, .int n]) (by simp [S_draw, splitArgs, h]) rfl ⟨d, n, rfl, hd, h0, h1⟩ fun r d' hp => ?_
  obtain ⟨m, d2, rfl, e, hd', m0, m1⟩ := hp
  cases e
  exact k m d' hd' m0 (m1 _ _ rfl)
theorem pick_i {ρ : En} {j : Nat} {b : Bool} {d row : PV} {Q : PK1} {dm : Dum Q} (h : ρ[j]? = some (Sl.own b d)) (hd : DrOk d) (hr : isRow row) (hn : items row ≠ []) (hl : (items row).length < 1000000) (k : ∀ r d', DrOk d' → r ∈ items row → Q (.pv r) (setOwn ρ j d')) : callR S_pick [.sl j, .pv row] ρ Q dm := by
  refine call_1 (j := j) (ps := [d, row]) (by simp [S_pick, splitArgs, h]) rfl ⟨d, row, rfl, hr, hd, hn, hl⟩ fun r d' hp => ?_
  obtain ⟨d2, e, hd', hm⟩ := hp
  cases e
  exact k r d' hd' (hm _ _ rfl)
theorem makers_i {ρ : En} {j : Nat} {b : Bool} {d : PV} {Q : PK1} {dm : Dum Q} (h : ρ[j]? = some (Sl.own b d)) (hd : DrOk d) (k : ∀ ms d', DrOk d' → MsOk ms → Q (.pv (encMs ms)) (setOwn ρ j d')) : callR S_makers [.sl j] ρ Q dm := by
  refine call_1 (j := j) (ps := [d]) (by simp [S_makers, splitArgs, h]) rfl ⟨d, rfl, hd⟩ fun r d' hp => ?_
  obtain ⟨ms, d2, rfl, hm, e, hd'⟩ := hp
  cases e
  exact k ms d' hd' hm
theorem draws_i {ρ : En} {ns : List Int} {Q : PK1} {dm : Dum Q} (k : ∀ d, DrOk d → Q (.fr d) ρ) : callR S_draws [.pv (.scr ns)] ρ Q dm := by
  refine call_i (ps := [.scr ns]) (js := []) rfl List.nodup_nil ⟨ns, rfl⟩ fun r outs hp l => ?_
  have e : outs = [] := List.length_eq_zero_iff.mp l
  subst e
  exact k r hp
theorem term_i {ρ : En} {j n : Nat} {b : Bool} {d : PV} {ms : Ms} {names : List PV} {deep : Int} {Q : PK1} {dm : Dum Q} (h : ρ[j]? = some (Sl.own b d)) (hd : DrOk d) (hm : MsOk ms) (hn : names ≠ []) (hl : names.length < 1000) (h0 : 0 ≤ deep) (h1 : deep < (n : Int))
    (k : ∀ r d', DrOk d' → TermOf ms names deep.toNat r → Q (.pv r) (setOwn ρ j d')) : callR (S_term n) [.sl j, .pv (encMs ms), .pv (.lst names), .pv (.int deep)] ρ Q dm := by
  refine call_1 (j := j) (ps := [d, encMs ms, .lst names, .int deep]) (by simp [S_term, splitArgs, h]) rfl ⟨d, ms, names, deep, rfl, hd, hm, hn, hl, h0, h1⟩ fun r d' hp => ?_
  obtain ⟨d2, e, hd', ht⟩ := hp
  cases e
  exact k r d' hd' (ht _ _ _ _ rfl)
section
variable {P : Program} {w : World} {K : PySem.W.Frag} {mg : Str → Option Value} {base : Heap}
theorem ok_draws (T : Txt K mg) : Has P w K mg base "_law_draws" 1 ["script"] S_draws := by
  refine dv__law_draws T S_draws rfl fun pvs lp pre => ?_
  obtain ⟨ns, rfl⟩ := pre
  unfold rd__law_draws S_draws
  walk_at "px"
  exact ⟨small_of (by decide), ns, 0, 0, 1, rfl, Int.le_refl _⟩
theorem drDone {d0 : PV} {ns : List Int} {pos cell seed n c : Int} (hp : 0 ≤ pos) (h0 : 0 < n) : ∃ k d', PV.int (c % n) = PV.int k ∧ [PV.lst [PV.lst (List.map PV.int ns), PV.int pos, PV.int cell, PV.int seed]] = [d'] ∧ DrOk d' ∧ 0 ≤ k ∧ ∀ (d : PV) (m : Int), [d0, PV.int n] = [d, PV.int m] → k < m :=
  ⟨c % n, _, rfl, rfl, ⟨ns, pos, cell, seed, rfl, hp⟩, Int.emod_nonneg _ (by omega), fun d m e => by
    have e2 : n = m := by injection e with _ e; injection e with e _; injection e
    subst e2
    exact Int.emod_lt_of_pos _ h0⟩
theorem ok_draw (T : Txt K mg) : Has P w K mg base "_law_draw" 1 ["draws", "limit"] S_draw := by
  refine dv__law_draw T S_draw rfl fun pvs lp pre => ?_
  obtain ⟨d, n, rfl, ⟨ns, pos, cell, seed, rfl, hp⟩, h0, h1⟩ := pre
  unfold rd__law_draw S_draw
  have hd : ∀ c : Int, CDiv c n := fun c => ⟨h0, by omega⟩
  have h11 : ∀ c : Int, CDiv c 11 := fun c => ⟨by decide, by decide⟩
  have hm : ∀ c : Int, CMul c 69621 := fun c => cmul_r ⟨by decide, by decide⟩
  have hm2 : ∀ c : Int, CMul c 48271 := fun c => cmul_r ⟨by decide, by decide⟩
  have hw : CPow 10 18 := ⟨by decide, by decide, by decide⟩
  have h21 : (0 : Int) < 2147483647 := by decide
  have h22 : (0 : Int) < 2147483629 := by decide
  have hp1 : 0 ≤ pos + 1 := by omega
  walk_at "px"
  constructor
  · intro hc
    constructor
    · intro hl
      have hl' : pos < (ns.length : Int) := of_decide_eq_true hl
      obtain ⟨x, hx⟩ := atI_int hp hl'
      rw [hx]
      walk_at "px"
      refine ⟨hw, fun _ => ⟨hm2 _, h21, fun _ => ⟨h0, hd _, drDone hp1 h0⟩, fun _ => ⟨hm _, h22, h11 _, h0, drDone hp1 h0⟩⟩, fun _ => ⟨hm2 _, h21, fun _ => ⟨h0, hd _, drDone hp1 h0⟩, fun _ => ⟨hm _, h22, h11 _, h0, drDone hp1 h0⟩⟩⟩
    · intro hl
      exact ⟨fun _ => ⟨h0, hd _, drDone hp h0⟩, fun _ => ⟨hm _, h22, h11 _, h0, drDone hp h0⟩⟩
  · intro hc
    exact ⟨fun _ => ⟨h0, hd _, drDone hp h0⟩, fun _ => ⟨hm _, h22, h11 _, h0, drDone hp h0⟩⟩
theorem ok_pick (T : Txt K mg) : Has P w K mg base "_law_pick" 2 ["draws", "row"] S_pick := by
  refine dv__law_pick T (ok_draw T) S_pick rfl fun pvs lp pre => ?_
  obtain ⟨d, row, rfl, hr, hd, hne, hl⟩ := pre
  unfold rd__law_pick S_pick
  have h0 : 0 < (items row).length := List.length_pos_iff.mpr hne
  cases row with
  | lst qs =>
    have h0' : 0 < qs.length := h0
    have hl' : qs.length < 1000000 := hl
    walk_at "px"
    refine draw_i rfl hd (by omega) (by omega) fun k d' hd' k0 k1 => ?_
    walk_at "px"
    obtain ⟨x, e, m⟩ := atI_in k0 k1
    rw [e]
    exact ⟨d', rfl, hd', fun d2 row2 e2 => by injection e2 with _ e2; injection e2 with e2 _; subst e2; exact m⟩
  | tup qs =>
    have h0' : 0 < qs.length := h0
    have hl' : qs.length < 1000000 := hl
    walk_at "px"
    refine draw_i rfl hd (by omega) (by omega) fun k d' hd' k0 k1 => ?_
    walk_at "px"
    obtain ⟨x, e, m⟩ := atI_in k0 k1
    rw [e]
    exact ⟨d', rfl, hd', fun d2 row2 e2 => by injection e2 with _ e2; injection e2 with e2 _; subst e2; exact m⟩
  | _ => exact hr.elim
/-- ahead of the words that are left -/
structure RowsOk (ws : List Str) (ms : Ms) : Prop where
  len : ms.length + ws.length ≤ 5
  two : ∀ m ∈ ms, m.2 ≤ 2
  zero : (Str.ofString "zero", 0) ∈ ms
  nd : (ms.map (·.1) ++ ws).Nodup
  words : (∀ m ∈ ms, m.1 ∈ words5) ∧ ∀ w ∈ ws, w ∈ words5
theorem RowsOk.skip {w : Str} {ws : List Str} {ms : Ms} (h : RowsOk (w :: ws) ms) : RowsOk ws ms := by
  refine ⟨by have := h.len; simp only [List.length_cons] at this; omega, h.two, h.zero, ?_, h.words.1, fun x hx => h.words.2 x (List.mem_cons_of_mem _ hx)⟩
  exact h.nd.sublist (List.Sublist.append_left (List.sublist_cons_self w ws) _)
theorem RowsOk.add {w : Str} {ws : List Str} {ms : Ms} {k : Nat} (h : RowsOk (w :: ws) ms) (hk : k ≤ 2) : RowsOk ws (ms ++ [(w, k)]) := by
  refine ⟨by have := h.len; simp only [List.length_cons, List.length_append, List.length_nil] at this ⊢; omega, fun m hm => ?_, List.mem_append_left _ h.zero, ?_, fun m hm => ?_, fun x hx => h.words.2 x (List.mem_cons_of_mem _ hx)⟩
  · rcases List.mem_append.mp hm with hm | hm
    · exact h.two m hm
    · have : m = (w, k) := by simpa using hm
      rw [this]; exact hk
  · have e : (ms ++ [(w, k)]).map (·.1) ++ ws = ms.map (·.1) ++ w :: ws := by simp
    rw [e]; exact h.nd
  · rcases List.mem_append.mp hm with hm | hm
    · exact h.words.1 m hm
    · have : m = (w, k) := by simpa using hm
      rw [this]; exact h.words.2 w List.mem_cons_self
theorem cut_map {α β : Type} (f : α → β) (xs : List α) (lo hi : Option Int) : cutP (xs.map f) lo hi = (cutP xs lo hi).map f := by
  unfold cutP
  rw [List.length_map, List.map_take, List.map_drop]
theorem cut_hi {α : Type} (xs : List α) (k : Nat) (h : k ≤ xs.length) : cutP xs (some (k : Int)) none = xs.drop k := by
  unfold cutP
  have e1 : HT.sIx xs.length 0 (some (k : Int)) = k := by rw [HT.sIx_nat]; omega
  have e2 : HT.sIx xs.length xs.length none = xs.length := rfl
  rw [e1, e2, List.take_of_length_le (by simp)]
theorem cut_lo {α : Type} (xs : List α) (k : Nat) (h : k ≤ xs.length) : cutP xs none (some (k : Int)) = xs.take k := by
  unfold cutP
  have e1 : HT.sIx xs.length xs.length (some (k : Int)) = k := by rw [HT.sIx_nat]; omega
  have e2 : HT.sIx xs.length 0 none = 0 := rfl
  rw [e1, e2]
  simp
theorem MsOk.turn {ms : Ms} (h : RowsOk [] ms) (k : Nat) : MsOk (ms.drop k ++ ms.take k) := by
  have p : (ms.drop k ++ ms.take k).Perm ms := by
    have := (List.perm_append_comm (l₁ := ms.drop k) (l₂ := ms.take k))
    rw [List.take_append_drop] at this
    exact this
  refine ⟨by rw [p.length_eq]; have := h.len; simpa using this, fun m hm => h.two m (p.mem_iff.mp hm), p.mem_iff.mpr h.zero, ?_, fun m hm => h.words.1 m (p.mem_iff.mp hm)⟩
  have n := h.nd
  rw [List.append_nil] at n
  exact ((p.map (·.1)).nodup_iff).mpr n
theorem makersEnd {ms : Ms} {d' : PV} {k : Int} (hr : RowsOk [] ms) (hd' : DrOk d') (k0 : 0 ≤ k) (k2 : k < (ms.length : Int)) : small ((cutP (ms.map encM) (some k) none).length + (cutP (ms.map encM) none (some k)).length) ∧ ∃ ms_1 d'_1, PV.tup (cutP (ms.map encM) (some k) none ++ cutP (ms.map encM) none (some k)) = encMs ms_1 ∧ MsOk ms_1 ∧ [d'] = [d'_1] ∧ DrOk d'_1 := by
  obtain ⟨j, rfl⟩ : ∃ j : Nat, k = (j : Int) := ⟨k.toNat, by omega⟩
  rw [cut_map, cut_map, cut_hi _ _ (by omega), cut_lo _ _ (by omega)]
  refine ⟨small_of ?_, ms.drop j ++ ms.take j, d', by unfold encMs; rw [List.map_append], MsOk.turn hr j, rfl, hd'⟩
  have := hr.len
  simp only [List.length_map, List.length_drop, List.length_take]
  simp only [List.length_nil] at this
  omega
theorem ok_makers (T : Txt K mg) : Has P w K mg base "_law_makers" 2 ["draws"] S_makers := by
  refine dv__law_makers T (ok_draw T) S_makers rfl fun pvs lp pre => ?_
  obtain ⟨d, rfl, hd⟩ := pre
  unfold rd__law_makers S_makers
  walk_at "px"
  refine ⟨small_of (by decide), small_of (by decide), small_of (by decide), ?_⟩
  refine for_ind (fun ps ρ => ∃ (ws : List Str) (ms : Ms) (d : PV) (s2 : Sl), ps = ws.map PV.str ∧ ρ = [.own true d, .own false (.lst (ms.map encM)), s2, .un] ∧ Pl s2 ∧ DrOk d ∧ RowsOk ws ms) ?_ ?_ _ _ ⟨[Str.ofString "next", Str.ofString "pair", Str.ofString "top", Str.ofString "x"], [(Str.ofString "zero", 0)], d, .un, rfl, rfl, pl_un, hd, ?_⟩
  · rintro ρ ⟨ws, ms, d, s2, e, rfl, ps2, hd, hr⟩
    have ew : ws = [] := by cases ws with
      | nil => rfl
      | cons _ _ => simp at e
    subst ew
    walk_at "px"
    have hl0 : 0 < ms.length := List.length_pos_of_mem hr.zero
    have hl5 := hr.len
    refine draw_i rfl hd (by omega) (by omega) fun k d' hd' k0 k2 => ?_
    · rcases ps2 with rfl | ⟨p2, rfl⟩
      all_goals
       walk_at "px"
       exact makersEnd hr hd' k0 k2
  · rintro p ps ρ ⟨ws, ms, d, s2, e, rfl, ps2, hd, hr⟩ N ih
    cases ws with
    | nil => simp at e
    | cons w ws =>
      simp only [List.map_cons, List.cons.injEq] at e
      obtain ⟨rfl, rfl⟩ := e
      have goal : ∀ s2, Pl s2 → qgN 2 (.str w) [.own true d, .own false (.lst (ms.map encM)), s2, .un] = qgN 2 (.str w) [.own true d, .own false (.lst (ms.map encM)), s2, .un] := fun _ _ => rfl
      rcases ps2 with rfl | ⟨p2, rfl⟩
      all_goals
        walk_at "px"
        refine draw_i rfl hd (by decide) (by decide) fun k d' hd' k0 k1 => ?_
        walk_at "px"
        refine ⟨fun hk => draw_i rfl hd' (by decide) (by decide) fun k' d'' hd'' k0' k2 => ?_, fun hk => ih _ ⟨ws, ms, d', .val (.str w), rfl, rfl, pl_val, hd', hr.skip⟩⟩
        walk_at "px"
        obtain ⟨j, rfl⟩ : ∃ j : Nat, k' = (j : Int) := ⟨k'.toNat, by omega⟩
        refine ⟨small_of (by decide), small_of ?_, ih _ ⟨ws, ms ++ [(w, j)], d'', .val (.str w), rfl, ?_, pl_val, hd'', hr.add (by omega)⟩⟩
        · have := hr.len
          omega
        · rw [List.map_append]; rfl
  · exact ⟨by decide, fun m hm => by have : m = (Str.ofString "zero", 0) := by simpa using hm
                                     rw [this]; decide, by simp, by decide +kernel, by decide +kernel, by decide +kernel⟩
end

end Lw
set_option maxHeartbeats 4000000
namespace Lw
open PySem L2 PyProof.Rows Px
theorem S_term_fr (n : Nat) : (S_term n).fr = false := rfl
theorem S_term_io (n : Nat) : (S_term n).io = [true, false, false, false] := rfl
local macro_rules | `(tactic| walk_at "px") => `(tactic| simp -dsimp only [qVar, qK, qNil, qCons, qTup, qLst, vals, looks, R.look, R.wk, qCB, qB, qOp2, qTru, truG, qAnd, qOr, qNot, qAndV, qOrV, qNotV, qIfE, qNo, qPart, qSl, gSl, qIt, qRng1, qRng2, qgN, qgNil, qgCons, qgT, notIo_zero, notIo_succ, notIo_nil', slOk_un, slOk_val, slOk_own, slOk_pl, slOk_pd, notIos_nil, notIos_cons, qYes, qLc, qNext, qSeq, qBreak, qCont, qFrz, frz, qDrop, retG, qRet, qRetN, qIf, qSet, qOwn, qAsg, qFor, qMut, ownTy, gAppend, gExtend, gPop, isOwn, qSetIx, qCall, splitArgs, putOuts, setOwn, finOk, endsOf, mk, outsOf, uns,
  gAdd, gInt, gInt0, gEq, gNe, gIn, gNotIn, gIs, gIsNot, Px.isNon, gIx, getP, gLen, gAbs, gIntC, gSum, gMax, gMax2, gMinT, gAll, gAny, gList, gTuple, gIsi, qNeg, qDict0, wipeE, lcGo_nil, br_t, br_f, atI_0, atI_1, atI_2, atI_3, ixN_0, ixN_1, ixN_2, ixN_3, List.length_map, List.length_set, cut_from1, isTy, tyN, gIsiT, asTys, gListD, keyP, isDic, qGet1, qGet2, qLZ, gZip, qPairs, mergeP, qDisp, gDictC, gStr, qChain, qPar, qAug, qMeth, tyIs, gIndex, qLcK, qDc, qDcK, dicAt, qForK, qZipI, qCallB, qCallF, splitB, Option.isSome_some, Option.isSome_none, isEmp_concat, List.getLast?_concat, List.dropLast_concat, List.isEmpty_nil, gEqX, gNeX, List.any_cons, List.any_nil, tyOk_str, tyOk_tuple, tyOk_int, tyOk_bool, tyOk_list, tyOk_dict, Option.map_some, Option.map_none,
  eqOk_str, eqOk_int, eqOk_bl, eqOk_non, eqOkW_str, eqOkW_int, eqOkW_bl, eqOkW_non, gEqW, gNeW, qVals, ownDic, qLc2, gLtX, gGtX, gSortX, peq_str, peq_int, peq_bl, List.getElem?_cons_zero, List.getElem?_cons_succ, List.getElem?_nil, List.set_cons_zero, List.set_cons_succ, List.zipWith_cons_cons, List.zipWith_nil_left, List.replicate_succ, List.replicate_zero, List.cons_append, List.nil_append, List.length_cons, List.length_nil, List.map_cons, List.map_nil, ↓reduceIte, Bool.false_eq_true, and_true, true_and, Bool.not_true, Bool.not_false, Nat.reduceAdd, Nat.reduceLT, Nat.reduceLeDiff, Nat.zero_lt_succ, Nat.lt_add_one, ne_eq, not_true_eq_false, not_false_eq_true, String.reduceEq, String.reduceBEq, Bool.or_false, Bool.false_or, Bool.or_true, Bool.true_or, Bool.and_false, Bool.and_true, Bool.false_and, Bool.true_and, reduceCtorEq, S_term_fr, S_term_io])
/-- the makers without parts -/
def leaves (ms : Ms) : List PV := (ms.filter fun m => m.2 == 0).map fun m => PV.tup [.str m.1]
theorem leaves_mem {ms : Ms} {p : PV} (h : p ∈ leaves ms) : ∃ v, (v, 0) ∈ ms ∧ p = .tup [.str v] := by
  unfold leaves at h
  obtain ⟨m, hm, rfl⟩ := List.mem_map.mp h
  obtain ⟨h1, h2⟩ := List.mem_filter.mp hm
  have : m.2 = 0 := by simpa using h2
  exact ⟨m.1, by rw [← this]; exact h1, rfl⟩
theorem leaves_ne {ms : Ms} (h : MsOk ms) : leaves ms ≠ [] := by
  have : PV.tup [.str (Str.ofString "zero")] ∈ leaves ms := List.mem_map.mpr ⟨_, List.mem_filter.mpr ⟨h.zero, rfl⟩, rfl⟩
  intro e
  rw [e] at this
  cases this
theorem leaves_len (ms : Ms) : (leaves ms).length ≤ ms.length := by
  unfold leaves
  rw [List.length_map]
  exact List.length_filter_le _ _
section
variable {P : Program} {w : World} {K : PySem.W.Frag} {mg : Str → Option Value} {base : Heap}
theorem ok_term (T : Txt K mg) : ∀ n : Nat, Has P w K mg base "_law_term" (n + 2) ["draws", "makers", "names", "deep"] (S_term n)
  | 0 => by
    refine (Px.has_none T.d__law_term (fun F => F.binds (ps := ["draws", "makers", "names", "deep"]) fun _ _ _ _ _ _ us hl => match us, hl with | [_, _, _, _], _ => rfl) fun pvs h => ?_).mono (by omega)
    obtain ⟨_, _, _, _, _, _, _, _, _, h1, h2⟩ := h
    omega
  | n + 1 => by
    refine dv__law_term T ((ok_draw T).mono (by omega)) ((ok_pick T).mono (by omega)) (ok_term T n) (S_term (n + 1)) rfl fun pvs lp pre => ?_
    obtain ⟨d, ms, names, deep, rfl, hd, hms, hne, hnl, h0, h1⟩ := pre
    have hl5 := hms.len
    -- what is told of the answer
    have told : ∀ {p d' : PV}, DrOk d' → TermOf ms names deep.toNat p → (S_term (n + 1)).post [d, encMs ms, .lst names, .int deep] p [d'] := fun {p d'} hd' ht => ⟨d', rfl, hd', fun d2 ms2 names2 deep2 e => by
      injection e with _ e; injection e with e1 e; injection e with e2 e; injection e with e3 _
      injection e2 with e2; injection e3 with e3
      rw [← encMs_inj e1, ← e2, ← e3]; exact ht⟩
    unfold rd__law_term
    have ends : ∀ D : PEnds, D = endsOf (S_term (n + 1)) [d, encMs ms, .lst names, .int deep] → ∀ d', DrOk d' → qSeq (qIf (qB (qOp2 gEq (qCall S_draw (qCons (qVar 0) (qCons (qK (.int 4)) qNil))) (qK (.int 0)))) (qRet (qCall S_pick (qCons (qVar 0) (qCons (qLc (qIt (qVar 1)) (qgT 2 (qgCons (qgN 4) (qgCons (qgN 5) qgNil))) (qB (qOp2 gEq (qVar 5) (qK (.int 0)))) (qTup (qCons (qVar 4) qNil)) [4, 5]) qNil)))) qNext) (qRet (qCall S_pick (qCons (qVar 0) (qCons (qVar 2) qNil)))) D [.own true d', .val (encMs ms), .val (.lst names), .val (.int deep), .un, .un, .un] := by
      intro D hD d' hd'
      subst hD
      walk_at "px"
      refine draw_i rfl hd' (by decide) (by decide) fun k d2 hd2 k0 k1 => ?_
      walk_at "px"
      refine ⟨fun _ => ?_, fun _ => ?_⟩
      · unfold encMs
        walk_at "px"
        refine lcR_i (lc_ind (fun ps acc ρ => ∃ ms1 ms2 : Ms, ms = ms1 ++ ms2 ∧ ps = ms2.map encM ∧ acc = leaves ms1 ∧ ρ = [.own true d2, .val (.tup (ms.map encM)), .val (.lst names), .val (.int deep), .un, .un, .un]) ?_ ?_ _ _ _ ⟨[], ms, rfl, rfl, rfl, rfl⟩)
        · rintro acc ρ ⟨ms1, ms2, e, e2, rfl, rfl⟩
          have e3 : ms2 = [] := by cases ms2 with
            | nil => rfl
            | cons _ _ => simp at e2
          subst e3
          rw [List.append_nil] at e
          subst e
          walk_at "px"
          have hll := leaves_len ms
          refine pick_i rfl hd2 trivial (leaves_ne hms) (by show (leaves ms).length < _; omega) fun r d3 hd3 hr => ?_
          walk_at "px"
          obtain ⟨v, hv, rfl⟩ := leaves_mem hr
          exact told hd3 (.leaf hv)
        · rintro p ps acc ρ ⟨ms1, ms2, e, e2, rfl, rfl⟩ N ih
          cases ms2 with
          | nil => simp at e2
          | cons m ms2 =>
            simp only [List.map_cons, List.cons.injEq] at e2
            obtain ⟨rfl, rfl⟩ := e2
            unfold encM
            walk_at "px"
            have hs : (leaves ms1).length ≤ ms1.length := leaves_len ms1
            have hl : ms1.length ≤ ms.length := by rw [e]; simp
            refine ⟨fun hz => ⟨small_of (by decide), small_of (by omega), ih _ _ ⟨ms1 ++ [m], ms2, by rw [e]; simp, rfl, ?_, rfl⟩⟩, fun hz => ih _ _ ⟨ms1 ++ [m], ms2, by rw [e]; simp, rfl, ?_, rfl⟩⟩
            · have hm : (m.2 == 0) = true := by simpa using hz
              unfold leaves
              rw [List.filter_append, List.map_append, List.filter_cons, hm]; rfl
            · have hm : (m.2 == 0) = false := by simpa using hz
              unfold leaves
              rw [List.filter_append, List.map_append, List.filter_cons, hm]; simp
      · refine pick_i rfl hd2 trivial hne (by show names.length < _; omega) fun r d3 hd3 hr => ?_
        walk_at "px"
        exact told hd3 (.name hr)
    walk_at "px"
    refine ⟨fun _ => ends _ rfl d hd, fun hz => draw_i rfl hd (by decide) (by decide) fun k d2 hd2 k0 k1 => ?_⟩
    have hz' : deep ≠ 0 := by simpa using hz
    walk_at "px"
    refine ⟨fun _ => ends _ rfl d2 hd2, fun _ => ?_⟩
    have hms0 : ms ≠ [] := fun e => by have := hms.zero; rw [e] at this; cases this
    refine pick_i rfl hd2 trivial (by show ms.map encM ≠ []; simpa using hms0) (by show (ms.map encM).length < _; rw [List.length_map]; omega) fun r d3 hd3 hr => ?_
    obtain ⟨m, hm, rfl⟩ := List.mem_map.mp hr
    have hm2 := hms.two m hm
    unfold encM
    walk_at "px"
    refine ⟨small_of (by decide), ⟨by omega, by omega⟩, ?_⟩
    rw [Int.toNat_natCast]
    refine lcR_i (lc_ind (fun ps acc ρ => ∃ (d : PV) (s6 : Sl), ρ = [.own true d, .val (encMs ms), .val (.lst names), .val (.int deep), .val (.str m.1), .val (.int (m.2 : Nat)), .un] ∧ DrOk d ∧ acc.length + ps.length = m.2 ∧ (∀ p ∈ ps, ∃ i : Int, p = .int i) ∧ ∀ p ∈ acc, TermOf ms names (deep - 1).toNat p) ?_ ?_ _ _ _ ⟨d3, .un, rfl, hd3, by simp [rng], fun p hp => ?_, fun p hp => by cases hp⟩)
    · rintro acc ρ ⟨d4, s6, rfl, hd4, hl, _, ht⟩
      walk_at "px"
      simp only [List.length_nil, Nat.add_zero] at hl
      refine ⟨small_of (by omega), told hd4 ?_⟩
      have e : deep.toNat = (deep - 1).toNat + 1 := by omega
      rw [e]
      exact .node (by rw [hl]; exact hm) rfl ht
    · rintro p ps acc ρ ⟨d4, s6, rfl, hd4, hl, hps, ht⟩ N ih
      obtain ⟨i, rfl⟩ := hps p List.mem_cons_self
      simp only [List.length_cons] at hl
      walk_at "px"
      refine term_i rfl hd4 hms hne hnl (by omega) (by omega) fun r d5 hd5 htr => ?_
      walk_at "px"
      refine ⟨small_of (by omega), ih _ _ ⟨d5, .un, rfl, hd5, by simp only [List.length_append, List.length_cons, List.length_nil]; omega, fun p hp => hps p (List.mem_cons_of_mem _ hp), fun p hp => ?_⟩⟩
      rcases List.mem_append.mp hp with hp | hp
      · exact ht p hp
      · have : p = r := by simpa using hp
        rw [this]; exact htr
    · obtain ⟨i, _, rfl⟩ := List.mem_map.mp hp
      exact ⟨_, rfl⟩
end

end Lw
set_option maxHeartbeats 4000000
namespace Lw
open PySem L2 PyProof.Rows Px
local macro_rules | `(tactic| walk_at "px") => `(tactic| simp -dsimp only [qVar, qK, qNil, qCons, qTup, qLst, vals, looks, R.look, R.wk, qCB, qB, qOp2, qTru, truG, qAnd, qOr, qNot, qAndV, qOrV, qNotV, qIfE, qNo, qPart, qSl, gSl, qIt, qRng1, qRng2, qgN, qgNil, qgCons, qgT, notIo_zero, notIo_succ, notIo_nil', slOk_un, slOk_val, slOk_own, slOk_pl, slOk_pd, notIos_nil, notIos_cons, qYes, qLc, qNext, qSeq, qBreak, qCont, qFrz, frz, qDrop, retG, qRet, qRetN, qIf, qSet, qOwn, qAsg, qFor, qMut, ownTy, gAppend, gExtend, gPop, isOwn, qSetIx, qCall, splitArgs, putOuts, setOwn, finOk, endsOf, mk, outsOf, uns,
  gAdd, gInt, gInt0, gEq, gNe, gIn, gNotIn, gIs, gIsNot, Px.isNon, gIx, getP, gLen, gAbs, gIntC, gSum, gMax, gMax2, gMinT, gAll, gAny, gList, gTuple, gIsi, qNeg, qDict0, wipeE, lcGo_nil, br_t, br_f, atI_0, atI_1, atI_2, atI_3, ixN_0, ixN_1, ixN_2, ixN_3, List.length_map, List.length_set, cut_from1, isTy, tyN, gIsiT, asTys, gListD, keyP, isDic, qGet1, qGet2, qLZ, gZip, qPairs, mergeP, qDisp, gDictC, gStr, qChain, qPar, qAug, qMeth, tyIs, gIndex, qLcK, qDc, qDcK, dicAt, qForK, qZipI, qCallB, qCallF, splitB, Option.isSome_some, Option.isSome_none, isEmp_concat, List.getLast?_concat, List.dropLast_concat, List.isEmpty_nil, gEqX, gNeX, List.any_cons, List.any_nil, tyOk_str, tyOk_tuple, tyOk_int, tyOk_bool, tyOk_list, tyOk_dict, Option.map_some, Option.map_none,
  eqOk_str, eqOk_int, eqOk_bl, eqOk_non, eqOkW_str, eqOkW_int, eqOkW_bl, eqOkW_non, gEqW, gNeW, qVals, ownDic, qLc2, gLtX, gGtX, gSortX, peq_str, peq_int, peq_bl, List.getElem?_cons_zero, List.getElem?_cons_succ, List.getElem?_nil, List.set_cons_zero, List.set_cons_succ, List.zipWith_cons_cons, List.zipWith_nil_left, List.replicate_succ, List.replicate_zero, List.cons_append, List.nil_append, List.length_cons, List.length_nil, List.map_cons, List.map_nil, ↓reduceIte, Bool.false_eq_true, and_true, true_and, Bool.not_true, Bool.not_false, Nat.reduceAdd, Nat.reduceLT, Nat.reduceLeDiff, Nat.zero_lt_succ, Nat.lt_add_one, ne_eq, not_true_eq_false, not_false_eq_true, String.reduceEq, String.reduceBEq, Bool.or_false, Bool.false_or, Bool.or_true, Bool.true_or, Bool.and_false, Bool.and_true, Bool.false_and, Bool.true_and, reduceCtorEq])
mutual
/-- data that isinstance may be asked of -/
def good : PV → Bool
  | .tup ps => goods ps
  | .lst ps => goods ps
  | .scr _ => false
  | .ty _ => false
  | .non => true
  | .bl _ => true
  | .int _ => true
  | .str _ => true
  | .dic _ _ => true
def goods : List PV → Bool
  | [] => true
  | p :: ps => good p && goods ps
end
mutual
/-- how many places data has -/
def psz : PV → Nat
  | .tup ps => pszs ps + 1
  | .lst ps => pszs ps + 1
  | .scr _ => 1
  | .ty _ => 1
  | .non => 1
  | .bl _ => 1
  | .int _ => 1
  | .str _ => 1
  | .dic _ _ => 1
def pszs : List PV → Nat
  | [] => 0
  | p :: ps => psz p + pszs ps
end
theorem psz_pos (p : PV) : 0 < psz p := by cases p <;> simp [psz]
theorem pszs_append : ∀ ps qs : List PV, pszs (ps ++ qs) = pszs ps + pszs qs
  | [], qs => by simp [pszs]
  | p :: ps, qs => by simp [pszs, pszs_append ps qs]; omega
theorem goods_append : ∀ ps qs : List PV, goods (ps ++ qs) = (goods ps && goods qs)
  | [], qs => by simp [goods]
  | p :: ps, qs => by simp [goods, goods_append ps qs, Bool.and_assoc]
theorem good_ty {p : PV} (h : good p = true) : tyN p ≠ "" := by cases p <;> first | (simp [good] at h; done) | simp [tyN]
mutual
/-- the shape of a term -/
def tsh : PV → Bool
  | .str _ => true
  | .tup [] => false
  | .tup (p :: ps) => (match p with
    | .str _ => true
    | _ => false) && tshs ps
  | .lst _ => false
  | .scr _ => false
  | .ty _ => false
  | .non => false
  | .bl _ => false
  | .int _ => false
  | .dic _ _ => false
def tshs : List PV → Bool
  | [] => true
  | p :: ps => tsh p && tshs ps
end
theorem tsh_cases {p : PV} (h : tsh p = true) : (∃ s, p = .str s) ∨ ∃ v ps, p = .tup (.str v :: ps) ∧ tshs ps = true := by
  cases p with
  | str s => exact .inl ⟨s, rfl⟩
  | tup ps =>
    cases ps with
    | nil => simp [tsh] at h
    | cons q ps =>
      cases q with
      | str v => exact .inr ⟨v, ps, rfl, by rw [tsh] at h; simpa using h⟩
      | _ => simp [tsh] at h
  | _ => simp [tsh] at h
theorem tshs_mem {ps : List PV} (h : tshs ps = true) : ∀ p ∈ ps, tsh p = true := by
  induction ps with
  | nil => intro p hp; cases hp
  | cons q ps ih =>
    rw [tshs, Bool.and_eq_true] at h
    intro p hp
    rcases List.mem_cons.mp hp with rfl | hp
    · exact h.1
    · exact ih h.2 p hp
theorem dep_mem {ps : List PV} : ∀ p ∈ ps, dep p ≤ deps ps := by
  induction ps with
  | nil => intro p hp; cases hp
  | cons q ps ih =>
    intro p hp
    rw [deps]
    rcases List.mem_cons.mp hp with rfl | hp
    · omega
    · have := ih p hp; omega
theorem psz_mem {ps : List PV} : ∀ p ∈ ps, psz p ≤ pszs ps := by
  induction ps with
  | nil => intro p hp; cases hp
  | cons q ps ih =>
    intro p hp
    rw [pszs]
    rcases List.mem_cons.mp hp with rfl | hp
    · omega
    · have := ih p hp; omega
theorem len_pszs : ∀ xs : List PV, xs.length ≤ pszs xs
  | [] => by simp
  | x :: xs => by have := psz_pos x; have := len_pszs xs; simp only [List.length_cons, pszs]; omega
theorem plains_strs : ∀ ss : List Str, plains (ss.map PV.str) = true
  | [] => rfl
  | s :: ss => by simp [plains, Px.plain, plains_strs ss]
theorem deps_strs : ∀ ss : List Str, deps (ss.map PV.str) = 0
  | [] => rfl
  | s :: ss => by simp [deps, dep, deps_strs ss]
theorem eqOk_strs (ss : List Str) : eqOk (.lst (ss.map PV.str)) := ⟨by rw [Px.plain]; exact plains_strs ss, by rw [dep, deps_strs]; decide⟩
theorem memP_strs (s : Str) : ∀ ss : List Str, memP (.str s) (ss.map PV.str) = ss.contains s
  | [] => rfl
  | t :: ss => by
    have ih := memP_strs s ss
    unfold memP at ih ⊢
    rw [List.map_cons, List.any_cons, ih, peq_str, List.contains_cons, Bool.eq_iff_iff]
    simp only [Bool.or_eq_true, beq_iff_eq]
    constructor
    · rintro (h | h)
      · exact .inl h.symm
      · exact .inr h
    · rintro (h | h)
      · exact .inl h.symm
      · exact .inr h
theorem peqs_strs : ∀ as bs : List Str, peqs (as.map PV.str) (bs.map PV.str) = (as == bs)
  | [], [] => rfl
  | [], _ :: _ => rfl
  | _ :: _, [] => rfl
  | a :: as, b :: bs => by
    rw [List.map_cons, List.map_cons, peqs_cons, peq_str, peqs_strs as bs]
    rfl
mutual
theorem tsh_good : ∀ p : PV, tsh p = true → good p = true
  | .str _, _ => by rw [good]
  | .tup [], h => by simp [tsh] at h
  | .tup (p :: ps), h => by
    cases p with
    | str v =>
      rw [tsh, Bool.true_and] at h
      rw [good, goods, good, tshs_goods ps h]; rfl
    | _ => simp [tsh] at h
  | .lst _, h => by simp [tsh] at h
  | .scr _, h => by simp [tsh] at h
  | .ty _, h => by simp [tsh] at h
  | .non, h => by simp [tsh] at h
  | .bl _, h => by simp [tsh] at h
  | .int _, h => by simp [tsh] at h
  | .dic _ _, h => by simp [tsh] at h
theorem tshs_goods : ∀ ps : List PV, tshs ps = true → goods ps = true
  | [], _ => by rw [goods]
  | p :: ps, h => by
    rw [tshs, Bool.and_eq_true] at h
    rw [goods, tsh_good p h.1, tshs_goods ps h.2]; rfl
end
theorem goods_iff : ∀ ps : List PV, goods ps = true ↔ ∀ p ∈ ps, good p = true
  | [] => by simp [goods]
  | p :: ps => by simp [goods, goods_iff ps]
theorem deps_le {n : Nat} : ∀ ps : List PV, deps ps ≤ n ↔ ∀ p ∈ ps, dep p ≤ n
  | [] => by simp [deps]
  | p :: ps => by
    rw [deps, List.forall_mem_cons, ← deps_le ps]; omega
theorem deps_append (as bs : List PV) : deps (as ++ bs) = max (deps as) (deps bs) := by
  induction as with
  | nil => simp [deps]
  | cons a as ih => rw [List.cons_append, deps, deps, ih]; omega
theorem cut_sub {α : Type} (xs : List α) (lo hi : Option Int) : (cutP xs lo hi).Sublist xs := (List.take_sublist _ _).trans (List.drop_sublist _ _)
theorem pszs_sub {as bs : List PV} (h : as.Sublist bs) : pszs as ≤ pszs bs := by
  induction h with
  | slnil => exact Nat.le_refl _
  | cons a _ ih => rw [pszs]; omega
  | cons_cons a _ ih => rw [pszs, pszs]; omega
theorem deps_sub {as bs : List PV} (h : as.Sublist bs) : deps as ≤ deps bs := (deps_le as).mpr fun p hp => dep_mem p (h.subset hp)
theorem goods_sub {as bs : List PV} (h : as.Sublist bs) (g : goods bs = true) : goods as = true := (goods_iff as).mpr fun p hp => (goods_iff bs).mp g p (h.subset hp)
theorem getLast_split {α : Type} {xs : List α} {x : α} (h : xs.getLast? = some x) : xs = xs.dropLast ++ [x] := by
  have ne : xs ≠ [] := fun e => by rw [e] at h; cases h
  have := List.dropLast_concat_getLast ne
  rw [List.getLast?_eq_some_getLast ne] at h
  cases h
  exact this.symm
def big : Nat → Nat
  | 0 => 2
  | n + 1 => 2 * big n + 2
theorem big_pos : ∀ n : Nat, 2 ≤ big n
  | 0 => by simp [big]
  | n + 1 => by rw [big]; have := big_pos n; omega
theorem pszs_le {n : Nat} : ∀ ps : List PV, (∀ p ∈ ps, psz p ≤ n) → pszs ps ≤ ps.length * n
  | [], _ => by simp [pszs]
  | p :: ps, h => by
    have h1 := h p List.mem_cons_self
    have h2 := pszs_le ps fun q hq => h q (List.mem_cons_of_mem _ hq)
    rw [pszs, List.length_cons, Nat.succ_mul]; omega
theorem tshs_all : ∀ ps : List PV, (∀ p ∈ ps, tsh p = true) → tshs ps = true
  | [], _ => by rw [tshs]
  | p :: ps, h => by
    rw [tshs, h p List.mem_cons_self, tshs_all ps fun q hq => h q (List.mem_cons_of_mem _ hq)]; rfl
theorem big_mono {a b : Nat} (h : a ≤ b) : big a ≤ big b := by
  induction h with
  | refl => exact Nat.le_refl _
  | step _ ih => rw [big]; omega
theorem term_okG {ms : Ms} (hm : MsOk ms) {names : List PV} (hn : ∀ p ∈ names, tsh p = true ∧ dep p ≤ 1 ∧ psz p ≤ 2) {n : Nat} {p : PV} (h : TermOf ms names n p) : tsh p = true ∧ dep p ≤ n + 1 ∧ psz p ≤ big n := by
  induction h with
  | name h =>
    obtain ⟨h1, h2, h3⟩ := hn _ h
    exact ⟨h1, by omega, by have := big_pos ‹Nat›; omega⟩
  | leaf h => exact ⟨by rw [tsh, tshs]; rfl, by simp [dep, deps], by simp only [psz, pszs]; exact big_pos _⟩
  | @node n w k ps h l t ih =>
    refine ⟨?_, ?_, ?_⟩
    · rw [tsh, tshs_all ps fun q hq => (ih q hq).1]; rfl
    · rw [dep, deps, dep]
      have := (deps_le (n := n + 1) ps).mpr fun q hq => (ih q hq).2.1
      omega
    · rw [psz, pszs, psz, big]
      have h1 := pszs_le (n := big n) ps fun q hq => (ih q hq).2.2
      have h2 := hm.two _ h
      have h3 : ps.length * big n ≤ 2 * big n := Nat.mul_le_mul_right _ (by rw [l]; exact h2)
      omega
mutual
theorem tsh_imm : ∀ p : PV, tsh p = true → Px.imm p = true
  | .str _, _ => by rw [Px.imm]
  | .tup [], h => by simp [tsh] at h
  | .tup (p :: ps), h => by
    cases p with
    | str v =>
      rw [tsh, Bool.true_and] at h
      rw [Px.imm, imms, Px.imm, tshs_imms ps h]; rfl
    | _ => simp [tsh] at h
  | .lst _, h => by simp [tsh] at h
  | .scr _, h => by simp [tsh] at h
  | .ty _, h => by simp [tsh] at h
  | .non, h => by simp [tsh] at h
  | .bl _, h => by simp [tsh] at h
  | .int _, h => by simp [tsh] at h
  | .dic _ _, h => by simp [tsh] at h
theorem tshs_imms : ∀ ps : List PV, tshs ps = true → imms ps = true
  | [], _ => by rw [imms]
  | p :: ps, h => by
    rw [tshs, Bool.and_eq_true] at h
    rw [imms, tsh_imm p h.1, tshs_imms ps h.2]; rfl
end
mutual
theorem tsh_plain : ∀ p : PV, tsh p = true → Px.plain p = true
  | .str _, _ => by rw [Px.plain]
  | .tup [], h => by simp [tsh] at h
  | .tup (p :: ps), h => by
    cases p with
    | str v =>
      rw [tsh, Bool.true_and] at h
      rw [Px.plain, plains, Px.plain, tshs_plains ps h]; rfl
    | _ => simp [tsh] at h
  | .lst _, h => by simp [tsh] at h
  | .scr _, h => by simp [tsh] at h
  | .ty _, h => by simp [tsh] at h
  | .non, h => by simp [tsh] at h
  | .bl _, h => by simp [tsh] at h
  | .int _, h => by simp [tsh] at h
  | .dic _ _, h => by simp [tsh] at h
theorem tshs_plains : ∀ ps : List PV, tshs ps = true → plains ps = true
  | [], _ => by rw [plains]
  | p :: ps, h => by
    rw [tshs, Bool.and_eq_true] at h
    rw [plains, tsh_plain p h.1, tshs_plains ps h.2]; rfl
end
theorem tsh_eqOk {p : PV} (h : tsh p = true) (d : dep p ≤ 64) : eqOk p := ⟨tsh_plain p h, d⟩
mutual
/-- == of terms -/
theorem peq_tsh : ∀ p q : PV, tsh p = true → tsh q = true → (peq p q = true ↔ p = q)
  | .str a, q, _, hq => by
    rcases tsh_cases hq with ⟨s, rfl⟩ | ⟨v, qs, rfl, _⟩
    · rw [peq_str]; simp
    · exact ⟨fun h => (by cases h), fun h => (by cases h)⟩
  | .tup [], _, h, _ => by simp [tsh] at h
  | .tup (p :: ps), q, h, hq => by
    cases p with
    | str a =>
      rw [tsh, Bool.true_and] at h
      rcases tsh_cases hq with ⟨s, rfl⟩ | ⟨v, qs, rfl, hqs⟩
      · exact ⟨fun h => (by cases h), fun h => (by cases h)⟩
      · rw [peq_tup, peqs_cons, peq_str, Bool.and_eq_true, beq_iff_eq, peqs_tshs ps qs h hqs]
        constructor
        · rintro ⟨rfl, rfl⟩; rfl
        · intro e; cases e; exact ⟨rfl, rfl⟩
    | _ => simp [tsh] at h
  | .lst _, _, h, _ => by simp [tsh] at h
  | .scr _, _, h, _ => by simp [tsh] at h
  | .ty _, _, h, _ => by simp [tsh] at h
  | .non, _, h, _ => by simp [tsh] at h
  | .bl _, _, h, _ => by simp [tsh] at h
  | .int _, _, h, _ => by simp [tsh] at h
  | .dic _ _, _, h, _ => by simp [tsh] at h
theorem peqs_tshs : ∀ ps qs : List PV, tshs ps = true → tshs qs = true → (peqs ps qs = true ↔ ps = qs)
  | [], [], _, _ => ⟨fun _ => rfl, fun _ => rfl⟩
  | [], q :: qs, _, _ => ⟨fun h => (by cases h), fun h => (by cases h)⟩
  | p :: ps, [], _, _ => ⟨fun h => (by cases h), fun h => (by cases h)⟩
  | p :: ps, q :: qs, h, h' => by
    rw [tshs, Bool.and_eq_true] at h h'
    rw [peqs_cons, Bool.and_eq_true, peq_tsh p q h.1 h'.1, peqs_tshs ps qs h.2 h'.2]
    constructor
    · rintro ⟨rfl, rfl⟩; rfl
    · intro e; cases e; exact ⟨rfl, rfl⟩
end

end Lw
set_option maxHeartbeats 4000000
namespace Lw
open PySem L2 PyProof.Rows Px
local macro_rules | `(tactic| walk_at "px") => `(tactic| simp -dsimp only [qVar, qK, qNil, qCons, qTup, qLst, vals, looks, R.look, R.wk, qCB, qB, qOp2, qTru, truG, qAnd, qOr, qNot, qAndV, qOrV, qNotV, qIfE, qNo, qPart, qSl, gSl, qIt, qRng1, qRng2, qgN, qgNil, qgCons, qgT, notIo_zero, notIo_succ, notIo_nil', slOk_un, slOk_val, slOk_own, slOk_pl, slOk_pd, notIos_nil, notIos_cons, qYes, qLc, qNext, qSeq, qBreak, qCont, qFrz, frz, qDrop, retG, qRet, qRetN, qIf, qSet, qOwn, qAsg, qFor, qMut, ownTy, gAppend, gExtend, gPop, isOwn, qSetIx, qCall, splitArgs, putOuts, setOwn, finOk, endsOf, mk, outsOf, uns,
  gAdd, gInt, gInt0, gEq, gNe, gIn, gNotIn, gIs, gIsNot, Px.isNon, gIx, getP, gLen, gAbs, gIntC, gSum, gMax, gMax2, gMinT, gAll, gAny, gList, gTuple, gIsi, qNeg, qDict0, wipeE, lcGo_nil, br_t, br_f, atI_0, atI_1, atI_2, atI_3, ixN_0, ixN_1, ixN_2, ixN_3, List.length_map, List.length_set, cut_from1, isTy, tyN, gIsiT, asTys, gListD, keyP, isDic, qGet1, qGet2, qLZ, gZip, qPairs, mergeP, qDisp, gDictC, gStr, qChain, qPar, qAug, qMeth, tyIs, gIndex, qLcK, qDc, qDcK, dicAt, qForK, qZipI, qCallB, qCallF, splitB, Option.isSome_some, Option.isSome_none, isEmp_concat, List.getLast?_concat, List.dropLast_concat, List.isEmpty_nil, gEqX, gNeX, List.any_cons, List.any_nil, tyOk_str, tyOk_tuple, tyOk_int, tyOk_bool, tyOk_list, tyOk_dict, Option.map_some, Option.map_none,
  eqOk_str, eqOk_int, eqOk_bl, eqOk_non, eqOkW_str, eqOkW_int, eqOkW_bl, eqOkW_non, gEqW, gNeW, qVals, ownDic, qLc2, gLtX, gGtX, gSortX, peq_str, peq_int, peq_bl, List.getElem?_cons_zero, List.getElem?_cons_succ, List.getElem?_nil, List.set_cons_zero, List.set_cons_succ, List.zipWith_cons_cons, List.zipWith_nil_left, List.replicate_succ, List.replicate_zero, List.cons_append, List.nil_append, List.length_cons, List.length_nil, List.map_cons, List.map_nil, ↓reduceIte, Bool.false_eq_true, and_true, true_and, Bool.not_true, Bool.not_false, Nat.reduceAdd, Nat.reduceLT, Nat.reduceLeDiff, Nat.zero_lt_succ, Nat.lt_add_one, ne_eq, not_true_eq_false, not_false_eq_true, String.reduceEq, String.reduceBEq, Bool.or_false, Bool.false_or, Bool.or_true, Bool.true_or, Bool.and_false, Bool.and_true, Bool.false_and, Bool.true_and, reduceCtorEq])
/-! ### dicts with texts for keys -/
abbrev As := List (Str × PV)
def dKs (d : As) : List Key := d.map fun e => Sum.inr e.1
def dPs (d : As) : List PV := d.map (·.2)
def encD (d : As) : PV := .dic (dKs d) (dPs d)
def look : As → Str → Option PV
  | [], _ => none
  | (k, v) :: d, s => if k = s then some v else look d s
theorem getD_enc : ∀ (d : As) (s : Str), getD (dKs d) (dPs d) (.inr s) = look d s
  | [], s => rfl
  | (k, v) :: d, s => by
    show (if (Sum.inr k : Key) = Sum.inr s then some v else getD (dKs d) (dPs d) (.inr s)) = if k = s then some v else look d s
    rw [getD_enc d s]
    by_cases e : k = s
    · rw [if_pos e, if_pos (by rw [e])]
    · rw [if_neg e, if_neg (fun z => e (Sum.inr.inj z))]
def putD (d : As) (s : Str) (v : PV) : As := if (look d s).isSome = true then d.map fun e => if e.1 = s then (e.1, v) else e else d ++ [(s, v)]
theorem hasK_enc : ∀ (d : As) (s : Str), hasK (dKs d) (.inr s) = (look d s).isSome
  | [], s => rfl
  | (k, v) :: d, s => by
    show (decide ((Sum.inr k : Key) = Sum.inr s) || hasK (dKs d) (.inr s)) = (if k = s then some v else look d s).isSome
    rw [hasK_enc d s]
    by_cases e : k = s
    · rw [if_pos e, decide_eq_true (by rw [e])]; rfl
    · rw [if_neg e, decide_eq_false (fun z => e (Sum.inr.inj z))]; rfl
theorem put_enc (d : As) (s : Str) (v : PV) : PV.dic (putKs (dKs d) (.inr s)) (putPs (dKs d) (dPs d) (.inr s) v) = encD (putD d s v) := by
  unfold putKs putPs putD
  rw [hasK_enc]
  by_cases h : (look d s).isSome = true
  · rw [if_pos h, if_pos h, if_pos h]
    clear h
    unfold encD
    congr 1
    · unfold dKs
      rw [List.map_map]
      refine List.map_congr_left fun e _ => ?_
      show _ = Sum.inr (if e.1 = s then (e.1, v) else e).1
      split <;> rfl
    · induction d with
      | nil => rfl
      | cons e d ih =>
        show (if (Sum.inr e.1 : Key) = Sum.inr s then v else e.2) :: _ = (if e.1 = s then (e.1, v) else e).2 :: _
        rw [show List.zipWith (fun k p => if k = Sum.inr s then v else p) (List.map (fun e => Sum.inr e.1) d) (List.map (fun x => x.2) d) = dPs (d.map fun e => if e.1 = s then (e.1, v) else e) from ih]
        congr 1
        by_cases z : e.1 = s
        · rw [if_pos z, if_pos (by rw [z])]
        · rw [if_neg z, if_neg (fun y => z (Sum.inr.inj y))]
  · rw [if_neg h, if_neg h, if_neg h]
    unfold encD dKs dPs
    rw [List.map_append, List.map_append]; rfl
theorem look_put (d : As) (s : Str) (v : PV) (t : Str) : look (putD d s v) t = if s = t then some v else look d t := by
  unfold putD
  by_cases h : (look d s).isSome = true
  · rw [if_pos h]
    induction d with
    | nil => simp [look] at h
    | cons e d ih =>
      obtain ⟨k, w⟩ := e
      rw [List.map_cons]
      by_cases z : k = s
      · subst z
        simp only [if_true, look]
        by_cases y : k = t
        · rw [if_pos y, if_pos y]
        · rw [if_neg y, if_neg y, if_neg y]
          by_cases h2 : (look d k).isSome = true
          · rw [ih h2, if_neg y]
          · have : d.map (fun e => if e.1 = k then (e.1, v) else e) = d := by
              clear ih h
              induction d with
              | nil => rfl
              | cons f d ih2 =>
                have hf : f.1 ≠ k := fun q => h2 (by rw [look.eq_def]; simp only; rw [if_pos q]; rfl)
                have h3 : ¬ (look d k).isSome = true := fun q => h2 (by rw [look.eq_def]; simp only; rw [if_neg hf]; exact q)
                rw [List.map_cons, ih2 h3, if_neg hf]
            rw [this]
      · simp only [if_neg z, look] at h ⊢
        by_cases y : k = t
        · rw [if_pos y, if_pos y, if_neg (fun q => z (by rw [y, q]))]
        · rw [if_neg y, if_neg y, ih h]
  · rw [if_neg h]
    have hn : look d s = none := by cases e : look d s with
      | none => rfl
      | some _ => rw [e] at h; exact absurd rfl h
    clear h
    induction d with
    | nil => rfl
    | cons e d ih =>
      obtain ⟨k, w⟩ := e
      rw [List.cons_append]
      unfold look at hn ⊢
      by_cases z : k = s
      · rw [if_pos z] at hn; cases hn
      · rw [if_neg z] at hn
        by_cases y : k = t
        · rw [if_pos y, if_pos y, if_neg (fun q => z (by rw [y, q]))]
        · rw [if_neg y, if_neg y, ih hn]
theorem putD_keys (d : As) (s : Str) (v : PV) : (putD d s v).map (·.1) = if (look d s).isSome = true then d.map (·.1) else d.map (·.1) ++ [s] := by
  unfold putD
  by_cases h : (look d s).isSome = true
  · rw [if_pos h, if_pos h, List.map_map]
    refine List.map_congr_left fun e _ => ?_
    show (if e.1 = s then (e.1, v) else e).1 = e.1
    split <;> rfl
  · rw [if_neg h, if_neg h, List.map_append]; rfl
theorem look_some_mem : ∀ {d : As} {s : Str} {v : PV}, look d s = some v → (s, v) ∈ d
  | [], _, _, h => by cases h
  | (k, w) :: d, s, v, h => by
    unfold look at h
    split at h
    · rename_i e; cases h; rw [e]; exact List.mem_cons_self
    · exact List.mem_cons_of_mem _ (look_some_mem h)
theorem look_none : ∀ {d : As} {s : Str}, look d s = none ↔ s ∉ d.map (·.1)
  | [], s => by simp [look]
  | (k, w) :: d, s => by
    rw [look, List.map_cons, List.mem_cons]
    by_cases e : k = s
    · rw [if_pos e]; simp [e]
    · rw [if_neg e, look_none (d := d) (s := s)]
      constructor
      · rintro h (z | z)
        · exact e z.symm
        · exact h z
      · exact fun h z => h (.inr z)
theorem putD_nd {d : As} {s : Str} {v : PV} (h : (d.map (·.1)).Nodup) : ((putD d s v).map (·.1)).Nodup := by
  rw [putD_keys]
  split
  · exact h
  · rename_i n
    have hn : s ∉ d.map (·.1) := by
      rw [← look_none]
      cases e : look d s with
      | none => rfl
      | some _ => rw [e] at n; exact absurd rfl n
    refine List.nodup_append.mpr ⟨h, by simp, fun a ha b hb => ?_⟩
    have : b = s := by simpa using hb
    rw [this]
    exact fun z => hn (by rw [← z]; exact ha)
theorem putD_vals {d : As} {s : Str} {v : PV} {C : PV → Prop} (hv : C v) (h : ∀ e ∈ d, C e.2) : ∀ e ∈ putD d s v, C e.2 := by
  intro e he
  unfold putD at he
  split at he
  · obtain ⟨f, hf, rfl⟩ := List.mem_map.mp he
    split
    · exact hv
    · exact h f hf
  · rcases List.mem_append.mp he with he | he
    · exact h e he
    · have : e = (s, v) := by simpa using he
      rw [this]; exact hv
theorem putD_len (d : As) (s : Str) (v : PV) : (putD d s v).length ≤ d.length + 1 := by
  unfold putD
  split
  · simp
  · simp
theorem dKs_len (d : As) : (dKs d).length = d.length := by unfold dKs; rw [List.length_map]
theorem look_mem_of {d : As} {s : Str} {v : PV} (nd : (d.map (·.1)).Nodup) (h : (s, v) ∈ d) : look d s = some v := by
  induction d with
  | nil => cases h
  | cons e d ih =>
    obtain ⟨k, w⟩ := e
    rw [List.map_cons, List.nodup_cons] at nd
    unfold look
    rcases List.mem_cons.mp h with z | z
    · cases z; rw [if_pos rfl]
    · have ne : k ≠ s := fun y => nd.1 (by rw [y]; exact List.mem_map.mpr ⟨_, z, rfl⟩)
      rw [if_neg ne]; exact ih nd.2 z
/-! ### terms with names put -/
mutual
def putT (d : As) : PV → PV
  | .str s => match look d s with
    | some z => z
    | none => .str s
  | .tup [] => .tup []
  | .tup (p :: ps) => .tup (p :: putTs d ps)
  | .lst x => .lst x
  | .scr x => .scr x
  | .ty x => .ty x
  | .non => .non
  | .bl x => .bl x
  | .int x => .int x
  | .dic x y => .dic x y
def putTs (d : As) : List PV → List PV
  | [] => []
  | p :: ps => putT d p :: putTs d ps
end
theorem putTs_map (d : As) : ∀ ps : List PV, putTs d ps = ps.map (putT d)
  | [] => by rw [putTs]; rfl
  | p :: ps => by rw [putTs, putTs_map d ps]; rfl

end Lw
set_option maxHeartbeats 4000000
namespace Lw
open PySem L2 PyProof.Rows Px
local macro_rules | `(tactic| walk_at "px") => `(tactic| simp -dsimp only [qVar, qK, qNil, qCons, qTup, qLst, vals, looks, R.look, R.wk, qCB, qB, qOp2, qTru, truG, qAnd, qOr, qNot, qAndV, qOrV, qNotV, qIfE, qNo, qPart, qSl, gSl, qIt, qRng1, qRng2, qgN, qgNil, qgCons, qgT, notIo_zero, notIo_succ, notIo_nil', slOk_un, slOk_val, slOk_own, slOk_pl, slOk_pd, notIos_nil, notIos_cons, qYes, qLc, qNext, qSeq, qBreak, qCont, qFrz, frz, qDrop, retG, qRet, qRetN, qIf, qSet, qOwn, qAsg, qFor, qMut, ownTy, gAppend, gExtend, gPop, isOwn, qSetIx, qCall, splitArgs, putOuts, setOwn, finOk, endsOf, mk, outsOf, uns,
  gAdd, gInt, gInt0, gEq, gNe, gIn, gNotIn, gIs, gIsNot, Px.isNon, gIx, getP, gLen, gAbs, gIntC, gSum, gMax, gMax2, gMinT, gAll, gAny, gList, gTuple, gIsi, qNeg, qDict0, wipeE, lcGo_nil, br_t, br_f, atI_0, atI_1, atI_2, atI_3, ixN_0, ixN_1, ixN_2, ixN_3, List.length_map, List.length_set, cut_from1, isTy, tyN, gIsiT, asTys, gListD, keyP, isDic, qGet1, qGet2, qLZ, gZip, qPairs, mergeP, qDisp, gDictC, gStr, qChain, qPar, qAug, qMeth, tyIs, gIndex, qLcK, qDc, qDcK, dicAt, qForK, qZipI, qCallB, qCallF, splitB, Option.isSome_some, Option.isSome_none, isEmp_concat, List.getLast?_concat, List.dropLast_concat, List.isEmpty_nil, gEqX, gNeX, List.any_cons, List.any_nil, tyOk_str, tyOk_tuple, tyOk_int, tyOk_bool, tyOk_list, tyOk_dict, Option.map_some, Option.map_none,
  eqOk_str, eqOk_int, eqOk_bl, eqOk_non, eqOkW_str, eqOkW_int, eqOkW_bl, eqOkW_non, gEqW, gNeW, qVals, ownDic, qLc2, gLtX, gGtX, gSortX, peq_str, peq_int, peq_bl, List.getElem?_cons_zero, List.getElem?_cons_succ, List.getElem?_nil, List.set_cons_zero, List.set_cons_succ, List.zipWith_cons_cons, List.zipWith_nil_left, List.replicate_succ, List.replicate_zero, List.cons_append, List.nil_append, List.length_cons, List.length_nil, List.map_cons, List.map_nil, ↓reduceIte, Bool.false_eq_true, and_true, true_and, Bool.not_true, Bool.not_false, Nat.reduceAdd, Nat.reduceLT, Nat.reduceLeDiff, Nat.zero_lt_succ, Nat.lt_add_one, ne_eq, not_true_eq_false, not_false_eq_true, String.reduceEq, String.reduceBEq, Bool.or_false, Bool.false_or, Bool.or_true, Bool.true_or, Bool.and_false, Bool.and_true, Bool.false_and, Bool.true_and, reduceCtorEq])
abbrev Tt := Un.Tm Str
mutual
def encT : Tt → PV
  | .v x => .str x
  | .n w ps => .tup (.str w :: encTs ps)
def encTs : List Tt → List PV
  | [] => []
  | p :: ps => encT p :: encTs ps
end
theorem encTs_map : ∀ ps : List Tt, encTs ps = ps.map encT
  | [] => by rw [encTs]; rfl
  | p :: ps => by rw [encTs, encTs_map ps]; rfl
mutual
theorem tsh_enc : ∀ t : Tt, tsh (encT t) = true
  | .v x => by rw [encT]; rfl
  | .n w ps => by rw [encT]; exact tshs_enc ps
theorem tshs_enc : ∀ ps : List Tt, tshs (encTs ps) = true
  | [] => by rw [encTs]; rfl
  | p :: ps => by rw [encTs, tshs, tsh_enc p, tshs_enc ps]; rfl
end
mutual
theorem dep_enc : ∀ t : Tt, dep (encT t) = Un.dp t
  | .v x => by rw [encT, dep, Un.dp]
  | .n w ps => by
    rw [encT, dep, deps, dep, deps_enc ps, Un.dp]; omega
theorem deps_enc : ∀ ps : List Tt, deps (encTs ps) = Un.dps ps
  | [] => by rw [encTs, deps, Un.dps]
  | p :: ps => by rw [encTs, deps, Un.dps, dep_enc p, deps_enc ps]
end
mutual
theorem encT_inj : ∀ a b : Tt, encT a = encT b → a = b
  | .v x, .v y, h => by rw [encT, encT] at h; injection h with h; rw [h]
  | .v x, .n w ps, h => by rw [encT, encT] at h; cases h
  | .n w ps, .v y, h => by rw [encT, encT] at h; cases h
  | .n w ps, .n w' qs, h => by
    rw [encT, encT] at h
    injection h with h
    injection h with h1 h2
    injection h1 with h1
    rw [h1, encTs_inj ps qs h2]
theorem encTs_inj : ∀ as bs : List Tt, encTs as = encTs bs → as = bs
  | [], [], _ => rfl
  | [], b :: bs, h => by rw [encTs, encTs] at h; cases h
  | a :: as, [], h => by rw [encTs, encTs] at h; cases h
  | a :: as, b :: bs, h => by
    rw [encTs, encTs] at h
    injection h with h1 h2
    rw [encT_inj a b h1, encTs_inj as bs h2]
end
theorem peq_enc (a b : Tt) : peq (encT a) (encT b) = true ↔ a = b :=
  (peq_tsh _ _ (tsh_enc a) (tsh_enc b)).trans ⟨encT_inj a b, fun h => by rw [h]⟩
theorem eqOk_enc {t : Tt} (h : Un.dp t ≤ 64) : eqOk (encT t) := tsh_eqOk (tsh_enc t) (by rw [dep_enc]; exact h)
theorem eqOkW_enc {t : Tt} (h : Un.dp t ≤ 190) : eqOkW (encT t) := ⟨tsh_plain _ (tsh_enc t), by rw [dep_enc]; exact h⟩
theorem imm_enc (t : Tt) : Px.imm (encT t) = true := tsh_imm _ (tsh_enc t)
/-! ### dicts of terms -/
def eA (d : Un.At Str) : As := d.map fun e => (e.1, encT e.2)
def encA (d : Un.At Str) : PV := encD (eA d)
theorem look_eA : ∀ (d : Un.At Str) (x : Str), look (eA d) x = (Un.lk d x).map encT
  | [], x => rfl
  | e :: d, x => by
    have ih := look_eA d x
    show (if e.1 = x then some (encT e.2) else look (eA d) x) = _
    unfold Un.lk
    by_cases h : e.1 = x
    · rw [if_pos h, if_pos h]; rfl
    · rw [if_neg h, if_neg h]; exact ih
theorem keys_eA (d : Un.At Str) : (eA d).map (·.1) = Un.ks d := by unfold eA Un.ks; rw [List.map_map]; rfl
theorem eA_len (d : Un.At Str) : (eA d).length = d.length := by unfold eA; rw [List.length_map]
theorem eA_inj : ∀ {d e : Un.At Str}, eA d = eA e → d = e
  | [], [], _ => rfl
  | [], b :: e, h => by cases h
  | a :: d, [], h => by cases h
  | a :: d, b :: e, h => by
    have h' : (a.1, encT a.2) :: eA d = (b.1, encT b.2) :: eA e := h
    injection h' with h1 h2
    injection h1 with h3 h4
    rw [eA_inj h2, show a = b from Prod.ext h3 (encT_inj _ _ h4)]
theorem encD_inj2 {d e : As} (h : encD d = encD e) : d = e := by
  unfold encD at h
  injection h with h1 h2
  unfold dKs at h1
  unfold dPs at h2
  induction d generalizing e with
  | nil => cases e with
    | nil => rfl
    | cons _ _ => simp at h1
  | cons a d ih =>
    cases e with
    | nil => simp at h1
    | cons b e =>
      simp only [List.map_cons, List.cons.injEq] at h1 h2
      have : a = b := Prod.ext (Sum.inr.inj h1.1) h2.1
      rw [this, ih h1.2 h2.2]
theorem encA_inj {d e : Un.At Str} (h : encA d = encA e) : d = e := eA_inj (encD_inj2 h)
theorem look_not {d : Un.At Str} {x : Str} (h : x ∉ Un.ks d) : look (eA d) x = none := by rw [look_eA, Un.lk_none.mpr h]; rfl
theorem putD_eA {d : Un.At Str} {x : Str} {t : Tt} (h : x ∉ Un.ks d) : putD (eA d) x (encT t) = eA (d ++ [(x, t)]) := by
  unfold putD
  rw [look_not h]
  unfold eA
  rw [List.map_append]; rfl
def encP (p : Tt × Tt) : PV := .tup [encT p.1, encT p.2]
theorem encP_inj {p q : Tt × Tt} (h : encP p = encP q) : p = q := by
  unfold encP at h
  injection h with h
  injection h with h1 h
  injection h with h2 _
  exact Prod.ext (encT_inj _ _ h1) (encT_inj _ _ h2)
theorem encPs_inj : ∀ {W U : Un.Ps Str}, W.map encP = U.map encP → W = U
  | [], [], _ => rfl
  | [], b :: e, h => by cases h
  | a :: d, [], h => by cases h
  | a :: d, b :: e, h => by
    simp only [List.map_cons, List.cons.injEq] at h
    rw [encP_inj h.1, encPs_inj h.2]
/-! ### the order of names -/
def le (a b : Str) : Prop := ltT b a = false
theorem le_iff (a b : Str) : le a b ↔ ¬ b.cps.toList < a.cps.toList := by unfold le ltT; simp
theorem le_rf (a : Str) : le a a := by rw [le_iff]; exact List.lt_irrefl _
theorem le_tr (a b c : Str) (h : le a b) (g : le b c) : le a c := by
  rw [le_iff] at *
  rw [List.not_lt] at *
  exact List.le_trans h g
theorem le_an (a b : Str) (h : le a b) (g : le b a) : a = b := by
  rw [le_iff] at *
  rw [List.not_lt] at *
  have := List.le_antisymm h g
  cases a with | mk a => cases b with | mk b =>
  exact congrArg Str.mk (Array.toList_inj.mp this)
theorem maxmin {x y : Str} (h : x ≠ y) : (((if ltT x y = true then y else x) = x ∧ (if ltT y x = true then y else x) = y) ∨ ((if ltT x y = true then y else x) = y ∧ (if ltT y x = true then y else x) = x)) ∧ le (if ltT y x = true then y else x) (if ltT x y = true then y else x) := by
  cases e1 : ltT x y with
  | true =>
    cases e2 : ltT y x with
    | true =>
      exfalso
      unfold ltT at e1 e2
      exact List.lt_irrefl _ (List.lt_trans (of_decide_eq_true e1) (of_decide_eq_true e2))
    | false => exact ⟨.inr ⟨rfl, rfl⟩, e2⟩
  | false =>
    cases e2 : ltT y x with
    | true => exact ⟨.inl ⟨rfl, rfl⟩, e1⟩
    | false => exact absurd (le_an y x e1 e2).symm h
/-! ### arities -/
mutual
def ok2 : Tt → Prop
  | .v _ => True
  | .n _ ps => ps.length ≤ 2 ∧ ok2s ps
def ok2s : List Tt → Prop
  | [] => True
  | p :: ps => ok2 p ∧ ok2s ps
end
theorem ok2s_iff : ∀ ps : List Tt, ok2s ps ↔ ∀ p ∈ ps, ok2 p
  | [] => by simp [ok2s]
  | p :: ps => by rw [ok2s, ok2s_iff ps]; simp
mutual
theorem ok2_of {ar : Str → Nat} (h : ∀ w, ar w ≤ 2) : ∀ t : Tt, Un.okA ar t → ok2 t
  | .v _, _ => trivial
  | .n w ps, o => ⟨by rw [o.1]; exact h w, ok2s_of h ps o.2⟩
theorem ok2s_of {ar : Str → Nat} (h : ∀ w, ar w ≤ 2) : ∀ ps : List Tt, Un.okAs ar ps → ok2s ps
  | [], _ => trivial
  | p :: ps, o => ⟨ok2_of h p o.1, ok2s_of h ps o.2⟩
end
def arM (ms : Ms) (w : Str) : Nat := ((ms.find? fun m => m.1 == w).map (·.2)).getD 0
theorem ms_find2 {ms : Ms} (h : (ms.map (·.1)).Nodup) {w : Str} {k : Nat} (hm : (w, k) ∈ ms) : arM ms w = k := by
  unfold arM
  induction ms with
  | nil => cases hm
  | cons m ms ih =>
    rw [List.map_cons, List.nodup_cons] at h
    rw [List.find?_cons]
    rcases List.mem_cons.mp hm with e | hm
    · rw [← e]; simp
    · have ne : (m.1 == w) = false := by
        rw [beq_eq_false_iff_ne]
        intro z
        exact h.1 (List.mem_map.mpr ⟨_, hm, z.symm⟩)
      rw [ne]; exact ih h.2 hm
theorem arM_le {ms : Ms} (h : MsOk ms) (w : Str) : arM ms w ≤ 2 := by
  unfold arM
  cases e : ms.find? fun m => m.1 == w with
  | none => exact Nat.zero_le _
  | some m => exact h.two m (List.mem_of_find?_eq_some e)
theorem term_tm {ms : Ms} (hm : MsOk ms) {names : List PV} {Nm : List Str} {D : Nat} (h1 : 1 ≤ D) (hn : ∀ p ∈ names, ∃ t, p = encT t ∧ Un.G Nm (arM ms) D t) {n : Nat} {p : PV} (h : TermOf ms names n p) : ∃ t, p = encT t ∧ Un.G Nm (arM ms) (D + n) t := by
  induction h with
  | name h =>
    obtain ⟨t, e, g⟩ := hn _ h
    exact ⟨t, e, g.mono (by omega)⟩
  | @leaf n w h =>
    refine ⟨.n w [], by rw [encT, encTs], ⟨by rw [Un.dp, Un.dps]; omega, fun x o => o.elim, ?_, trivial⟩⟩
    rw [ms_find2 hm.nd h]; rfl
  | @node n w k ps h l t ih =>
    have key : ∀ qs : List PV, (∀ q ∈ qs, q ∈ ps) → ∃ ts : List Tt, qs = encTs ts ∧ ∀ t ∈ ts, Un.G Nm (arM ms) (D + n) t := by
      intro qs
      induction qs with
      | nil => exact fun _ => ⟨[], by rw [encTs], fun t ht => by cases ht⟩
      | cons q qs ih2 =>
        intro hq
        obtain ⟨t, e, g⟩ := ih q (hq q List.mem_cons_self)
        obtain ⟨ts, e2, g2⟩ := ih2 fun q hq' => hq q (List.mem_cons_of_mem _ hq')
        refine ⟨t :: ts, by rw [encTs, e, e2], fun t' ht' => ?_⟩
        rcases List.mem_cons.mp ht' with rfl | ht'
        · exact g
        · exact g2 t' ht'
    obtain ⟨ts, e, g⟩ := key ps fun q hq => hq
    have dl : Un.dps ts ≤ D + n := by
      clear e
      induction ts with
      | nil => rw [Un.dps]; omega
      | cons t ts ih3 =>
        rw [Un.dps]
        have := (g t List.mem_cons_self).dp
        have := ih3 fun t' h' => g t' (List.mem_cons_of_mem _ h')
        omega
    refine ⟨.n w ts, by rw [encT, e], ⟨by rw [Un.dp]; omega, fun x o => ?_, ?_, ?_⟩⟩
    · obtain ⟨p, hp, o⟩ := (Un.occs_iff x ts).mp o
      exact (g p hp).nm x o
    · have lt : ts.length = ps.length := by rw [e, encTs_map, List.length_map]
      rw [ms_find2 hm.nd h, lt, l]
    · exact (Un.okAs_iff _ ts).mpr fun p hp => (g p hp).ok

end Lw
set_option maxHeartbeats 4000000
namespace Lw
open PySem L2 PyProof.Rows Px
local macro_rules | `(tactic| walk_at "px") => `(tactic| simp -dsimp only [qVar, qK, qNil, qCons, qTup, qLst, vals, looks, R.look, R.wk, qCB, qB, qOp2, qTru, truG, qAnd, qOr, qNot, qAndV, qOrV, qNotV, qIfE, qNo, qPart, qSl, gSl, qIt, qRng1, qRng2, qgN, qgNil, qgCons, qgT, notIo_zero, notIo_succ, notIo_nil', slOk_un, slOk_val, slOk_own, slOk_pl, slOk_pd, notIos_nil, notIos_cons, qYes, qLc, qNext, qSeq, qBreak, qCont, qFrz, frz, qDrop, retG, qRet, qRetN, qIf, qSet, qOwn, qAsg, qFor, qMut, ownTy, gAppend, gExtend, gPop, isOwn, qSetIx, qCall, splitArgs, putOuts, setOwn, finOk, endsOf, mk, outsOf, uns,
  gAdd, gInt, gInt0, gEq, gNe, gIn, gNotIn, gIs, gIsNot, Px.isNon, gIx, getP, gLen, gAbs, gIntC, gSum, gMax, gMax2, gMinT, gAll, gAny, gList, gTuple, gIsi, qNeg, qDict0, wipeE, lcGo_nil, br_t, br_f, atI_0, atI_1, atI_2, atI_3, ixN_0, ixN_1, ixN_2, ixN_3, List.length_map, List.length_set, cut_from1, isTy, tyN, gIsiT, asTys, gListD, keyP, isDic, qGet1, qGet2, qLZ, gZip, qPairs, mergeP, qDisp, gDictC, gStr, qChain, qPar, qAug, qMeth, tyIs, gIndex, qLcK, qDc, qDcK, dicAt, qForK, qZipI, qCallB, qCallF, splitB, Option.isSome_some, Option.isSome_none, isEmp_concat, List.getLast?_concat, List.dropLast_concat, List.isEmpty_nil, gEqX, gNeX, List.any_cons, List.any_nil, tyOk_str, tyOk_tuple, tyOk_int, tyOk_bool, tyOk_list, tyOk_dict, Option.map_some, Option.map_none,
  eqOk_str, eqOk_int, eqOk_bl, eqOk_non, eqOkW_str, eqOkW_int, eqOkW_bl, eqOkW_non, gEqW, gNeW, qVals, ownDic, qLc2, gLtX, gGtX, gSortX, peq_str, peq_int, peq_bl, List.getElem?_cons_zero, List.getElem?_cons_succ, List.getElem?_nil, List.set_cons_zero, List.set_cons_succ, List.zipWith_cons_cons, List.zipWith_nil_left, List.replicate_succ, List.replicate_zero, List.cons_append, List.nil_append, List.length_cons, List.length_nil, List.map_cons, List.map_nil, ↓reduceIte, Bool.false_eq_true, and_true, true_and, Bool.not_true, Bool.not_false, Nat.reduceAdd, Nat.reduceLT, Nat.reduceLeDiff, Nat.zero_lt_succ, Nat.lt_add_one, ne_eq, not_true_eq_false, not_false_eq_true, String.reduceEq, String.reduceBEq, Bool.or_false, Bool.false_or, Bool.or_true, Bool.true_or, Bool.and_false, Bool.and_true, Bool.false_and, Bool.true_and, reduceCtorEq])
/-! ### trees over the makers, their order -/
mutual
def gT (ms : Ms) : Tt → Prop
  | .v _ => False
  | .n w ps => (w, ps.length) ∈ ms ∧ gTs ms ps
def gTs (ms : Ms) : List Tt → Prop
  | [] => True
  | p :: ps => gT ms p ∧ gTs ms ps
end
theorem gTs_iff (ms : Ms) : ∀ ps : List Tt, gTs ms ps ↔ ∀ p ∈ ps, gT ms p
  | [] => by simp [gTs]
  | p :: ps => by rw [gTs, gTs_iff ms ps]; simp
def wIdx : Ms → Str → Nat
  | [], _ => 0
  | m :: ms, w => if m.1 = w then 0 else wIdx ms w + 1
theorem wIdx_inj : ∀ {ms : Ms} {w v : Str}, w ∈ ms.map (·.1) → v ∈ ms.map (·.1) → wIdx ms w = wIdx ms v → w = v
  | [], w, v, h, _, _ => by simp at h
  | m :: ms, w, v, h, g, e => by
    unfold wIdx at e
    by_cases h1 : m.1 = w
    · by_cases h2 : m.1 = v
      · rw [← h1, h2]
      · rw [if_pos h1, if_neg h2] at e; omega
    · by_cases h2 : m.1 = v
      · rw [if_neg h1, if_pos h2] at e; omega
      · rw [if_neg h1, if_neg h2] at e
        rw [List.map_cons, List.mem_cons] at h g
        exact wIdx_inj (h.resolve_left fun z => h1 z.symm) (g.resolve_left fun z => h2 z.symm) (by omega)
mutual
def cmpT (ms : Ms) : Tt → Tt → Int
  | .n w ps, .n v qs => if Un.szs ps < Un.szs qs then -1 else if Un.szs qs < Un.szs ps then 1 else if w ≠ v then (if wIdx ms w < wIdx ms v then -1 else 1) else cmpTs ms ps qs
  | .v _, _ => 0
  | .n _ _, .v _ => 0
def cmpTs (ms : Ms) : List Tt → List Tt → Int
  | p :: ps, q :: qs => if cmpT ms p q ≠ 0 then cmpT ms p q else cmpTs ms ps qs
  | [], _ => 0
  | _ :: _, [] => 0
end
theorem gT_word {ms : Ms} {w : Str} {ps : List Tt} (h : gT ms (.n w ps)) : w ∈ ms.map (·.1) := List.mem_map.mpr ⟨_, h.1, rfl⟩
theorem ar_one {ms : Ms} (nd : (ms.map (·.1)).Nodup) {w : Str} {j k : Nat} (h : (w, j) ∈ ms) (g : (w, k) ∈ ms) : j = k := by
  rw [← ms_find2 nd h, ← ms_find2 nd g]
mutual
theorem cmpT_vals (ms : Ms) : ∀ a b : Tt, cmpT ms a b = -1 ∨ cmpT ms a b = 0 ∨ cmpT ms a b = 1
  | .n w ps, .n v qs => by
    rw [cmpT]
    split
    · exact .inl rfl
    · split
      · exact .inr (.inr rfl)
      · split
        · split
          · exact .inl rfl
          · exact .inr (.inr rfl)
        · exact cmpTs_vals ms ps qs
  | .v _, _ => by rw [cmpT]; exact .inr (.inl rfl)
  | .n _ _, .v _ => by rw [cmpT]; exact .inr (.inl rfl)
theorem cmpTs_vals (ms : Ms) : ∀ as bs : List Tt, cmpTs ms as bs = -1 ∨ cmpTs ms as bs = 0 ∨ cmpTs ms as bs = 1
  | p :: ps, q :: qs => by
    rw [cmpTs]
    split
    · exact cmpT_vals ms p q
    · exact cmpTs_vals ms ps qs
  | [], _ => by rw [cmpTs]; exact .inr (.inl rfl)
  | _ :: _, [] => by rw [cmpTs]; exact .inr (.inl rfl)
end
mutual
theorem cmpT_anti {ms : Ms} : ∀ a b : Tt, gT ms a → gT ms b → cmpT ms b a = - cmpT ms a b
  | .n w ps, .n v qs, h, g => by
    rw [cmpT, cmpT]
    by_cases h1 : Un.szs ps < Un.szs qs
    · rw [if_neg (by omega), if_pos h1, if_pos h1]; rfl
    · rw [if_neg h1]
      by_cases h2 : Un.szs qs < Un.szs ps
      · simp [h1, h2]
      · simp only [if_neg h1, if_neg h2]
        by_cases h3 : w = v
        · subst h3
          rw [if_neg (fun z => z rfl), if_neg (fun z => z rfl)]
          exact cmpTs_anti ps qs h.2 g.2
        · rw [if_pos (fun z => h3 z.symm), if_pos h3]
          have ne : wIdx ms w ≠ wIdx ms v := fun z => h3 (wIdx_inj (gT_word h) (gT_word g) z)
          by_cases h4 : wIdx ms w < wIdx ms v
          · rw [if_neg (by omega), if_pos h4]; rfl
          · rw [if_pos (by omega), if_neg h4]
  | .v _, _, h, _ => h.elim
  | .n _ _, .v _, _, h => h.elim
theorem cmpTs_anti {ms : Ms} : ∀ as bs : List Tt, gTs ms as → gTs ms bs → cmpTs ms bs as = - cmpTs ms as bs
  | p :: ps, q :: qs, h, g => by
    rw [cmpTs, cmpTs, cmpT_anti p q h.1 g.1, cmpTs_anti ps qs h.2 g.2]
    by_cases e : cmpT ms p q = 0
    · rw [if_neg (by omega), if_neg (by omega)]
    · rw [if_pos (by omega), if_pos (by omega)]
  | [], [], _, _ => by rw [cmpTs]; rfl
  | [], _ :: _, _, _ => by rw [cmpTs, cmpTs]; rfl
  | _ :: _, [], _, _ => by rw [cmpTs, cmpTs]; rfl
end
mutual
theorem cmpT_zero {ms : Ms} (nd : (ms.map (·.1)).Nodup) : ∀ a b : Tt, gT ms a → gT ms b → cmpT ms a b = 0 → a = b
  | .n w ps, .n v qs, h, g, e => by
    rw [cmpT] at e
    by_cases h1 : Un.szs ps < Un.szs qs
    · rw [if_pos h1] at e; cases e
    · rw [if_neg h1] at e
      by_cases h2 : Un.szs qs < Un.szs ps
      · rw [if_pos h2] at e; cases e
      · rw [if_neg h2] at e
        by_cases h3 : w = v
        · subst h3
          rw [if_neg (fun z => z rfl)] at e
          rw [cmpTs_zero nd ps qs h.2 g.2 (ar_one nd h.1 g.1) e]
        · rw [if_pos h3] at e
          by_cases h4 : wIdx ms w < wIdx ms v
          · rw [if_pos h4] at e; cases e
          · rw [if_neg h4] at e; cases e
  | .v _, _, h, _, _ => h.elim
  | .n _ _, .v _, _, h, _ => h.elim
theorem cmpTs_zero {ms : Ms} (nd : (ms.map (·.1)).Nodup) : ∀ as bs : List Tt, gTs ms as → gTs ms bs → as.length = bs.length → cmpTs ms as bs = 0 → as = bs
  | p :: ps, q :: qs, h, g, l, e => by
    rw [cmpTs] at e
    by_cases c : cmpT ms p q = 0
    · rw [if_neg (by omega)] at e
      rw [cmpT_zero nd p q h.1 g.1 c, cmpTs_zero nd ps qs h.2 g.2 (by simpa using l) e]
    · rw [if_pos c] at e; exact absurd e c
  | [], [], _, _, _, _ => rfl
  | [], _ :: _, _, _, l, _ => by simp at l
  | _ :: _, [], _, _, l, _ => by simp at l
end
mutual
theorem cmpT_self (ms : Ms) : ∀ a : Tt, cmpT ms a a = 0
  | .n w ps => by rw [cmpT, if_neg (by omega), if_neg (by omega), if_neg (fun z => z rfl), cmpTs_self ms ps]
  | .v _ => by rw [cmpT]
theorem cmpTs_self (ms : Ms) : ∀ as : List Tt, cmpTs ms as as = 0
  | p :: ps => by rw [cmpTs, cmpT_self ms p, if_neg (by omega), cmpTs_self ms ps]
  | [] => by rw [cmpTs]
end
/-! ### the keys -/
mutual
def keyD (ms : Ms) : Tt → PV
  | .v x => .str x
  | .n w ps => .tup (.int (1 + (Un.szs ps : Nat)) :: .int (wIdx ms w : Nat) :: keyDs ms ps)
def keyDs (ms : Ms) : List Tt → List PV
  | [] => []
  | p :: ps => keyD ms p :: keyDs ms ps
end
theorem keyDs_map (ms : Ms) : ∀ ps : List Tt, keyDs ms ps = ps.map (keyD ms)
  | [] => by rw [keyDs]; rfl
  | p :: ps => by rw [keyDs, keyDs_map ms ps]; rfl
theorem keyD_n (ms : Ms) (w : Str) (ps : List Tt) : keyD ms (.n w ps) = .tup (.int (1 + (Un.szs ps : Nat)) :: .int (wIdx ms w : Nat) :: ps.map (keyD ms)) := by rw [keyD, keyDs_map]
mutual
theorem key_plain (ms : Ms) : ∀ t : Tt, Px.plain (keyD ms t) = true
  | .v x => by rw [keyD]; rfl
  | .n w ps => by rw [keyD, Px.plain, plains, plains, keys_plain ms ps]; rfl
theorem keys_plain (ms : Ms) : ∀ ps : List Tt, plains (keyDs ms ps) = true
  | [] => by rw [keyDs]; rfl
  | p :: ps => by rw [keyDs, plains, key_plain ms p, keys_plain ms ps]; rfl
end
mutual
theorem key_dep (ms : Ms) : ∀ t : Tt, dep (keyD ms t) = Un.dp t
  | .v x => by rw [keyD, dep, Un.dp]
  | .n w ps => by
    rw [keyD, dep, deps, deps, dep, dep, keys_dep ms ps, Un.dp]; omega
theorem keys_dep (ms : Ms) : ∀ ps : List Tt, deps (keyDs ms ps) = Un.dps ps
  | [] => by rw [keyDs, deps, Un.dps]
  | p :: ps => by rw [keyDs, deps, Un.dps, key_dep ms p, keys_dep ms ps]
end
theorem key_eqOk {ms : Ms} {t : Tt} (h : Un.dp t ≤ 190) : eqOkW (keyD ms t) := ⟨key_plain ms t, by rw [key_dep]; exact h⟩
mutual
theorem key_alike {ms : Ms} : ∀ a b : Tt, gT ms a → gT ms b → PySem.W.alike (toD (keyD ms a)) (toD (keyD ms b)) = true
  | .n w ps, .n v qs, h, g => by
    rw [keyD, keyD, toD, toD, PySem.W.alike, toDs, toDs, toDs, toDs, PySem.W.alikeAll, PySem.W.alikeAll, toD, toD, toD, toD, PySem.W.alike, PySem.W.alike, keys_alike ps qs h.2 g.2]; rfl
  | .v _, _, h, _ => h.elim
  | .n _ _, .v _, _, h => h.elim
theorem keys_alike {ms : Ms} : ∀ as bs : List Tt, gTs ms as → gTs ms bs → PySem.W.alikeAll (toDs (keyDs ms as)) (toDs (keyDs ms bs)) = true
  | p :: ps, q :: qs, h, g => by
    rw [keyDs, keyDs, toDs, toDs, PySem.W.alikeAll, key_alike p q h.1 g.1, keys_alike ps qs h.2 g.2]; rfl
  | [], _, _, _ => by rw [keyDs, toDs, PySem.W.alikeAll]
  | _ :: _, [], _, _ => by rw [keyDs, keyDs, toDs, toDs, PySem.W.alikeAll]
end
mutual
theorem key_eqv {ms : Ms} (nd : (ms.map (·.1)).Nodup) : ∀ a b : Tt, gT ms a → gT ms b → (PyData.eqv (toD (keyD ms a)) (toD (keyD ms b)) = true ↔ a = b)
  | .n w ps, .n v qs, h, g => by
    rw [keyD, keyD, toD, toD, toDs, toDs, toDs, toDs, toD, toD, toD, toD, PyData.eqv, PyData.eqvAll, PyData.eqvAll, PyData.eqv, PyData.eqv]
    simp only [Bool.and_eq_true, beq_iff_eq]
    constructor
    · rintro ⟨h1, h2, h3⟩
      have e : w = v := wIdx_inj (gT_word h) (gT_word g) (by omega)
      subst e
      rw [(keys_eqv nd ps qs h.2 g.2 (ar_one nd h.1 g.1)).mp h3]
    · intro e
      injection e with e1 e2
      subst e1 e2
      exact ⟨rfl, rfl, (keys_eqv nd ps ps h.2 g.2 rfl).mpr rfl⟩
  | .v _, _, h, _ => h.elim
  | .n _ _, .v _, _, h => h.elim
theorem keys_eqv {ms : Ms} (nd : (ms.map (·.1)).Nodup) : ∀ as bs : List Tt, gTs ms as → gTs ms bs → as.length = bs.length → (PyData.eqvAll (toDs (keyDs ms as)) (toDs (keyDs ms bs)) = true ↔ as = bs)
  | p :: ps, q :: qs, h, g, l => by
    rw [keyDs, keyDs, toDs, toDs, PyData.eqvAll, Bool.and_eq_true, key_eqv nd p q h.1 g.1, keys_eqv nd ps qs h.2 g.2 (by simpa using l)]
    simp
  | [], [], _, _, _ => by rw [keyDs, toDs, PyData.eqvAll]; simp
  | [], _ :: _, _, _, l => by simp at l
  | _ :: _, [], _, _, l => by simp at l
end
mutual
theorem key_lt {ms : Ms} (nd : (ms.map (·.1)).Nodup) : ∀ a b : Tt, gT ms a → gT ms b → PySem.W.dataLt (toD (keyD ms a)) (toD (keyD ms b)) = decide (cmpT ms a b = -1)
  | .n w ps, .n v qs, h, g => by
    rw [keyD, keyD, toD, toD, toDs, toDs, toDs, toDs, toD, toD, toD, toD, PySem.W.dataLt_tuple, PySem.W.dataLt_cons (by rw [PySem.W.alike]), PySem.W.dataLt_cons (by rw [PySem.W.alike]), PyData.eqv, PyData.eqv, PySem.W.dataLt_int, PySem.W.dataLt_int, cmpT]
    by_cases h1 : Un.szs ps < Un.szs qs
    · rw [if_pos h1, if_neg (by simp; omega)]
      simp; omega
    · rw [if_neg h1]
      by_cases h2 : Un.szs qs < Un.szs ps
      · rw [if_pos h2, if_neg (by simp; omega)]
        simp; omega
      · rw [if_neg h2, if_pos (by simp; omega)]
        by_cases h3 : w = v
        · subst h3
          rw [if_neg (show ¬ (w ≠ w) from fun z => z rfl), if_pos (by simp)]
          exact keys_lt nd ps qs h.2 g.2 (ar_one nd h.1 g.1)
        · have ne : wIdx ms w ≠ wIdx ms v := fun z => h3 (wIdx_inj (gT_word h) (gT_word g) z)
          rw [if_pos h3, if_neg (by simp; omega)]
          by_cases h4 : wIdx ms w < wIdx ms v
          · rw [if_pos h4]; simp; omega
          · rw [if_neg h4]; simp; omega
  | .v _, _, h, _ => h.elim
  | .n _ _, .v _, _, h => h.elim
theorem keys_lt {ms : Ms} (nd : (ms.map (·.1)).Nodup) : ∀ as bs : List Tt, gTs ms as → gTs ms bs → as.length = bs.length → lexLt PyProof.Rows.itemOrd (PySem.W.keyToksAll (toDs (keyDs ms as))) (PySem.W.keyToksAll (toDs (keyDs ms bs))) = decide (cmpTs ms as bs = -1)
  | p :: ps, q :: qs, h, g, l => by
    rw [keyDs, keyDs, toDs, toDs, PySem.W.dataLt_cons (key_alike p q h.1 g.1), cmpTs]
    by_cases c : cmpT ms p q = 0
    · rw [if_neg (show ¬ (cmpT ms p q ≠ 0) from fun z => z c), if_pos ((key_eqv nd p q h.1 g.1).mpr (cmpT_zero nd p q h.1 g.1 c))]
      exact keys_lt nd ps qs h.2 g.2 (by simpa using l)
    · rw [if_pos c, if_neg (fun z => c (by rw [(key_eqv nd p q h.1 g.1).mp z]; exact cmpT_self ms q)), key_lt nd p q h.1 g.1]
  | [], [], _, _, _ => by
    rw [cmpTs]
    exact PyProof.Rows.lex_irrefl _
  | [], _ :: _, _, _, l => by simp at l
  | _ :: _, [], _, _, l => by simp at l
end

end Lw
set_option maxHeartbeats 4000000
namespace Lw
open PySem L2 PyProof.Rows Px
local macro_rules | `(tactic| walk_at "px") => `(tactic| simp -dsimp only [qVar, qK, qNil, qCons, qTup, qLst, vals, looks, R.look, R.wk, qCB, qB, qOp2, qTru, truG, qAnd, qOr, qNot, qAndV, qOrV, qNotV, qIfE, qNo, qPart, qSl, gSl, qIt, qRng1, qRng2, qgN, qgNil, qgCons, qgT, notIo_zero, notIo_succ, notIo_nil', slOk_un, slOk_val, slOk_own, slOk_pl, slOk_pd, notIos_nil, notIos_cons, qYes, qLc, qNext, qSeq, qBreak, qCont, qFrz, frz, qDrop, retG, qRet, qRetN, qIf, qSet, qOwn, qAsg, qFor, qMut, ownTy, gAppend, gExtend, gPop, isOwn, qSetIx, qCall, splitArgs, putOuts, setOwn, finOk, endsOf, mk, outsOf, uns,
  gAdd, gInt, gInt0, gEq, gNe, gIn, gNotIn, gIs, gIsNot, Px.isNon, gIx, getP, gLen, gAbs, gIntC, gSum, gMax, gMax2, gMinT, gAll, gAny, gList, gTuple, gIsi, qNeg, qDict0, wipeE, lcGo_nil, br_t, br_f, atI_0, atI_1, atI_2, atI_3, ixN_0, ixN_1, ixN_2, ixN_3, List.length_map, List.length_set, cut_from1, isTy, tyN, gIsiT, asTys, gListD, keyP, isDic, qGet1, qGet2, qLZ, gZip, qPairs, mergeP, qDisp, gDictC, gStr, qChain, qPar, qAug, qMeth, tyIs, gIndex, qLcK, qDc, qDcK, dicAt, qForK, qZipI, qCallB, qCallF, splitB, Option.isSome_some, Option.isSome_none, isEmp_concat, List.getLast?_concat, List.dropLast_concat, List.isEmpty_nil, gEqX, gNeX, List.any_cons, List.any_nil, tyOk_str, tyOk_tuple, tyOk_int, tyOk_bool, tyOk_list, tyOk_dict, Option.map_some, Option.map_none,
  eqOk_str, eqOk_int, eqOk_bl, eqOk_non, eqOkW_str, eqOkW_int, eqOkW_bl, eqOkW_non, gEqW, gNeW, qVals, ownDic, qLc2, gLtX, gGtX, gSortX, peq_str, peq_int, peq_bl, List.getElem?_cons_zero, List.getElem?_cons_succ, List.getElem?_nil, List.set_cons_zero, List.set_cons_succ, List.zipWith_cons_cons, List.zipWith_nil_left, List.replicate_succ, List.replicate_zero, List.cons_append, List.nil_append, List.length_cons, List.length_nil, List.map_cons, List.map_nil, ↓reduceIte, Bool.false_eq_true, and_true, true_and, Bool.not_true, Bool.not_false, Nat.reduceAdd, Nat.reduceLT, Nat.reduceLeDiff, Nat.zero_lt_succ, Nat.lt_add_one, ne_eq, not_true_eq_false, not_false_eq_true, String.reduceEq, String.reduceBEq, Bool.or_false, Bool.false_or, Bool.or_true, Bool.true_or, Bool.and_false, Bool.and_true, Bool.false_and, Bool.true_and, reduceCtorEq])
/-! ### the first trees, row by row -/
def rowM (rows : List (List Tt)) (n : Nat) (m : Str × Nat) : List Tt :=
  if m.2 = 0 then (if n = 1 then [.n m.1 []] else [])
  else if m.2 = 1 then (rows.getD (n - 1) []).map fun a => .n m.1 [a]
  else if m.2 = 2 then (List.range' 1 (n - 2)).flatMap fun l => (rows.getD l []).flatMap fun a => (rows.getD (n - 1 - l) []).map fun b => .n m.1 [a, b]
  else []
def rowOf (ms : Ms) (rows : List (List Tt)) (n : Nat) : List Tt := ms.flatMap (rowM rows n)
abbrev Asc (ms : Ms) (l : List Tt) : Prop := l.Pairwise fun a b => cmpT ms a b = -1
structure RowsIn (ms : Ms) (rows : List (List Tt)) : Prop where
  pw : ∀ i, Asc ms (rows.getD i [])
  el : ∀ i, ∀ t ∈ rows.getD i [], Un.sz t = i ∧ gT ms t
theorem cmp_sz {ms : Ms} : ∀ {a b : Tt}, gT ms a → gT ms b → Un.sz a < Un.sz b → cmpT ms a b = -1
  | .n w ps, .n v qs, _, _, h => by rw [Un.sz, Un.sz] at h; rw [cmpT, if_pos (by omega)]
  | .v _, _, h, _, _ => h.elim
  | .n _ _, .v _, _, h, _ => h.elim
theorem cmp_word {ms : Ms} {w v : Str} {ps qs : List Tt} (h : Un.sz (.n w ps) = Un.sz (.n v qs)) (hw : wIdx ms w < wIdx ms v) : cmpT ms (.n w ps) (.n v qs) = -1 := by
  rw [Un.sz, Un.sz] at h
  rw [cmpT, if_neg (by omega), if_neg (by omega), if_pos (fun z => by rw [z] at hw; omega), if_pos hw]
theorem cmp_same {ms : Ms} {w : Str} {ps qs : List Tt} (h : Un.sz (.n w ps) = Un.sz (.n w qs)) : cmpT ms (.n w ps) (.n w qs) = cmpTs ms ps qs := by
  rw [Un.sz, Un.sz] at h
  rw [cmpT, if_neg (by omega), if_neg (by omega), if_neg (fun z => z rfl)]
theorem cmps_first {ms : Ms} {a b : Tt} {ps qs : List Tt} (h : cmpT ms a b = -1) : cmpTs ms (a :: ps) (b :: qs) = -1 := by rw [cmpTs, if_pos (by omega), h]
theorem cmps_next {ms : Ms} {a : Tt} {ps qs : List Tt} : cmpTs ms (a :: ps) (a :: qs) = cmpTs ms ps qs := by rw [cmpTs, if_neg (by rw [cmpT_self]; omega)]
theorem wIdx_pw : ∀ {ms : Ms}, (ms.map (·.1)).Nodup → ms.Pairwise fun a b => wIdx ms a.1 < wIdx ms b.1
  | [], _ => .nil
  | m :: ms, h => by
    rw [List.map_cons, List.nodup_cons] at h
    have ne : ∀ b ∈ ms, ¬ m.1 = b.1 := fun b hb z => h.1 (List.mem_map.mpr ⟨b, hb, z.symm⟩)
    refine .cons (fun b hb => ?_) ((wIdx_pw h.2).imp_of_mem fun {a b} ha hb q => ?_)
    · unfold wIdx
      rw [if_pos rfl, if_neg (ne b hb)]; omega
    · unfold wIdx
      rw [if_neg (ne a ha), if_neg (ne b hb)]; omega
theorem rowM_el {ms : Ms} {rows : List (List Tt)} (R : RowsIn ms rows) {n : Nat} {m : Str × Nat} (hm : m ∈ ms) (hn : 1 ≤ n) : ∀ t ∈ rowM rows n m, ∃ ps, t = .n m.1 ps ∧ Un.sz t = n ∧ gT ms t := fun t ht => by
  unfold rowM at ht
  obtain ⟨w, k⟩ := m
  simp only at ht
  by_cases h0 : k = 0
  · subst h0
    rw [if_pos rfl] at ht
    by_cases h1 : n = 1
    · rw [if_pos h1, List.mem_singleton] at ht
      subst ht
      exact ⟨[], rfl, by rw [Un.sz, Un.szs]; omega, hm, trivial⟩
    · rw [if_neg h1] at ht; cases ht
  · rw [if_neg h0] at ht
    by_cases h1 : k = 1
    · subst h1
      rw [if_pos rfl] at ht
      obtain ⟨a, ha, rfl⟩ := List.mem_map.mp ht
      obtain ⟨s, g⟩ := R.el _ a ha
      exact ⟨[a], rfl, by rw [Un.sz, Un.szs, Un.szs, s]; omega, hm, g, trivial⟩
    · rw [if_neg h1] at ht
      by_cases h2 : k = 2
      · subst h2
        rw [if_pos rfl] at ht
        obtain ⟨l, hl, ht⟩ := List.mem_flatMap.mp ht
        obtain ⟨a, ha, ht⟩ := List.mem_flatMap.mp ht
        obtain ⟨b, hb, rfl⟩ := List.mem_map.mp ht
        obtain ⟨s, g⟩ := R.el _ a ha
        obtain ⟨s2, g2⟩ := R.el _ b hb
        rw [List.mem_range'_1] at hl
        exact ⟨[a, b], rfl, by rw [Un.sz, Un.szs, Un.szs, Un.szs, s, s2]; omega, hm, g, g2, trivial⟩
      · rw [if_neg h2] at ht; cases ht
theorem rowM_pw {ms : Ms} {rows : List (List Tt)} (R : RowsIn ms rows) {n : Nat} {m : Str × Nat} (hm : m ∈ ms) (hn : 1 ≤ n) : Asc ms (rowM rows n m) := by
  have el := rowM_el R hm hn
  unfold rowM at el ⊢
  obtain ⟨w, k⟩ := m
  simp only at el ⊢
  by_cases h0 : k = 0
  · rw [if_pos h0]
    by_cases h1 : n = 1
    · rw [if_pos h1]; exact List.pairwise_singleton _ _
    · rw [if_neg h1]; exact .nil
  · rw [if_neg h0] at el ⊢
    by_cases h1 : k = 1
    · rw [if_pos h1] at el ⊢
      refine List.pairwise_map.mpr ((R.pw (n - 1)).imp_of_mem fun {a b} ha hb h => ?_)
      obtain ⟨_, _, s1, _⟩ := el _ (List.mem_map.mpr ⟨a, ha, rfl⟩)
      obtain ⟨_, _, s2, _⟩ := el _ (List.mem_map.mpr ⟨b, hb, rfl⟩)
      rw [cmp_same (s1.trans s2.symm)]
      exact cmps_first h
    · rw [if_neg h1] at el ⊢
      by_cases h2 : k = 2
      · rw [if_pos h2] at el ⊢
        have sz : ∀ l ∈ List.range' 1 (n - 2), ∀ a ∈ rows.getD l [], ∀ b ∈ rows.getD (n - 1 - l) [], Un.sz (.n w [a, b]) = n := fun l hl a ha b hb => by
          obtain ⟨_, _, s1, _⟩ := el _ (List.mem_flatMap.mpr ⟨l, hl, List.mem_flatMap.mpr ⟨a, ha, List.mem_map.mpr ⟨b, hb, rfl⟩⟩⟩)
          exact s1
        refine List.pairwise_flatMap.mpr ⟨fun l hl => List.pairwise_flatMap.mpr ⟨fun a ha => List.pairwise_map.mpr ((R.pw _).imp_of_mem fun {b b'} hb hb' h => ?_), (R.pw l).imp_of_mem fun {a a'} ha ha' h x hx y hy => ?_⟩, (List.pairwise_lt_range' (n := n - 2) (s := 1)).imp_of_mem fun {l l'} hl hl' h x hx y hy => ?_⟩
        · rw [cmp_same ((sz l hl a ha b hb).trans (sz l hl a ha b' hb').symm), cmps_next]
          exact cmps_first h
        · obtain ⟨b, hb, rfl⟩ := List.mem_map.mp hx
          obtain ⟨b', hb', rfl⟩ := List.mem_map.mp hy
          rw [cmp_same ((sz l hl a ha b hb).trans (sz l hl a' ha' b' hb').symm)]
          exact cmps_first h
        · obtain ⟨a, ha, hx⟩ := List.mem_flatMap.mp hx
          obtain ⟨b, hb, rfl⟩ := List.mem_map.mp hx
          obtain ⟨a', ha', hy⟩ := List.mem_flatMap.mp hy
          obtain ⟨b', hb', rfl⟩ := List.mem_map.mp hy
          rw [cmp_same ((sz l hl a ha b hb).trans (sz l' hl' a' ha' b' hb').symm)]
          obtain ⟨s1, g1⟩ := R.el _ a ha
          obtain ⟨s2, g2⟩ := R.el _ a' ha'
          exact cmps_first (cmp_sz g1 g2 (by omega))
      · rw [if_neg h2]; exact .nil
theorem rowOf_el {ms : Ms} {rows : List (List Tt)} (R : RowsIn ms rows) {n : Nat} (hn : 1 ≤ n) : ∀ t ∈ rowOf ms rows n, Un.sz t = n ∧ gT ms t := fun t ht => by
  obtain ⟨m, hm, ht⟩ := List.mem_flatMap.mp ht
  obtain ⟨_, _, h1, h2⟩ := rowM_el R hm hn t ht
  exact ⟨h1, h2⟩
theorem rowOf_pw {ms : Ms} (nd : (ms.map (·.1)).Nodup) {rows : List (List Tt)} (R : RowsIn ms rows) {n : Nat} (hn : 1 ≤ n) : Asc ms (rowOf ms rows n) := by
  refine List.pairwise_flatMap.mpr ⟨fun m hm => rowM_pw R hm hn, (wIdx_pw nd).imp_of_mem fun {m m'} hm hm' h x hx y hy => ?_⟩
  obtain ⟨ps, e1, s1, _⟩ := rowM_el R hm hn x hx
  obtain ⟨qs, e2, s2, _⟩ := rowM_el R hm' hn y hy
  subst e1 e2
  exact cmp_word (s1.trans s2.symm) h
theorem getD_app {α : Type} (l m : List α) (i : Nat) (d : α) : (l ++ m).getD i d = if i < l.length then l.getD i d else m.getD (i - l.length) d := by
  rw [List.getD_eq_getElem?_getD, List.getD_eq_getElem?_getD, List.getD_eq_getElem?_getD]
  by_cases h : i < l.length
  · rw [if_pos h, List.getElem?_append_left h]
  · rw [if_neg h, List.getElem?_append_right (by omega)]
theorem RowsIn.snoc {ms : Ms} (nd : (ms.map (·.1)).Nodup) {rows : List (List Tt)} (R : RowsIn ms rows) (hn : 1 ≤ rows.length) : RowsIn ms (rows ++ [rowOf ms rows rows.length]) := by
  have key : ∀ i, (rows ++ [rowOf ms rows rows.length]).getD i [] = if i < rows.length then rows.getD i [] else if i = rows.length then rowOf ms rows rows.length else [] := fun i => by
    rw [getD_app]
    by_cases h : i < rows.length
    · rw [if_pos h, if_pos h]
    · rw [if_neg h, if_neg h]
      by_cases h2 : i = rows.length
      · rw [if_pos h2, h2, Nat.sub_self]; rfl
      · rw [if_neg h2]
        have : ∃ j, i - rows.length = j + 1 := ⟨i - rows.length - 1, by omega⟩
        obtain ⟨j, e⟩ := this
        rw [e]; rfl
  constructor
  · intro i
    rw [key]
    by_cases h : i < rows.length
    · rw [if_pos h]; exact R.pw i
    · rw [if_neg h]
      by_cases h2 : i = rows.length
      · rw [if_pos h2]; exact rowOf_pw nd R hn
      · rw [if_neg h2]; exact .nil
  · intro i t ht
    rw [key] at ht
    by_cases h : i < rows.length
    · rw [if_pos h] at ht; exact R.el i t ht
    · rw [if_neg h] at ht
      by_cases h2 : i = rows.length
      · rw [if_pos h2] at ht
        have := rowOf_el R hn t ht
        exact ⟨by rw [h2]; exact this.1, this.2⟩
      · rw [if_neg h2] at ht; cases ht
def allRows (ms : Ms) : Nat → List (List Tt)
  | 0 => [[]]
  | n + 1 => allRows ms n ++ [rowOf ms (allRows ms n) (n + 1)]
def row (ms : Ms) (n : Nat) : List Tt := rowOf ms (allRows ms n) (n + 1)
def fnd (ms : Ms) (n : Nat) : List Tt := (allRows ms n).flatten
theorem allRows_len (ms : Ms) : ∀ n, (allRows ms n).length = n + 1
  | 0 => rfl
  | n + 1 => by rw [allRows, List.length_append, allRows_len ms n]; rfl
theorem allRows_in {ms : Ms} (nd : (ms.map (·.1)).Nodup) : ∀ n, RowsIn ms (allRows ms n)
  | 0 => by
    have : ∀ i, ([[]] : List (List Tt)).getD i [] = [] := fun i => by cases i <;> rfl
    exact ⟨fun i => by rw [allRows, this]; exact .nil, fun i t ht => by rw [allRows, this] at ht; cases ht⟩
  | n + 1 => by
    have h := (allRows_in nd n).snoc nd (by rw [allRows_len]; omega)
    rw [allRows_len] at h
    rw [allRows]; exact h
theorem fnd_succ (ms : Ms) (n : Nat) : fnd ms (n + 1) = fnd ms n ++ row ms n := by
  unfold fnd row
  rw [allRows, List.flatten_append, List.flatten_singleton]
theorem row_pw {ms : Ms} (nd : (ms.map (·.1)).Nodup) (n : Nat) : Asc ms (row ms n) := rowOf_pw nd (allRows_in nd n) (by omega)
theorem row_el {ms : Ms} (nd : (ms.map (·.1)).Nodup) (n : Nat) : ∀ t ∈ row ms n, Un.sz t = n + 1 ∧ gT ms t := rowOf_el (allRows_in nd n) (by omega)
theorem fnd_el {ms : Ms} (nd : (ms.map (·.1)).Nodup) : ∀ n, ∀ t ∈ fnd ms n, Un.sz t ≤ n ∧ gT ms t
  | 0, t, h => by cases h
  | n + 1, t, h => by
    rw [fnd_succ] at h
    rcases List.mem_append.mp h with h | h
    · have := fnd_el nd n t h; exact ⟨by omega, this.2⟩
    · have := row_el nd n t h; exact ⟨by omega, this.2⟩
theorem fnd_pw {ms : Ms} (nd : (ms.map (·.1)).Nodup) : ∀ n, Asc ms (fnd ms n)
  | 0 => .nil
  | n + 1 => by
    rw [fnd_succ]
    refine List.pairwise_append.mpr ⟨fnd_pw nd n, row_pw nd n, fun a ha b hb => ?_⟩
    have h1 := fnd_el nd n a ha
    have h2 := row_el nd n b hb
    exact cmp_sz h1.2 h2.2 (by omega)
theorem fnd_pre (ms : Ms) (n : Nat) : ∀ k, ∃ l, fnd ms (n + k) = fnd ms n ++ l
  | 0 => ⟨[], by simp⟩
  | k + 1 => by
    obtain ⟨l, e⟩ := fnd_pre ms n k
    exact ⟨l ++ row ms (n + k), by rw [← Nat.add_assoc, fnd_succ, e, List.append_assoc]⟩
theorem take_far {ms : Ms} {n N many : Nat} (h : n ≤ N) (l : many ≤ (fnd ms n).length) : (fnd ms N).take many = (fnd ms n).take many := by
  obtain ⟨r, e⟩ := fnd_pre ms n (N - n)
  rw [show n + (N - n) = N by omega] at e
  rw [e, List.take_append_of_le_length l]
theorem allRows_at (ms : Ms) : ∀ n i, i < n → (allRows ms n).getD (i + 1) [] = row ms i
  | 0, i, h => by omega
  | n + 1, i, h => by
    rw [allRows, getD_app, allRows_len]
    by_cases e : i + 1 < n + 1
    · rw [if_pos e]; exact allRows_at ms n i (by omega)
    · rw [if_neg e]
      have : i = n := by omega
      subst this
      rw [Nat.sub_self]; rfl
/-- while there is a maker with parts, every second row holds a tree -/
theorem row_odd {ms : Ms} (hm : MsOk ms) (he : ∃ m ∈ ms, 0 < m.2) : ∀ k, row ms (2 * k) ≠ []
  | 0 => by
    have : Un.Tm.n (Str.ofString "zero") [] ∈ row ms 0 := by
      refine List.mem_flatMap.mpr ⟨_, hm.zero, ?_⟩
      unfold rowM
      rw [if_pos rfl, if_pos rfl]; exact List.mem_singleton_self _
    intro z
    have this' : Un.Tm.n (Str.ofString "zero") [] ∈ row ms (2 * 0) := this
    rw [z] at this'; cases this'
  | k + 1 => by
    obtain ⟨⟨w, j⟩, hw, hj⟩ := he
    have h2 := hm.two _ hw
    simp only at hj h2
    have ih := row_odd hm ⟨⟨w, j⟩, hw, hj⟩ k
    obtain ⟨b, hb⟩ := List.exists_mem_of_ne_nil _ ih
    have key : ∀ (n : Nat), row ms n ≠ [] → j = 1 → row ms (n + 1) ≠ [] := fun n hn e z => by
      obtain ⟨a, ha⟩ := List.exists_mem_of_ne_nil _ hn
      have : Un.Tm.n w [a] ∈ row ms (n + 1) := by
        refine List.mem_flatMap.mpr ⟨_, hw, ?_⟩
        unfold rowM
        rw [if_neg (show ¬ j = 0 by omega), if_pos e]
        refine List.mem_map.mpr ⟨a, ?_, rfl⟩
        rw [show n + 1 + 1 - 1 = n + 1 by omega, allRows_at ms (n + 1) n (by omega)]
        exact ha
      rw [z] at this; cases this
    rcases (show j = 1 ∨ j = 2 by omega) with e | e
    · have := key (2 * k + 1) (key (2 * k) ih e) e
      rw [show 2 * (k + 1) = 2 * k + 1 + 1 by omega]; exact this
    · intro z
      have z0 : Un.Tm.n (Str.ofString "zero") [] ∈ row ms 0 := by
        refine List.mem_flatMap.mpr ⟨_, hm.zero, ?_⟩
        unfold rowM
        rw [if_pos rfl, if_pos rfl]; exact List.mem_singleton_self _
      have : Un.Tm.n w [.n (Str.ofString "zero") [], b] ∈ row ms (2 * (k + 1)) := by
        refine List.mem_flatMap.mpr ⟨_, hw, ?_⟩
        unfold rowM
        rw [if_neg (show ¬ j = 0 by omega), if_neg (show ¬ j = 1 by omega), if_pos e]
        refine List.mem_flatMap.mpr ⟨1, by rw [List.mem_range'_1]; omega, List.mem_flatMap.mpr ⟨_, ?_, List.mem_map.mpr ⟨b, ?_, rfl⟩⟩⟩
        · rw [allRows_at ms (2 * (k + 1)) 0 (by omega)]; exact z0
        · rw [show 2 * (k + 1) + 1 - 1 - 1 = 2 * k + 1 by omega, allRows_at ms (2 * (k + 1)) (2 * k) (by omega)]; exact hb
      rw [z] at this; cases this
theorem fnd_long {ms : Ms} (hm : MsOk ms) (he : ∃ m ∈ ms, 0 < m.2) : ∀ k, k ≤ (fnd ms (2 * k)).length
  | 0 => Nat.zero_le _
  | k + 1 => by
    have ih := fnd_long hm he k
    have h := List.length_pos_iff.mpr (row_odd hm he k)
    rw [show 2 * (k + 1) = 2 * k + 1 + 1 by omega, fnd_succ, fnd_succ, List.length_append, List.length_append]
    omega
theorem fnd_long2 {ms : Ms} (hm : MsOk ms) (he : ∃ m ∈ ms, 0 < m.2) {n : Nat} (hn : 80 ≤ n) : 40 ≤ (fnd ms n).length := by
  obtain ⟨l, e⟩ := fnd_pre ms 80 (n - 80)
  rw [show 80 + (n - 80) = n by omega] at e
  have := fnd_long hm he 40
  rw [e, List.length_append]
  have h : (fnd ms (2 * 40)).length = (fnd ms 80).length := rfl
  omega
theorem flat_le {α β : Type} {B : Nat} {f : α → List β} : ∀ l : List α, (∀ x ∈ l, (f x).length ≤ B) → (l.flatMap f).length ≤ l.length * B
  | [], _ => by simp
  | x :: l, h => by
    have h1 := h x List.mem_cons_self
    have h2 := flat_le l fun y hy => h y (List.mem_cons_of_mem _ hy)
    rw [List.flatMap_cons, List.length_append, List.length_cons, Nat.succ_mul]; omega
theorem row0 {ms : Ms} (h0 : ¬ ∃ m ∈ ms, 0 < m.2) (n : Nat) : row ms (n + 1) = [] := by
  unfold row rowOf
  rw [List.flatMap_eq_nil_iff]
  intro m hm
  have : m.2 = 0 := Nat.eq_zero_of_not_pos fun z => h0 ⟨m, hm, z⟩
  unfold rowM
  rw [if_pos this, if_neg (by omega)]
theorem fnd0 {ms : Ms} (h0 : ¬ ∃ m ∈ ms, 0 < m.2) : ∀ n, fnd ms (n + 1) = fnd ms 1
  | 0 => rfl
  | n + 1 => by rw [fnd_succ, row0 h0, List.append_nil, fnd0 h0 n]
theorem inner_le {rows : List (List Tt)} {n : Nat} (h : ∀ i, (rows.getD i []).length ≤ 40) (hn : n ≤ 90) (m : Str × Nat) : (rowM rows n m).length ≤ 144000 := by
  unfold rowM
  by_cases h0 : m.2 = 0
  · rw [if_pos h0]
    by_cases h1 : n = 1
    · rw [if_pos h1]; simp
    · rw [if_neg h1]; simp
  · rw [if_neg h0]
    by_cases h1 : m.2 = 1
    · rw [if_pos h1, List.length_map]; have := h (n - 1); omega
    · rw [if_neg h1]
      by_cases h2 : m.2 = 2
      · rw [if_pos h2]
        have := flat_le (B := 40 * 40) (f := fun l => (rows.getD l []).flatMap fun a => (rows.getD (n - 1 - l) []).map fun b => Un.Tm.n m.1 [a, b]) (List.range' 1 (n - 2)) fun l hl => by
          have := flat_le (B := 40) (f := fun a => (rows.getD (n - 1 - l) []).map fun b => Un.Tm.n m.1 [a, b]) (rows.getD l []) fun a ha => by rw [List.length_map]; exact h _
          have h3 := h l
          have : (rows.getD l []).length * 40 ≤ 40 * 40 := Nat.mul_le_mul_right _ h3
          omega
        rw [List.length_range'] at this
        have h4 : (n - 2) * (40 * 40) ≤ 90 * (40 * 40) := Nat.mul_le_mul_right _ (by omega)
        omega
      · rw [if_neg h2]; simp
theorem row_len {ms : Ms} {n i : Nat} (h : (fnd ms n).length < 40) : ((allRows ms n).getD i []).length ≤ 40 := by
  rcases Nat.lt_or_ge i (allRows ms n).length with l | l
  · have : ∀ (rows : List (List Tt)) (i : Nat), (rows.getD i []).length ≤ rows.flatten.length := by
      intro rows
      induction rows with
      | nil => intro i; cases i <;> simp
      | cons r rows ih =>
        intro i
        rw [List.flatten_cons, List.length_append]
        cases i with
        | zero => simp
        | succ i => have := ih i; simp only [List.getD_cons_succ]; omega
    have := this (allRows ms n) i
    unfold fnd at h
    omega
  · rw [List.getD_eq_getElem?_getD, List.getElem?_eq_none l]; simp
theorem rowOf_len {ms : Ms} (hm : MsOk ms) {n : Nat} (h : (fnd ms n).length < 40) (hn : n < 90) : (rowOf ms (allRows ms n) (n + 1)).length ≤ 720000 := by
  have := flat_le (B := 144000) (f := rowM (allRows ms n) (n + 1)) ms fun m _ => inner_le (fun i => row_len h) (by omega) m
  have h5 := hm.len
  have : ms.length * 144000 ≤ 5 * 144000 := Nat.mul_le_mul_right _ h5
  unfold rowOf
  omega

end Lw
set_option maxHeartbeats 4000000
namespace Lw
open PySem L2 PyProof.Rows Px
def S_sz (n : Nat) : FS := { io := [false], pre := fun ps => ∃ (ms : Ms) (t : Tt), ps = [encT t] ∧ MsOk ms ∧ gT ms t ∧ Un.dp t < n, post := fun ps r _ => ∀ t : Tt, ps = [encT t] → r = .int (Un.sz t : Nat) }
theorem S_sz_fr (n : Nat) : (S_sz n).fr = false := rfl
theorem S_sz_io (n : Nat) : (S_sz n).io = [false] := rfl
def S_ord (n : Nat) : FS := { io := [false, false, false], pre := fun ps => ∃ (ms : Ms) (a b : Tt), ps = [encMs ms, encT a, encT b] ∧ MsOk ms ∧ gT ms a ∧ gT ms b ∧ Un.dp a < n ∧ Un.dp a ≤ 95 ∧ Un.dp b ≤ 95, post := fun ps r _ => ∀ (ms : Ms) (a b : Tt), ps = [encMs ms, encT a, encT b] → r = .int (cmpT ms a b) }
theorem S_ord_fr (n : Nat) : (S_ord n).fr = false := rfl
theorem S_ord_io (n : Nat) : (S_ord n).io = [false, false, false] := rfl
def S_key (n : Nat) : FS := { io := [false, false], pre := fun ps => ∃ (ms : Ms) (t : Tt), ps = [encMs ms, encT t] ∧ MsOk ms ∧ gT ms t ∧ Un.dp t < n, post := fun ps r _ => ∀ (ms : Ms) (t : Tt), ps = [encMs ms, encT t] → r = keyD ms t }
theorem S_key_fr (n : Nat) : (S_key n).fr = false := rfl
theorem S_key_io (n : Nat) : (S_key n).io = [false, false] := rfl
theorem asInts_map : ∀ bs : List Int, asInts (bs.map PV.int) = some bs
  | [] => rfl
  | b :: bs => by rw [List.map_cons, asInts, asInts_map bs]; rfl
local macro_rules | `(tactic| walk_at "px") => `(tactic| simp -dsimp only [qVar, qK, qNil, qCons, qTup, qLst, vals, looks, R.look, R.wk, qCB, qB, qOp2, qTru, truG, qAnd, qOr, qNot, qAndV, qOrV, qNotV, qIfE, qNo, qPart, qSl, gSl, qIt, qRng1, qRng2, qgN, qgNil, qgCons, qgT, notIo_zero, notIo_succ, notIo_nil', slOk_un, slOk_val, slOk_own, slOk_pl, slOk_pd, notIos_nil, notIos_cons, qYes, qLc, qNext, qSeq, qBreak, qCont, qFrz, frz, qDrop, retG, qRet, qRetN, qIf, qSet, qOwn, qAsg, qFor, qMut, ownTy, gAppend, gExtend, gPop, isOwn, qSetIx, qCall, splitArgs, putOuts, setOwn, finOk, endsOf, mk, outsOf, uns,
  gAdd, gInt, gInt0, gEq, gNe, gIn, gNotIn, gIs, gIsNot, Px.isNon, gIx, getP, gLen, gAbs, gIntC, gSum, gMax, gMax2, gMinT, gAll, gAny, gList, gTuple, gIsi, qNeg, qDict0, wipeE, lcGo_nil, br_t, br_f, atI_0, atI_1, atI_2, atI_3, ixN_0, ixN_1, ixN_2, ixN_3, List.length_map, List.length_set, cut_from1, isTy, tyN, gIsiT, asTys, gListD, keyP, isDic, qGet1, qGet2, qLZ, gZip, qPairs, mergeP, qDisp, gDictC, gStr, qChain, qPar, qAug, qMeth, tyIs, gIndex, qLcK, qDc, qDcK, dicAt, qForK, qZipI, qCallB, qCallF, splitB, Option.isSome_some, Option.isSome_none, isEmp_concat, List.getLast?_concat, List.dropLast_concat, List.isEmpty_nil, gEqX, gNeX, List.any_cons, List.any_nil, tyOk_str, tyOk_tuple, tyOk_int, tyOk_bool, tyOk_list, tyOk_dict, Option.map_some, Option.map_none,
  eqOk_str, eqOk_int, eqOk_bl, eqOk_non, eqOkW_str, eqOkW_int, eqOkW_bl, eqOkW_non, gEqW, gNeW, qVals, ownDic, qLc2, gLtX, gGtX, gSortX, peq_str, peq_int, peq_bl, List.getElem?_cons_zero, List.getElem?_cons_succ, List.getElem?_nil, List.set_cons_zero, List.set_cons_succ, List.zipWith_cons_cons, List.zipWith_nil_left, List.replicate_succ, List.replicate_zero, List.cons_append, List.nil_append, List.length_cons, List.length_nil, List.map_cons, List.map_nil, ↓reduceIte, Bool.false_eq_true, and_true, true_and, Bool.not_true, Bool.not_false, Nat.reduceAdd, Nat.reduceLT, Nat.reduceLeDiff, Nat.zero_lt_succ, Nat.lt_add_one, ne_eq, not_true_eq_false, not_false_eq_true, String.reduceEq, String.reduceBEq, Bool.or_false, Bool.false_or, Bool.or_true, Bool.true_or, Bool.and_false, Bool.and_true, Bool.false_and, Bool.true_and, reduceCtorEq, S_sz_fr, S_sz_io, S_ord_fr, S_ord_io, S_key_fr, S_key_io, asInts_map])
theorem map_cons_inv {α β : Type} {f : α → β} {q : β} {qs : List β} {rest : List α} (h : q :: qs = rest.map f) : ∃ t r, rest = t :: r ∧ q = f t ∧ qs = r.map f := by
  cases rest with
  | nil => cases h
  | cons t r => rw [List.map_cons] at h; injection h with h1 h2; exact ⟨t, r, rfl, h1, h2⟩
theorem encT_n (w : Str) (ps : List Tt) : encT (.n w ps) = .tup (.str w :: ps.map encT) := by rw [encT, encTs_map]
theorem sz_i {n : Nat} {ρ : En} {ms : Ms} {t : Tt} {Q : PK1} {dm : Dum Q} (hm : MsOk ms) (h : gT ms t) (hn : Un.dp t < n) (k : Q (.pv (.int (Un.sz t : Nat))) ρ) : callR (S_sz n) [.pv (encT t)] ρ Q dm :=
  call_p (ps := [encT t]) rfl rfl ⟨ms, t, rfl, hm, h, hn⟩ fun r hp => by rw [hp _ rfl]; exact k
theorem ord_i {n : Nat} {ρ : En} {ms : Ms} {a b : Tt} {Q : PK1} {dm : Dum Q} (hm : MsOk ms) (h : gT ms a) (g : gT ms b) (hn : Un.dp a < n) (ha : Un.dp a ≤ 95) (hb : Un.dp b ≤ 95) (k : Q (.pv (.int (cmpT ms a b))) ρ) : callR (S_ord n) [.pv (encMs ms), .pv (encT a), .pv (encT b)] ρ Q dm :=
  call_p (ps := [encMs ms, encT a, encT b]) rfl rfl ⟨ms, a, b, rfl, hm, h, g, hn, ha, hb⟩ fun r hp => by rw [hp _ _ _ rfl]; exact k
theorem key_i {n : Nat} {ρ : En} {ms : Ms} {t : Tt} {Q : PK1} {dm : Dum Q} (hm : MsOk ms) (h : gT ms t) (hn : Un.dp t < n) (k : Q (.pv (keyD ms t)) ρ) : callR (S_key n) [.pv (encMs ms), .pv (encT t)] ρ Q dm :=
  call_p (ps := [encMs ms, encT t]) rfl rfl ⟨ms, t, rfl, hm, h, hn⟩ fun r hp => by rw [hp _ _ rfl]; exact k
theorem gT_part {ms : Ms} {w : Str} {ps : List Tt} (h : gT ms (.n w ps)) : ∀ p ∈ ps, gT ms p := (gTs_iff ms ps).mp h.2
theorem gT_len {ms : Ms} (hm : MsOk ms) {w : Str} {ps : List Tt} (h : gT ms (.n w ps)) : ps.length ≤ 2 := hm.two _ h.1
theorem dp_part {w : Str} {ps : List Tt} {n : Nat} (h : Un.dp (.n w ps) < n + 1) : ∀ p ∈ ps, Un.dp p < n := fun p hp => by
  have := Un.dps_mem hp
  rw [Un.dp] at h; omega
theorem idx_words {w : Str} : ∀ {ms : Ms}, w ∈ ms.map (·.1) → idxP (.str w) (ms.map fun m => PV.str m.1) = some (wIdx ms w)
  | [], h => by simp at h
  | m :: ms, h => by
    rw [List.map_cons, idxP, wIdx, peq_str]
    by_cases e : m.1 = w
    · rw [if_pos (by simp [e]), if_pos e]
    · rw [List.map_cons, List.mem_cons] at h
      rw [if_neg (by simp [e]), if_neg e, idx_words (h.resolve_left fun z => e z.symm)]; rfl
theorem sumI_map (f : Tt → Int) : ∀ ps : List Tt, (ps.map f).foldr (· + ·) 0 = (ps.map f).sum := fun ps => rfl
theorem szs_sum : ∀ ps : List Tt, ((ps.map fun t => ((Un.sz t : Nat) : Int)).sum) = ((Un.szs ps : Nat) : Int)
  | [] => by rw [Un.szs]; rfl
  | p :: ps => by rw [List.map_cons, List.sum_cons, szs_sum ps, Un.szs]; omega
section
variable {P : Program} {w : World} {K : PySem.W.Frag} {mg : Str → Option Value} {base : Heap}
theorem ok_sz (T : Txt K mg) : ∀ n : Nat, Has P w K mg base "size" n ["term"] (S_sz n)
  | 0 => by
    refine (Px.has_none T.d_size (fun F => F.binds (ps := ["term"]) fun _ _ _ _ _ _ us hl => match us, hl with | [_], _ => rfl) fun pvs h => ?_ : Has P w K mg base "size" 0 _ _)
    obtain ⟨_, _, _, _, _, h⟩ := h
    omega
  | n + 1 => by
    refine dv_size T (ok_sz T n) (S_sz (n + 1)) rfl fun pvs lp pre => ?_
    obtain ⟨ms, t, rfl, hm, hg, hd⟩ := pre
    have told : ∀ {r : PV}, r = .int (Un.sz t : Nat) → (S_sz (n + 1)).post [encT t] r [] := fun {r} e t2 e2 => by
      injection e2 with e3 _
      rw [← encT_inj _ _ e3]; exact e
    unfold rd_size
    show qSeq _ _ (endsOf _ _) [.val (encT t), .un]
    cases t with
    | v s => exact hg.elim
    | n v ps =>
      have h2 := gT_len hm hg
      rw [encT_n] at told ⊢
      walk_at "px"
      refine lcR_i (lc_ind (fun qs acc ρ => ∃ (done rest : List Tt), ps = done ++ rest ∧ qs = rest.map encT ∧ acc = (done.map fun t => ((Un.sz t : Nat) : Int)).map PV.int ∧ ρ = [.val (.tup (.str v :: ps.map encT)), .un]) ?_ ?_ _ _ _ ⟨[], ps, rfl, rfl, rfl, rfl⟩)
      · rintro acc ρ ⟨done, rest, e, e2, rfl, rfl⟩
        have e3 : rest = [] := by cases rest with | nil => rfl | cons _ _ => cases e2
        subst e3
        rw [List.append_nil] at e
        subst e
        walk_at "px"
        exact told (congrArg PV.int (by rw [szs_sum, Un.sz]; omega))
      · rintro q qs acc ρ ⟨done, rest, e, e2, rfl, rfl⟩ N ih
        obtain ⟨t, rest, rfl, rfl, rfl⟩ := map_cons_inv e2
        have hmm : t ∈ ps := by rw [e]; simp
        have ll := congrArg List.length e
        simp only [List.length_append, List.length_cons] at ll
        walk_at "px"
        refine sz_i hm (gT_part hg t hmm) (dp_part hd t hmm) ?_
        walk_at "px"
        exact ⟨small_of (by omega), ih _ _ ⟨done ++ [t], rest, by rw [e]; simp, rfl, by simp, rfl⟩⟩
theorem ok_ord (T : Txt K mg) : ∀ n : Nat, Has P w K mg base "order" (n + 100) ["makers", "one", "other"] (S_ord n)
  | 0 => by
    refine Has.mono (Px.has_none T.d_order (fun F => F.binds (ps := ["makers", "one", "other"]) fun _ _ _ _ _ _ us hl => match us, hl with | [_, _, _], _ => rfl) fun pvs h => ?_ : Has P w K mg base "order" 0 ["makers", "one", "other"] (S_ord 0)) (Nat.zero_le _)
    obtain ⟨_, _, _, _, _, _, _, h, _⟩ := h
    omega
  | n + 1 => by
    refine dv_order T ((ok_sz T 96).mono (by omega)) (ok_ord T n) (S_ord (n + 1)) rfl fun pvs lp pre => ?_
    obtain ⟨ms, a, b, rfl, hm, ga, gb, hd, da, db⟩ := pre
    have told : ∀ {r : PV}, r = .int (cmpT ms a b) → (S_ord (n + 1)).post [encMs ms, encT a, encT b] r [] := fun {r} e ms2 a2 b2 e2 => by
      injection e2 with e3 e2; injection e2 with e4 e2; injection e2 with e5 _
      rw [← encMs_inj e3, ← encT_inj _ _ e4, ← encT_inj _ _ e5]; exact e
    unfold rd_order
    show qSeq _ _ (endsOf _ _) [.val (.tup (ms.map encM)), .val (encT a), .val (encT b), .un, .un, .un, .un, .un, .un]
    walk_at "px"
    refine sz_i hm ga (by omega) ?_
    walk_at "px"
    refine sz_i hm gb (by omega) ?_
    walk_at "px"
    cases a with
    | v s => exact ga.elim
    | n v ps =>
    cases b with
    | v s => exact gb.elim
    | n u qs =>
    have ta : Un.sz (.n v ps) = Un.szs ps + 1 := by rw [Un.sz]
    have tb : Un.sz (.n u qs) = Un.szs qs + 1 := by rw [Un.sz]
    rw [cmpT] at told
    refine ⟨fun h => ?_, fun h => ?_⟩
    · have ne : ¬ Un.szs ps = Un.szs qs := fun z => by
        rw [ta, tb, z] at h
        simp at h
      refine sz_i hm ga (by omega) ?_
      walk_at "px"
      refine sz_i hm gb (by omega) ?_
      walk_at "px"
      rw [ta, tb]
      refine ⟨fun h => ?_, fun h => ?_⟩
      · have : Un.szs ps < Un.szs qs := by simp only [decide_eq_true_eq] at h; omega
        exact told (by rw [if_pos this])
      · have : ¬ Un.szs ps < Un.szs qs := by simp only [decide_eq_false_iff_not] at h; omega
        exact told (by rw [if_neg this, if_pos (by omega)])
    · have e : Un.szs ps = Un.szs qs := by
        rw [ta, tb] at h
        simp at h
        omega
      rw [if_neg (by omega), if_neg (by omega)] at told
      rw [encT_n, encT_n] at told ⊢
      walk_at "px"
      refine ⟨fun h3 => ?_, fun h3 => ?_⟩
      · have ne : v ≠ u := fun z => by rw [z] at h3; simp at h3
        rw [if_pos ne] at told
        refine lcR_i (lc_ind (fun rs acc ρ => ∃ (done rest : Ms), ms = done ++ rest ∧ rs = rest.map encM ∧ acc = done.map (fun m => PV.str m.1) ∧ ρ = [.val (.tup (ms.map encM)), .val (.tup (.str v :: ps.map encT)), .val (.tup (.str u :: qs.map encT)), .un, .un, .un, .un, .un, .un]) ?_ ?_ _ _ _ ⟨[], ms, rfl, rfl, rfl, rfl⟩)
        · rintro acc ρ ⟨done, rest, e, e2, rfl, rfl⟩
          have e3 : rest = [] := by cases rest with | nil => rfl | cons _ _ => cases e2
          subst e3
          rw [List.append_nil] at e
          subst e
          walk_at "px"
          rw [idx_words (gT_word ga), idx_words (gT_word gb)]
          walk_at "px"
          have eo : eqOk (.lst (ms.map fun m => PV.str m.1)) := by
            have := eqOk_strs (ms.map (·.1))
            rw [List.map_map] at this
            exact this
          refine ⟨eo, eo, fun h4 => ?_, fun h4 => ?_⟩
          · have : wIdx ms v < wIdx ms u := by simp only [decide_eq_true_eq] at h4; omega
            exact told (by rw [if_pos this])
          · have : ¬ wIdx ms v < wIdx ms u := by simp only [decide_eq_false_iff_not] at h4; omega
            exact told (by rw [if_neg this])
        · rintro q rs acc ρ ⟨done, rest, e, e2, rfl, rfl⟩ N ih
          obtain ⟨t, rest, rfl, rfl, rfl⟩ := map_cons_inv e2
          have ll := congrArg List.length e
          have := hm.len
          simp only [List.length_append, List.length_cons] at ll
          show qgT 2 _ (.tup [.str t.1, .int (t.2 : Nat)]) _ _
          walk_at "px"
          exact ⟨small_of (by omega), ih _ _ ⟨done ++ [t], rest, by rw [e]; simp, rfl, by simp, rfl⟩⟩
      · have e3 : v = u := by simpa using h3
        subst e3
        rw [if_neg (fun z => z rfl)] at told
        have lp2 := gT_len hm ga
        have lpq : ps.length = qs.length := ar_one hm.nd ga.1 gb.1
        refine for_ind (fun rs ρ => ∃ (r1 r2 : List Tt) (o4 o5 o6 : Option PV), rs = zipP (r1.map encT) (r2.map encT) ∧ r1.length = r2.length ∧ (∀ t ∈ r1, t ∈ ps) ∧ (∀ t ∈ r2, t ∈ qs) ∧ cmpTs ms ps qs = cmpTs ms r1 r2 ∧ ρ = [.val (.tup (ms.map encM)), .val (.tup (.str v :: ps.map encT)), .val (.tup (.str v :: qs.map encT)), .un, plS o4, plS o5, plS o6, .un, .un]) ?_ ?_ _ _ ⟨ps, qs, none, none, none, rfl, lpq, fun _ h => h, fun _ h => h, rfl, rfl⟩
        · rintro ρ ⟨r1, r2, o4, o5, o6, e, l, h1, h2, ec, rfl⟩
          walk_at "px"
          refine told ?_
          rw [ec]
          cases r1 with
          | nil => rw [cmpTs]
          | cons _ _ => cases r2 with
            | nil => simp at l
            | cons _ _ => rw [List.map_cons, List.map_cons, zipP] at e; cases e
        · rintro q rs ρ ⟨r1, r2, o4, o5, o6, e, l, h1, h2, ec, rfl⟩ N ih
          cases r1 with
          | nil => simp [zipP] at e
          | cons x r1 => cases r2 with
            | nil => simp at l
            | cons y r2 =>
              rw [List.map_cons, List.map_cons, zipP] at e
              injection e with e1 e2
              subst e1 e2
              have hx := h1 x List.mem_cons_self
              have hy := h2 y List.mem_cons_self
              walk_at "px"
              refine ord_i (ms := ms) hm (gT_part ga x hx) (gT_part gb y hy) (dp_part hd x hx) (by have := dp_part (w := v) (ps := ps) (n := 95) (by omega) x hx; omega) (by have := dp_part (w := v) (ps := qs) (n := 95) (by omega) y hy; omega) ?_
              walk_at "px"
              rw [cmpTs] at ec
              refine ⟨fun h => ?_, fun h => ?_⟩
              · have hn : cmpT ms x y ≠ 0 := fun z => by rw [z] at h; simp at h
                rw [if_pos hn] at ec
                exact told (by rw [ec])
              · have hn : cmpT ms x y = 0 := by simpa using h
                rw [if_neg (fun z => z hn)] at ec
                exact ih _ ⟨r1, r2, some _, some _, some _, rfl, by simpa using l, fun t ht => h1 t (List.mem_cons_of_mem _ ht), fun t ht => h2 t (List.mem_cons_of_mem _ ht), ec, rfl⟩
theorem ok_key (T : Txt K mg) : ∀ n : Nat, Has P w K mg base "_law_key" n ["makers", "tree"] (S_key n)
  | 0 => by
    refine (Px.has_none T.d__law_key (fun F => F.binds (ps := ["makers", "tree"]) fun _ _ _ _ _ _ us hl => match us, hl with | [_, _], _ => rfl) fun pvs h => ?_ : Has P w K mg base "_law_key" 0 _ _)
    obtain ⟨_, _, _, _, _, h⟩ := h
    omega
  | n + 1 => by
    refine dv__law_key T (ok_key T n) (S_key (n + 1)) rfl fun pvs lp pre => ?_
    obtain ⟨ms, t, rfl, hm, hg, hd⟩ := pre
    have told : ∀ {r : PV}, r = keyD ms t → (S_key (n + 1)).post [encMs ms, encT t] r [] := fun {r} e ms2 t2 e2 => by
      injection e2 with e3 e2; injection e2 with e4 _
      rw [← encMs_inj e3, ← encT_inj _ _ e4]; exact e
    unfold rd__law_key
    show qSeq _ _ (endsOf _ _) [.val (.tup (ms.map encM)), .val (encT t), .un, .un, .un, .un, .un, .un]
    cases t with
    | v s => exact hg.elim
    | n v ps =>
      have h2 := gT_len hm hg
      rw [encT_n, keyD_n] at told
      rw [encT_n]
      walk_at "px"
      refine lcR_i (lc_ind (fun rs acc ρ => ∃ (done rest : Ms), ms = done ++ rest ∧ rs = rest.map encM ∧ acc = done.map (fun m => PV.str m.1) ∧ ρ = [.val (.tup (ms.map encM)), .val (.tup (.str v :: ps.map encT)), .un, .un, .un, .un, .un, .un]) ?_ ?_ _ _ _ ⟨[], ms, rfl, rfl, rfl, rfl⟩)
      · rintro acc ρ ⟨done, rest, e, e2, rfl, rfl⟩
        have e3 : rest = [] := by cases rest with | nil => rfl | cons _ _ => cases e2
        subst e3
        rw [List.append_nil] at e
        subst e
        walk_at "px"
        rw [idx_words (gT_word hg)]
        walk_at "px"
        have eo : eqOk (.lst (ms.map fun m => PV.str m.1)) := by
          have := eqOk_strs (ms.map (·.1))
          rw [List.map_map] at this
          exact this
        refine ⟨eo, ?_⟩
        refine lcR_i (lc_ind (fun rs acc ρ => ∃ (done rest : List Tt), ps = done ++ rest ∧ rs = rest.map encT ∧ acc = done.map (keyD ms) ∧ ρ = [.val (.tup (ms.map encM)), .val (.tup (.str v :: ps.map encT)), .val (.int (wIdx ms v : Nat)), .un, .un, .un, .un, .un]) ?_ ?_ _ _ _ ⟨[], ps, rfl, rfl, rfl, rfl⟩)
        · rintro acc ρ ⟨done, rest, e, e2, rfl, rfl⟩
          have e3 : rest = [] := by cases rest with | nil => rfl | cons _ _ => cases e2
          subst e3
          rw [List.append_nil] at e
          subst e
          walk_at "px"
          refine lcR_i (lc_ind (fun rs acc ρ => ∃ (dn rest : List Tt), ps = dn ++ rest ∧ rs = rest.map (keyD ms) ∧ acc = (dn.map fun t => ((Un.sz t : Nat) : Int)).map PV.int ∧ ρ = [.val (.tup (ms.map encM)), .val (.tup (.str v :: ps.map encT)), .val (.int (wIdx ms v : Nat)), .val (.tup (ps.map (keyD ms))), .un, .un, .un, .un]) ?_ ?_ _ _ _ ⟨[], ps, rfl, rfl, rfl, rfl⟩)
          · rintro acc ρ ⟨dn, rest, e, e2, rfl, rfl⟩
            have e3 : rest = [] := by cases rest with | nil => rfl | cons _ _ => cases e2
            subst e3
            rw [List.append_nil] at e
            subst e
            walk_at "px"
            refine ⟨small_of (by decide), small_of (by omega), told ?_⟩
            rw [szs_sum]
          · rintro q rs acc ρ ⟨dn, rest, e, e2, rfl, rfl⟩ N ih
            obtain ⟨t, rest, rfl, rfl, rfl⟩ := map_cons_inv e2
            have tm : t ∈ ps := by rw [e]; simp
            have gt := gT_part hg t tm
            have ll := congrArg List.length e
            simp only [List.length_append, List.length_cons] at ll
            cases t with
            | v s => exact gt.elim
            | n u us =>
              rw [keyD_n]
              walk_at "px"
              refine ⟨small_of (by omega), ih _ _ ⟨dn ++ [.n u us], rest, by rw [e]; simp, rfl, ?_, rfl⟩⟩
              rw [List.map_append, List.map_append]
              simp only [List.map_cons, List.map_nil, Un.sz]
              congr 3
              omega
        · rintro q rs acc ρ ⟨done, rest, e, e2, rfl, rfl⟩ N ih
          obtain ⟨t, rest, rfl, rfl, rfl⟩ := map_cons_inv e2
          have tm : t ∈ ps := by rw [e]; simp
          have ll := congrArg List.length e
          simp only [List.length_append, List.length_cons] at ll
          walk_at "px"
          refine key_i (ms := ms) hm (gT_part hg t tm) (dp_part hd t tm) ?_
          walk_at "px"
          exact ⟨small_of (by omega), ih _ _ ⟨done ++ [t], rest, by rw [e]; simp, rfl, by simp, rfl⟩⟩
      · rintro q rs acc ρ ⟨done, rest, e, e2, rfl, rfl⟩ N ih
        obtain ⟨t, rest, rfl, rfl, rfl⟩ := map_cons_inv e2
        have ll := congrArg List.length e
        have := hm.len
        simp only [List.length_append, List.length_cons] at ll
        show qgT 2 _ (.tup [.str t.1, .int (t.2 : Nat)]) _ _
        walk_at "px"
        exact ⟨small_of (by omega), ih _ _ ⟨done ++ [t], rest, by rw [e]; simp, rfl, by simp, rfl⟩⟩
end

end Lw
set_option maxHeartbeats 4000000
namespace Lw
open PySem L2 PyProof.Rows Px
def encR (r : List Tt) : PV := .lst (r.map encT)
structure TosOk (rows : List (List Tt)) (n : Nat) : Prop where
  n1 : 1 ≤ n
  n90 : n ≤ 90
  len : rows.length = n
  sm : ∀ i, (rows.getD i []).length ≤ 40
def S_tos : FS := { io := [false, false, false], fr := true, pre := fun ps => ∃ (ms : Ms) (rows : List (List Tt)) (n : Nat), ps = [encMs ms, .lst (rows.map encR), .int (n : Nat)] ∧ MsOk ms ∧ TosOk rows n, post := fun ps r _ => ∀ (ms : Ms) (rows : List (List Tt)) (n : Nat), ps = [encMs ms, .lst (rows.map encR), .int (n : Nat)] → r = encR (rowOf ms rows n) }
theorem S_tos_fr : S_tos.fr = true := rfl
theorem S_tos_io : S_tos.io = [false, false, false] := rfl
local macro_rules | `(tactic| walk_at "px") => `(tactic| simp -dsimp only [qVar, qK, qNil, qCons, qTup, qLst, vals, looks, R.look, R.wk, qCB, qB, qOp2, qTru, truG, qAnd, qOr, qNot, qAndV, qOrV, qNotV, qIfE, qNo, qPart, qSl, gSl, qIt, qRng1, qRng2, qgN, qgNil, qgCons, qgT, notIo_zero, notIo_succ, notIo_nil', slOk_un, slOk_val, slOk_own, slOk_pl, slOk_pd, notIos_nil, notIos_cons, qYes, qLc, qNext, qSeq, qBreak, qCont, qFrz, frz, qDrop, retG, qRet, qRetN, qIf, qSet, qOwn, qAsg, qFor, qMut, ownTy, gAppend, gExtend, gPop, isOwn, qSetIx, qCall, splitArgs, putOuts, setOwn, finOk, endsOf, mk, outsOf, uns,
  gAdd, gInt, gInt0, gEq, gNe, gIn, gNotIn, gIs, gIsNot, Px.isNon, gIx, getP, gLen, gAbs, gIntC, gSum, gMax, gMax2, gMinT, gAll, gAny, gList, gTuple, gIsi, qNeg, qDict0, wipeE, lcGo_nil, br_t, br_f, atI_0, atI_1, atI_2, atI_3, ixN_0, ixN_1, ixN_2, ixN_3, List.length_map, List.length_set, cut_from1, isTy, tyN, gIsiT, asTys, gListD, keyP, isDic, qGet1, qGet2, qLZ, gZip, qPairs, mergeP, qDisp, gDictC, gStr, qChain, qPar, qAug, qMeth, tyIs, gIndex, qLcK, qDc, qDcK, dicAt, qForK, qZipI, qCallB, qCallF, splitB, Option.isSome_some, Option.isSome_none, isEmp_concat, List.getLast?_concat, List.dropLast_concat, List.isEmpty_nil, gEqX, gNeX, List.any_cons, List.any_nil, tyOk_str, tyOk_tuple, tyOk_int, tyOk_bool, tyOk_list, tyOk_dict, Option.map_some, Option.map_none,
  eqOk_str, eqOk_int, eqOk_bl, eqOk_non, eqOkW_str, eqOkW_int, eqOkW_bl, eqOkW_non, gEqW, gNeW, qVals, ownDic, qLc2, gLtX, gGtX, gSortX, peq_str, peq_int, peq_bl, List.getElem?_cons_zero, List.getElem?_cons_succ, List.getElem?_nil, List.set_cons_zero, List.set_cons_succ, List.zipWith_cons_cons, List.zipWith_nil_left, List.replicate_succ, List.replicate_zero, List.cons_append, List.nil_append, List.length_cons, List.length_nil, List.map_cons, List.map_nil, ↓reduceIte, Bool.false_eq_true, and_true, true_and, Bool.not_true, Bool.not_false, Nat.reduceAdd, Nat.reduceLT, Nat.reduceLeDiff, Nat.zero_lt_succ, Nat.lt_add_one, ne_eq, not_true_eq_false, not_false_eq_true, String.reduceEq, String.reduceBEq, Bool.or_false, Bool.false_or, Bool.or_true, Bool.true_or, Bool.and_false, Bool.and_true, Bool.false_and, Bool.true_and, reduceCtorEq, S_tos_fr, S_tos_io])
theorem lc2_ind {g g1 : QTG} {tt tt1 : QTT} {ti1 : QTI} {te : QT} {vs vs1 : List Nat} {Q : List PV → En → Prop} (I : List PV → List PV → En → Prop) (hn : ∀ acc ρ, I [] acc ρ → Q acc ρ)
    (hc : ∀ p ps acc ρ, I (p :: ps) acc ρ → ∀ N : List PV → En → Prop, (∀ acc' ρ', I ps acc' ρ' → N acc' ρ') → g p ρ fun ρ1 => tt ρ1 fun b ρ2 => Br b (ti1 ρ2 fun qs ρ3 => notIos ρ3 vs1 ∧ lcGo g1 tt1 te vs1 (fun acc' ρ4 => notIos ρ4 vs ∧ N acc' (wipeE ρ4 vs)) qs acc (wipeE ρ3 vs1))
      (notIos ρ2 vs ∧ N acc (wipeE ρ2 vs))) : ∀ ps acc ρ, I ps acc ρ → lc2Go g tt ti1 g1 tt1 te vs vs1 Q ps acc ρ
  | [], acc, ρ, h => hn acc ρ h
  | p :: ps, acc, ρ, h => hc p ps acc ρ h (lc2Go g tt ti1 g1 tt1 te vs vs1 Q ps) fun acc' ρ' h' => lc2_ind I hn hc ps acc' ρ' h'
theorem lc2R_i {g g1 : QTG} {tt tt1 : QTT} {ti1 : QTI} {te : QT} {vs vs1 : List Nat} {ps : List PV} {ρ : En} {Q : PK1} {dm : Dum Q} (h : lc2Go g tt ti1 g1 tt1 te vs vs1 (fun acc ρ' => Q (.fr (.lst acc)) ρ') ps [] ρ) : lc2R g tt ti1 g1 tt1 te vs vs1 ps ρ Q dm := h
theorem at_row {rows : List (List Tt)} {i : Nat} {j : Int} (h : i < rows.length) (e : j = (i : Nat)) : atI (rows.map encR) j = some (encR (rows.getD i [])) := by
  subst e
  refine atI_nat ?_
  rw [List.getElem?_map, List.getD_eq_getElem?_getD, List.getElem?_eq_getElem h]; rfl
theorem encR_inj {r s : List Tt} (h : encR r = encR s) : r = s := by
  unfold encR at h
  injection h with h
  have : encTs r = encTs s := by rw [encTs_map, encTs_map]; exact h
  exact encTs_inj _ _ this
theorem encRs_inj : ∀ {a b : List (List Tt)}, a.map encR = b.map encR → a = b
  | [], [], _ => rfl
  | [], _ :: _, h => by cases h
  | _ :: _, [], h => by cases h
  | x :: a, y :: b, h => by
    simp only [List.map_cons, List.cons.injEq] at h
    rw [encR_inj h.1, encRs_inj h.2]
theorem nodrop {α : Type} {rest : List α} {β : Type} {f : α → β} (e : [] = rest.map f) : rest = [] := by cases rest with | nil => rfl | cons _ _ => cases e
def pairsOf (rows : List (List Tt)) (n : Nat) (w : Str) (l : Nat) : List Tt := (rows.getD l []).flatMap fun a => (rows.getD (n - 1 - l) []).map fun b => .n w [a, b]
theorem pairsOf_len {rows : List (List Tt)} {n : Nat} (h : TosOk rows n) (w : Str) (l : Nat) : (pairsOf rows n w l).length ≤ 1600 := by
  have := flat_le (B := 40) (f := fun a => (rows.getD (n - 1 - l) []).map fun b => Un.Tm.n w [a, b]) (rows.getD l []) fun a ha => by rw [List.length_map]; exact h.sm _
  have h3 := h.sm l
  have : (rows.getD l []).length * 40 ≤ 40 * 40 := Nat.mul_le_mul_right _ h3
  unfold pairsOf
  omega
section
variable {P : Program} {w : World} {K : PySem.W.Frag} {mg : Str → Option Value} {base : Heap}
theorem ok_tos (T : Txt K mg) : Has P w K mg base "trees_of_size" 1 ["makers", "rows", "many"] S_tos := by
  refine dv_trees_of_size T S_tos rfl fun pvs lp pre => ?_
  obtain ⟨ms, rows, n, rfl, hm, ho⟩ := pre
  have told : ∀ {r : PV}, r = encR (rowOf ms rows n) → S_tos.post [encMs ms, .lst (rows.map encR), .int (n : Nat)] r [] := fun {r} e ms2 rows2 n2 e2 => by
    injection e2 with e3 e2; injection e2 with e4 e2; injection e2 with e5 _
    injection e4 with e4; injection e5 with e5
    rw [← encMs_inj e3, ← encRs_inj e4, ← (show n = n2 by omega)]; exact e
  have n1 := ho.n1
  have n90 := ho.n90
  have rl := ho.len
  have ml := hm.len
  unfold rd_trees_of_size
  show qSeq _ _ (endsOf _ _) [.val (.tup (ms.map encM)), .val (.lst (rows.map encR)), .val (.int (n : Nat)), .un, .un, .un, .un, .un, .un]
  walk_at "px"
  refine ⟨small_of (by decide), ?_⟩
  refine for_ind (fun rs ρ => ∃ (done rest : Ms) (o4 o5 o6 o7 o8 : Option PV), ms = done ++ rest ∧ rs = rest.map encM ∧ ρ = [.val (.tup (ms.map encM)), .val (.lst (rows.map encR)), .val (.int (n : Nat)), .own false (encR (done.flatMap (rowM rows n))), plS o4, plS o5, plS o6, plS o7, plS o8]) ?_ ?_ _ _ ⟨[], ms, none, none, none, none, none, rfl, rfl, rfl⟩
  · rintro ρ ⟨done, rest, o4, o5, o6, o7, o8, e, e2, rfl⟩
    have e3 := nodrop e2
    subst e3
    rw [List.append_nil] at e
    subst e
    walk_at "px"
    exact told rfl
  · rintro q rs ρ ⟨done, rest, o4, o5, o6, o7, o8, e, e2, rfl⟩ N ih
    obtain ⟨m, rest, rfl, rfl, rfl⟩ := map_cons_inv e2
    obtain ⟨wd, k⟩ := m
    have hmm : (wd, k) ∈ ms := by rw [e]; simp
    have k2 := hm.two _ hmm
    simp only at k2
    have ll := congrArg List.length e
    simp only [List.length_append, List.length_cons] at ll
    have dl := flat_le (B := 144000) (f := rowM rows n) done fun m _ => inner_le ho.sm n90 m
    have dl2 : done.length * 144000 ≤ 5 * 144000 := Nat.mul_le_mul_right _ (by omega)
    have nxt : ∀ (o4 o5 o6 o7 o8 : Option PV) (l : List Tt), l = rowM rows n (wd, k) → N [.val (.tup (ms.map encM)), .val (.lst (rows.map encR)), .val (.int (n : Nat)), .own false (.lst ((done.flatMap (rowM rows n)).map encT ++ l.map encT)), plS o4, plS o5, plS o6, plS o7, plS o8] := fun o4 o5 o6 o7 o8 l hl => by
      refine ih _ ⟨done ++ [(wd, k)], rest, o4, o5, o6, o7, o8, by rw [e]; simp, rfl, ?_⟩
      rw [hl, List.flatMap_append, List.flatMap_singleton]
      unfold encR
      rw [List.map_append]
    show qgT 2 _ (.tup [.str wd, .int (k : Nat)]) [.val (.tup (ms.map encM)), .val (.lst (rows.map encR)), .val (.int (n : Nat)), .own false (.lst ((done.flatMap (rowM rows n)).map encT)), plS o4, plS o5, plS o6, plS o7, plS o8] _
    rcases (show k = 0 ∨ k = 1 ∨ k = 2 by omega) with rfl | rfl | rfl
    · walk_at "px"
      rw [show (((0 : Nat) : Int) == 0) = true from rfl, show (((0 : Nat) : Int) == 1) = false from rfl]
      walk_at "px"
      rw [show (((0 : Nat) : Int) == 2) = false from rfl]
      walk_at "px"
      refine ⟨fun h => ?_, fun h => ?_⟩
      · have e1 : n = 1 := by simp at h; omega
        refine ⟨small_of (by decide), small_of (by omega), ?_⟩
        have := nxt (some (.str wd)) (some (.int ((0 : Nat) : Int))) o6 o7 o8 [.n wd []] (by unfold rowM; rw [if_pos rfl, if_pos e1])
        rw [List.map_cons, List.map_nil, encT_n] at this
        exact this
      · have e1 : ¬ n = 1 := fun z => by rw [z] at h; simp at h
        have := nxt (some (.str wd)) (some (.int ((0 : Nat) : Int))) o6 o7 o8 [] (by unfold rowM; rw [if_pos rfl, if_neg e1])
        rw [List.map_nil, List.append_nil] at this
        exact this
    · walk_at "px"
      rw [show (((1 : Nat) : Int) == 0) = false from rfl, show (((1 : Nat) : Int) == 1) = true from rfl, at_row (rows := rows) (i := n - 1) (by omega) (by omega)]
      show Br false _ (Br true (lcR _ _ _ _ ((rows.getD (n - 1) []).map encT) _ _ _) _)
      walk_at "px"
      refine lcR_i (lc_ind (fun rs acc ρ => ∃ (dn rs1 : List Tt), rows.getD (n - 1) [] = dn ++ rs1 ∧ rs = rs1.map encT ∧ acc = (dn.map fun a => Un.Tm.n wd [a]).map encT ∧ ρ = [.val (.tup (ms.map encM)), .val (.lst (rows.map encR)), .val (.int (n : Nat)), .own false (.lst ((done.flatMap (rowM rows n)).map encT)), .val (.str wd), .val (.int ((1 : Nat) : Int)), plS o6, .un, plS o8]) ?_ ?_ _ _ _ ⟨[], _, rfl, rfl, rfl, rfl⟩)
      · rintro acc ρ ⟨dn, rs1, e1, e2, rfl, rfl⟩
        have e3 := nodrop e2
        subst e3
        rw [List.append_nil] at e1
        walk_at "px"
        have sm := ho.sm (n - 1)
        rw [e1] at sm
        refine ⟨small_of (by omega), ?_⟩
        exact nxt (some _) (some _) o6 none o8 _ (by unfold rowM; rw [if_neg (by omega), if_pos rfl, e1])
      · rintro q rs acc ρ ⟨dn, rs1, e1, e2, rfl, rfl⟩ N2 ih2
        obtain ⟨t, rs1, rfl, rfl, rfl⟩ := map_cons_inv e2
        have ll := congrArg List.length e1
        have sm := ho.sm (n - 1)
        simp only [List.length_append, List.length_cons] at ll
        walk_at "px"
        refine ⟨small_of (by decide), small_of (by omega), ih2 _ _ ⟨dn ++ [t], rs1, by rw [e1]; simp, rfl, ?_, rfl⟩⟩
        rw [List.map_append, List.map_append, List.map_cons, List.map_nil, List.map_cons, List.map_nil, encT_n]
        rfl
    · walk_at "px"
      rw [show (((2 : Nat) : Int) == 0) = false from rfl, show (((2 : Nat) : Int) == 1) = false from rfl]
      walk_at "px"
      rw [show (((2 : Nat) : Int) == 2) = true from rfl]
      walk_at "px"
      refine ⟨⟨by unfold rngOk; decide, by unfold rngOk; omega⟩, ?_⟩
      refine for_ind (fun rs ρ => ∃ (j c : Nat) (o6 o7 o8 : Option PV), j + c = n - 2 ∧ rs = (List.range' j c).map (fun k => PV.int (1 + (k : Nat))) ∧ ρ = [.val (.tup (ms.map encM)), .val (.lst (rows.map encR)), .val (.int (n : Nat)), .own false (.lst ((done.flatMap (rowM rows n)).map encT ++ ((List.range' 1 j).flatMap (pairsOf rows n wd)).map encT)), .val (.str wd), .val (.int ((2 : Nat) : Int)), plS o6, plS o7, plS o8]) ?_ ?_ _ _ ⟨0, n - 2, o6, o7, o8, by omega, ?_, by simp⟩
      · rintro ρ ⟨j, c, o6, o7, o8, e1, e2, rfl⟩
        have e3 : c = 0 := by
          cases c with
          | zero => rfl
          | succ c => rw [List.range'_succ] at e2; simp at e2
        subst e3
        rw [Nat.add_zero] at e1
        exact nxt (some _) (some _) o6 o7 o8 _ (by unfold rowM; rw [if_neg (by omega), if_neg (by omega), if_pos rfl, e1]; rfl)
      · rintro q rs ρ ⟨j, c, o6, o7, o8, e1, e2, rfl⟩ N2 ih2
        cases c with
        | zero => simp at e2
        | succ c =>
          rw [List.range'_succ, List.map_cons, List.cons.injEq] at e2
          obtain ⟨rfl, rfl⟩ := e2
          have fl := flat_le (B := 1600) (f := pairsOf rows n wd) (List.range' 1 j) fun l _ => pairsOf_len ho wd l
          rw [List.length_range'] at fl
          have fl2 : j * 1600 ≤ 90 * 1600 := Nat.mul_le_mul_right _ (by omega)
          walk_at "px"
          rw [at_row (rows := rows) (i := j + 1) (by omega) (by omega)]
          show lc2R _ _ _ _ _ _ _ _ ((rows.getD (j + 1) []).map encT) _ _ _
          refine lc2R_i (lc2_ind (fun rs acc ρ => ∃ (dn rs1 : List Tt), rows.getD (j + 1) [] = dn ++ rs1 ∧ rs = rs1.map encT ∧ acc = (dn.flatMap fun a => (rows.getD (n - 1 - (j + 1)) []).map fun b => Un.Tm.n wd [a, b]).map encT ∧ ρ = [.val (.tup (ms.map encM)), .val (.lst (rows.map encR)), .val (.int (n : Nat)), .own false (.lst ((done.flatMap (rowM rows n)).map encT ++ ((List.range' 1 j).flatMap (pairsOf rows n wd)).map encT)), .val (.str wd), .val (.int ((2 : Nat) : Int)), .val (.int (1 + (j : Nat))), .un, .un]) ?_ ?_ _ _ _ ⟨[], _, rfl, rfl, rfl, rfl⟩)
          · rintro acc ρ ⟨dn, rs1, e3, e4, rfl, rfl⟩
            have e5 := nodrop e4
            subst e5
            rw [List.append_nil] at e3
            walk_at "px"
            have pl := pairsOf_len ho wd (j + 1)
            unfold pairsOf at pl
            rw [e3] at pl
            refine ⟨small_of (by simp only [List.length_append, List.length_map]; omega), ?_⟩
            refine ih2 _ ⟨j + 1, c, some (.int (1 + (j : Nat))), none, none, by omega, rfl, ?_⟩
            rw [List.range'_concat, List.flatMap_append, List.flatMap_singleton, List.map_append, ← List.append_assoc]
            have : pairsOf rows n wd (1 + 1 * j) = dn.flatMap fun a => (rows.getD (n - 1 - (j + 1)) []).map fun b => Un.Tm.n wd [a, b] := by
              unfold pairsOf
              rw [show 1 + 1 * j = j + 1 by omega, e3]
            rw [this]
            rfl
          · rintro q rs acc ρ ⟨dn, rs1, e3, e4, rfl, rfl⟩ N3 ih3
            obtain ⟨a, rs1, rfl, rfl, rfl⟩ := map_cons_inv e4
            have ll := congrArg List.length e3
            have sm := ho.sm (j + 1)
            have sm2 := ho.sm (n - 1 - (j + 1))
            simp only [List.length_append, List.length_cons] at ll
            have dl3 := flat_le (B := 40) (f := fun a => (rows.getD (n - 1 - (j + 1)) []).map fun b => Un.Tm.n wd [a, b]) dn fun a _ => by rw [List.length_map]; exact sm2
            have dl4 : dn.length * 40 ≤ 40 * 40 := Nat.mul_le_mul_right _ (by omega)
            walk_at "px"
            rw [at_row (rows := rows) (i := n - 1 - (j + 1)) (by omega) (by omega)]
            show lcGo _ _ _ _ _ ((rows.getD (n - 1 - (j + 1)) []).map encT) _ _
            refine lc_ind (fun rs acc ρ => ∃ (dm rm : List Tt), rows.getD (n - 1 - (j + 1)) [] = dm ++ rm ∧ rs = rm.map encT ∧ acc = (dn.flatMap fun a => (rows.getD (n - 1 - (j + 1)) []).map fun b => Un.Tm.n wd [a, b]).map encT ++ (dm.map fun b => Un.Tm.n wd [a, b]).map encT ∧ ρ = [.val (.tup (ms.map encM)), .val (.lst (rows.map encR)), .val (.int (n : Nat)), .own false (.lst ((done.flatMap (rowM rows n)).map encT ++ ((List.range' 1 j).flatMap (pairsOf rows n wd)).map encT)), .val (.str wd), .val (.int ((2 : Nat) : Int)), .val (.int (1 + (j : Nat))), .val (encT a), .un]) ?_ ?_ _ _ _ ⟨[], _, rfl, rfl, by simp, rfl⟩
            · rintro acc ρ ⟨dm, rm, e5, e6, rfl, rfl⟩
              have e7 := nodrop e6
              subst e7
              rw [List.append_nil] at e5
              walk_at "px"
              refine ih3 _ _ ⟨dn ++ [a], rs1, by rw [e3]; simp, rfl, ?_, rfl⟩
              rw [List.flatMap_append, List.flatMap_singleton, List.map_append, ← e5]
            · rintro q rs acc ρ ⟨dm, rm, e5, e6, rfl, rfl⟩ N4 ih4
              obtain ⟨b, rm, rfl, rfl, rfl⟩ := map_cons_inv e6
              have ll2 := congrArg List.length e5
              simp only [List.length_append, List.length_cons] at ll2
              walk_at "px"
              refine ⟨small_of (by decide), small_of ?_, ih4 _ _ ⟨dm ++ [b], rm, by rw [e5]; simp, rfl, ?_, rfl⟩⟩
              · simp only [List.length_append, List.length_map]; omega
              · rw [List.map_append, List.map_append, List.map_cons, List.map_nil, List.map_cons, List.map_nil, encT_n, List.append_assoc]
                rfl
      · rw [rng, List.range_eq_range']
        have : (((n : Nat) : Int) - 1 - 1).toNat = n - 2 := by omega
        rw [this]
end

end Lw
set_option maxHeartbeats 4000000
namespace Lw
open PySem L2 PyProof.Rows Px
theorem asBls_map : ∀ bs : List Bool, asBls (bs.map PV.bl) = some bs
  | [] => rfl
  | b :: bs => by rw [List.map_cons, asBls, asBls_map bs]; rfl
def S_trees : FS := { io := [false, false], pre := fun ps => ∃ (ms : Ms) (many : Nat), ps = [encMs ms, .int (many : Nat)] ∧ MsOk ms ∧ many ≤ 40, post := fun ps r _ => ∀ (ms : Ms) (many : Nat), ps = [encMs ms, .int (many : Nat)] → r = encR ((fnd ms 89).take many) }
theorem S_trees_fr : S_trees.fr = false := rfl
theorem S_trees_io : S_trees.io = [false, false] := rfl
local macro_rules | `(tactic| walk_at "px") => `(tactic| simp -dsimp only [qVar, qK, qNil, qCons, qTup, qLst, vals, looks, R.look, R.wk, qCB, qB, qOp2, qTru, truG, qAnd, qOr, qNot, qAndV, qOrV, qNotV, qIfE, qNo, qPart, qSl, gSl, qIt, qRng1, qRng2, qgN, qgNil, qgCons, qgT, notIo_zero, notIo_succ, notIo_nil', slOk_un, slOk_val, slOk_own, slOk_pl, slOk_pd, notIos_nil, notIos_cons, qYes, qLc, qNext, qSeq, qBreak, qCont, qFrz, frz, qDrop, retG, qRet, qRetN, qIf, qSet, qOwn, qAsg, qFor, qMut, ownTy, gAppend, gExtend, gPop, isOwn, qSetIx, qCall, splitArgs, putOuts, setOwn, finOk, endsOf, mk, outsOf, uns,
  gAdd, gInt, gInt0, gEq, gNe, gIn, gNotIn, gIs, gIsNot, Px.isNon, gIx, getP, gLen, gAbs, gIntC, gSum, gMax, gMax2, gMinT, gAll, gAny, gList, gTuple, gIsi, qNeg, qDict0, wipeE, lcGo_nil, br_t, br_f, atI_0, atI_1, atI_2, atI_3, ixN_0, ixN_1, ixN_2, ixN_3, List.length_map, List.length_set, cut_from1, isTy, tyN, gIsiT, asTys, gListD, keyP, isDic, qGet1, qGet2, qLZ, gZip, qPairs, mergeP, qDisp, gDictC, gStr, qChain, qPar, qAug, qMeth, tyIs, gIndex, qLcK, qDc, qDcK, dicAt, qForK, qZipI, qCallB, qCallF, splitB, Option.isSome_some, Option.isSome_none, isEmp_concat, List.getLast?_concat, List.dropLast_concat, List.isEmpty_nil, gEqX, gNeX, List.any_cons, List.any_nil, tyOk_str, tyOk_tuple, tyOk_int, tyOk_bool, tyOk_list, tyOk_dict, Option.map_some, Option.map_none,
  eqOk_str, eqOk_int, eqOk_bl, eqOk_non, eqOkW_str, eqOkW_int, eqOkW_bl, eqOkW_non, gEqW, gNeW, qVals, ownDic, qLc2, gLtX, gGtX, gSortX, peq_str, peq_int, peq_bl, List.getElem?_cons_zero, List.getElem?_cons_succ, List.getElem?_nil, List.set_cons_zero, List.set_cons_succ, List.zipWith_cons_cons, List.zipWith_nil_left, List.replicate_succ, List.replicate_zero, List.cons_append, List.nil_append, List.length_cons, List.length_nil, List.map_cons, List.map_nil, ↓reduceIte, Bool.false_eq_true, and_true, true_and, Bool.not_true, Bool.not_false, Nat.reduceAdd, Nat.reduceLT, Nat.reduceLeDiff, Nat.zero_lt_succ, Nat.lt_add_one, ne_eq, not_true_eq_false, not_false_eq_true, String.reduceEq, String.reduceBEq, Bool.or_false, Bool.false_or, Bool.or_true, Bool.true_or, Bool.and_false, Bool.and_true, Bool.false_and, Bool.true_and, reduceCtorEq, S_tos_fr, S_tos_io, S_key_fr, S_key_io, S_trees_fr, S_trees_io, asBls_map])
theorem callRF_b {S : FS} {rs : List R} {ρ : En} {Q : PK1} {ps : List PV} {bs : List Nat} {dm : Dum Q} (h : splitB ρ S.io rs = some (ps, [], bs)) (hf : S.fr = true) (pre : S.pre ps) (k : ∀ r, S.post ps r [] → immO r = true ∧ Q (.fr r) ρ) : callRF S rs ρ Q dm := by
  unfold callRF
  rw [h]
  refine ⟨⟨List.nodup_nil, fun _ _ => List.not_mem_nil, hf⟩, pre, fun r outs hp l => ?_⟩
  have e : outs = [] := List.length_eq_zero_iff.mp l
  subst e
  obtain ⟨a, b⟩ := k r hp
  exact ⟨⟨a, fun q hq => by cases hq⟩, b⟩
theorem imms_enc : ∀ r : List Tt, imms (r.map encT) = true
  | [] => rfl
  | t :: r => by rw [List.map_cons, imms, imm_enc, imms_enc r]; rfl
theorem tosF_i {ρ : En} {j : Nat} {c : Bool} {ms : Ms} {rows : List (List Tt)} {n : Nat} {i : Int} {Q : PK1} {dm : Dum Q} (hj : ρ[j]? = some (Sl.own c (.lst (rows.map encR)))) (ei : i = (n : Nat)) (hm : MsOk ms) (ho : TosOk rows n) (k : Q (.fr (encR (rowOf ms rows n))) ρ) : callRF S_tos [.pv (encMs ms), .sl j, .pv (.int i)] ρ Q dm := by
  subst ei
  exact callRF_b (ps := [encMs ms, .lst (rows.map encR), .int (n : Nat)]) (bs := [j]) (by simp [S_tos, splitB, hj]) rfl ⟨ms, rows, n, rfl, hm, ho⟩ fun r hp => by
    rw [hp _ _ _ rfl]
    exact ⟨imms_enc _, k⟩
theorem cut_to {α : Type} (xs : List α) (k : Nat) : cutP xs none (some (k : Int)) = xs.take k := by
  unfold cutP
  have e1 : HT.sIx xs.length xs.length (some (k : Int)) = min k xs.length := by rw [HT.sIx_nat]
  have e2 : HT.sIx xs.length 0 none = 0 := rfl
  rw [e1, e2]
  simp only [List.drop_zero, Nat.sub_zero]
  by_cases h : k ≤ xs.length
  · rw [Nat.min_eq_left h]
  · rw [Nat.min_eq_right (by omega), List.take_length, List.take_of_length_le (by omega)]
theorem tosOk_all {ms : Ms} {n : Nat} (h : (fnd ms n).length < 40) (hn : n < 90) : TosOk (allRows ms n) (n + 1) := ⟨by omega, by omega, allRows_len ms n, fun i => row_len h⟩
theorem fnd_end {ms : Ms} {n many : Nat} (hn : n ≤ 89) (h : many ≤ (fnd ms n).length ∨ (¬ (∃ m ∈ ms, 0 < m.2) ∧ 1 ≤ n)) : (fnd ms n).take many = (fnd ms 89).take many := by
  rcases h with h | ⟨h0, h1⟩
  · exact (take_far hn h).symm
  · have e1 := fnd0 h0 (n - 1)
    have e2 := fnd0 h0 88
    rw [show n - 1 + 1 = n by omega] at e1
    rw [e1, e2]
def TI (ms : Ms) (many : Nat) (endless : Bool) (m : Nat) (ρ : En) : Prop := ∃ (n : Nat) (o5 : Option PV), n ≤ 80 ∧ (endless = false → n ≤ 1) ∧ ρ = [.val (.tup (ms.map encM)), .val (.int (many : Nat)), .val (.bl endless), .own false (.lst ((allRows ms n).map encR)), .own false (.lst ((fnd ms n).map encT)), plS o5, .un, .un] ∧ m = 200 - n
theorem TI_i {ms : Ms} {many n : Nat} {endless : Bool} (hn : n < 80) (he : endless = false → n + 1 ≤ 1) : ∃ m', m' < 200 - n ∧ TI ms many endless m' [.val (.tup (ms.map encM)), .val (.int (many : Nat)), .val (.bl endless), .own false (.lst ((allRows ms n).map encR ++ [.lst ((rowOf ms (allRows ms n) (n + 1)).map encT)])), .own false (.lst ((fnd ms n).map encT ++ (rowOf ms (allRows ms n) (n + 1)).map encT)), .val (.lst ((rowOf ms (allRows ms n) (n + 1)).map encT)), .un, .un] := by
  refine ⟨200 - (n + 1), by omega, n + 1, some (.lst ((rowOf ms (allRows ms n) (n + 1)).map encT)), by omega, he, ?_, rfl⟩
  rw [fnd_succ, allRows, List.map_append, List.map_append]
  rfl
section
variable {P : Program} {w : World} {K : PySem.W.Frag} {mg : Str → Option Value} {base : Heap}
theorem ok_trees (T : Txt K mg) : Has P w K mg base "trees" 2 ["makers", "many"] S_trees := by
  refine dv_trees T ((ok_tos T).mono (by omega)) S_trees rfl fun pvs lp pre => ?_
  obtain ⟨ms, many, rfl, hm, l40⟩ := pre
  have told : ∀ {r : PV}, r = encR ((fnd ms 89).take many) → S_trees.post [encMs ms, .int (many : Nat)] r [] := fun {r} e ms2 n2 e2 => by
    injection e2 with e3 e2; injection e2 with e4 _
    injection e4 with e4
    rw [← encMs_inj e3, ← (show many = n2 by omega)]; exact e
  have ml := hm.len
  unfold rd_trees
  show qSeq _ _ (endsOf _ _) [.val (.tup (ms.map encM)), .val (.int (many : Nat)), .un, .un, .un, .un, .un, .un]
  walk_at "px"
  refine lcR_i (lc_ind (fun rs acc ρ => ∃ (done rest : Ms), ms = done ++ rest ∧ rs = rest.map encM ∧ acc = (done.map fun m => decide (0 < m.2)).map PV.bl ∧ ρ = [.val (.tup (ms.map encM)), .val (.int (many : Nat)), .un, .un, .un, .un, .un, .un]) ?_ ?_ _ _ _ ⟨[], ms, rfl, rfl, rfl, rfl⟩)
  · rintro acc ρ ⟨done, rest, e, e2, rfl, rfl⟩
    have e3 := nodrop e2
    subst e3
    rw [List.append_nil] at e
    subst e
    walk_at "px"
    generalize he : (ms.map fun m => decide (0 < m.2)).any id = endless
    have hend : endless = true ↔ ∃ m ∈ ms, 0 < m.2 := by rw [← he]; simp
    clear he
    refine ⟨small_of (by decide), small_of (by decide), small_of (by decide), ?_⟩
    refine while_i (TI ms many endless) _ ⟨0, none, by omega, fun _ => by omega, rfl, rfl⟩ ?_
    rintro m ρ ⟨n, o5, n80, nend, rfl, rfl⟩
    have al := allRows_len ms n
    have stop : (many ≤ (fnd ms n).length ∨ (endless = false ∧ 1 ≤ n)) → S_trees.post [encMs ms, .int (many : Nat)] (.lst (cutP ((fnd ms n).map encT) none (some (many : Int)))) [] := fun h => by
      refine told ?_
      rw [cut_map, cut_to, fnd_end (by omega) (h.imp_right fun h => ⟨fun z => by rw [hend.mpr z] at h; exact Bool.noConfusion h.1, h.2⟩)]
      rfl
    have n0 : ((((allRows ms n).length : Nat) : Int) == 1) = decide (n = 0) := by
      rw [al]
      by_cases h : n = 0
      · subst h; rfl
      · simp [h]; omega
    have lf : decide ((((fnd ms n).length : Nat) : Int) < ((many : Nat) : Int)) = decide ((fnd ms n).length < many) := by
      by_cases h : (fnd ms n).length < many <;> simp [h] <;> omega
    by_cases hc : (fnd ms n).length < many ∧ (endless = true ∨ n = 0)
    · obtain ⟨h1, h2⟩ := hc
      have b1 : decide ((fnd ms n).length < many) = true := by simpa using h1
      have hn : n < 80 := by
        rcases h2 with h2 | h2
        · rcases Nat.lt_or_ge n 80 with h | h
          · exact h
          · have := fnd_long2 hm (hend.mp h2) h; omega
        · omega
      have nx2 : endless = false → n + 1 ≤ 1 := fun z => by
        rcases h2 with h2 | h2
        · rw [h2] at z; cases z
        · omega
      have tl := rowOf_len hm (n := n) (by omega) (by omega)
      have ee : encR (rowOf ms (allRows ms n) (n + 1)) = .lst ((rowOf ms (allRows ms n) (n + 1)).map encT) := rfl
      walk_at "px"
      rw [n0, lf]
      refine ⟨fun _ => ⟨fun he => ?_, fun he => ⟨fun h0 => ?_, fun h0 => ?_⟩⟩, fun h => ?_⟩
      · refine tosF_i (ms := ms) rfl (by rw [al]) hm (tosOk_all (by omega) (by omega)) ?_
        rw [ee]
        walk_at "px"
        exact ⟨small_of (by omega), small_of (by omega), TI_i hn nx2⟩
      · refine tosF_i (ms := ms) rfl (by rw [al]) hm (tosOk_all (by omega) (by omega)) ?_
        rw [ee]
        walk_at "px"
        exact ⟨small_of (by omega), small_of (by omega), TI_i hn nx2⟩
      · rcases h2 with h2 | h2
        · rw [h2] at he; cases he
        · simp only [decide_eq_false_iff_not] at h0; exact absurd h2 h0
      · rw [b1] at h; cases h
    · walk_at "px"
      rw [n0, lf]
      refine ⟨fun h1 => ⟨fun he => ?_, fun he => ⟨fun h0 => ?_, fun h0 => ?_⟩⟩, fun h => ?_⟩
      · exact absurd ⟨by simpa using h1, .inl he⟩ hc
      · exact absurd ⟨by simpa using h1, .inr (by simpa using h0)⟩ hc
      · exact stop (.inr ⟨he, by simp at h0; omega⟩)
      · exact stop (.inl (by simp at h; omega))
  · rintro q rs acc ρ ⟨done, rest, e, e2, rfl, rfl⟩ N ih
    obtain ⟨t, rest, rfl, rfl, rfl⟩ := map_cons_inv e2
    have ll := congrArg List.length e
    simp only [List.length_append, List.length_cons] at ll
    show qgT 2 _ (.tup [.str t.1, .int (t.2 : Nat)]) _ _
    walk_at "px"
    refine ⟨small_of (by omega), ih _ _ ⟨done ++ [t], rest, by rw [e]; simp, rfl, ?_, rfl⟩⟩
    have : decide ((0 : Int) < ((t.2 : Nat) : Int)) = decide (0 < t.2) := by
      by_cases h : 0 < t.2 <;> simp [h] <;> omega
    rw [List.map_append, List.map_append]
    simp
end

end Lw
set_option maxHeartbeats 4000000
namespace Lw
open PySem L2 PyProof.Rows Px
local macro_rules | `(tactic| walk_at "px") => `(tactic| simp -dsimp only [qVar, qK, qNil, qCons, qTup, qLst, vals, looks, R.look, R.wk, qCB, qB, qOp2, qTru, truG, qAnd, qOr, qNot, qAndV, qOrV, qNotV, qIfE, qNo, qPart, qSl, gSl, qIt, qRng1, qRng2, qgN, qgNil, qgCons, qgT, notIo_zero, notIo_succ, notIo_nil', slOk_un, slOk_val, slOk_own, slOk_pl, slOk_pd, notIos_nil, notIos_cons, qYes, qLc, qNext, qSeq, qBreak, qCont, qFrz, frz, qDrop, retG, qRet, qRetN, qIf, qSet, qOwn, qAsg, qFor, qMut, ownTy, gAppend, gExtend, gPop, isOwn, qSetIx, qCall, splitArgs, putOuts, setOwn, finOk, endsOf, mk, outsOf, uns,
  gAdd, gInt, gInt0, gEq, gNe, gIn, gNotIn, gIs, gIsNot, Px.isNon, gIx, getP, gLen, gAbs, gIntC, gSum, gMax, gMax2, gMinT, gAll, gAny, gList, gTuple, gIsi, qNeg, qDict0, wipeE, lcGo_nil, br_t, br_f, atI_0, atI_1, atI_2, atI_3, ixN_0, ixN_1, ixN_2, ixN_3, List.length_map, List.length_set, cut_from1, isTy, tyN, gIsiT, asTys, gListD, keyP, isDic, qGet1, qGet2, qLZ, gZip, qPairs, mergeP, qDisp, gDictC, gStr, qChain, qPar, qAug, qMeth, tyIs, gIndex, qLcK, qDc, qDcK, dicAt, qForK, qZipI, qCallB, qCallF, splitB, Option.isSome_some, Option.isSome_none, isEmp_concat, List.getLast?_concat, List.dropLast_concat, List.isEmpty_nil, gEqX, gNeX, List.any_cons, List.any_nil, tyOk_str, tyOk_tuple, tyOk_int, tyOk_bool, tyOk_list, tyOk_dict, Option.map_some, Option.map_none,
  eqOk_str, eqOk_int, eqOk_bl, eqOk_non, eqOkW_str, eqOkW_int, eqOkW_bl, eqOkW_non, gEqW, gNeW, qVals, ownDic, qLc2, gLtX, gGtX, gSortX, peq_str, peq_int, peq_bl, List.getElem?_cons_zero, List.getElem?_cons_succ, List.getElem?_nil, List.set_cons_zero, List.set_cons_succ, List.zipWith_cons_cons, List.zipWith_nil_left, List.replicate_succ, List.replicate_zero, List.cons_append, List.nil_append, List.length_cons, List.length_nil, List.map_cons, List.map_nil, ↓reduceIte, Bool.false_eq_true, and_true, true_and, Bool.not_true, Bool.not_false, Nat.reduceAdd, Nat.reduceLT, Nat.reduceLeDiff, Nat.zero_lt_succ, Nat.lt_add_one, ne_eq, not_true_eq_false, not_false_eq_true, String.reduceEq, String.reduceBEq, Bool.or_false, Bool.false_or, Bool.or_true, Bool.true_or, Bool.and_false, Bool.and_true, Bool.false_and, Bool.true_and, reduceCtorEq, S_key_fr, S_key_io, S_trees_fr, S_trees_io])
theorem dp_sz : ∀ t : Tt, Un.dp t ≤ Un.sz t := by
  have key : ∀ n (t : Tt), Un.sz t ≤ n → Un.dp t ≤ Un.sz t := by
    intro n
    induction n with
    | zero => intro t h; have := Un.sz_pos t; omega
    | succ n ih =>
      intro t h
      cases t with
      | v x => rw [Un.dp]; omega
      | n w ps =>
        rw [Un.sz] at h
        rw [Un.dp, Un.sz]
        have : ∀ qs : List Tt, Un.szs qs ≤ n → Un.dps qs ≤ Un.szs qs := by
          intro qs
          induction qs with
          | nil => intro _; rw [Un.dps]; omega
          | cons q qs ih2 =>
            intro hq
            rw [Un.szs] at hq
            rw [Un.dps, Un.szs]
            have := ih q (by omega)
            have := ih2 (by omega)
            omega
        have := this ps (by omega)
        omega
  exact fun t => key _ t (Nat.le_refl _)
mutual
theorem tree_alike {ms : Ms} : ∀ a b : Tt, gT ms a → gT ms b → PySem.W.alike (toD (encT a)) (toD (encT b)) = true
  | .n w ps, .n v qs, h, g => by
    rw [encT, encT, toD, toD, PySem.W.alike, toDs, toDs, PySem.W.alikeAll, toD, toD, PySem.W.alike, trees_alike ps qs h.2 g.2]; rfl
  | .v _, _, h, _ => h.elim
  | .n _ _, .v _, _, h => h.elim
theorem trees_alike {ms : Ms} : ∀ as bs : List Tt, gTs ms as → gTs ms bs → PySem.W.alikeAll (toDs (encTs as)) (toDs (encTs bs)) = true
  | p :: ps, q :: qs, h, g => by
    rw [encTs, encTs, toDs, toDs, PySem.W.alikeAll, tree_alike p q h.1 g.1, trees_alike ps qs h.2 g.2]; rfl
  | [], _, _, _ => by rw [encTs, toDs, PySem.W.alikeAll]
  | _ :: _, [], _, _ => by rw [encTs, encTs, toDs, toDs, PySem.W.alikeAll]
end
def kt (ms : Ms) (t : Tt) : PV := .tup [keyD ms t, encT t]
theorem kt_ok {ms : Ms} {t : Tt} (h : Un.dp t ≤ 100) : eqOkW (kt ms t) ∧ ∃ x r, kt ms t = .tup (x :: r) := by
  refine ⟨⟨?_, ?_⟩, _, _, rfl⟩
  · rw [kt, Px.plain, plains, plains, plains, key_plain, tsh_plain _ (tsh_enc t)]; rfl
  · rw [kt, dep, deps, deps, deps, key_dep, dep_enc]; omega
theorem kt_alike {ms : Ms} {a b : Tt} (h : gT ms a) (g : gT ms b) : PySem.W.alike (toD (kt ms a)) (toD (kt ms b)) = true := by
  rw [kt, kt, toD, toD, PySem.W.alike, toDs, toDs, toDs, toDs, toDs, toDs, PySem.W.alikeAll, PySem.W.alikeAll, key_alike a b h g, tree_alike a b h g, PySem.W.alikeAll]; rfl
theorem kt_le {ms : Ms} (nd : (ms.map (·.1)).Nodup) {a b : Tt} (h : gT ms a) (g : gT ms b) (c : cmpT ms a b = -1) : leX (kt ms a) (kt ms b) = true := by
  have e : leX (kt ms a) (kt ms b) = !PySem.W.dataLt (toD (kt ms b)) (toD (kt ms a)) := rfl
  have c2 := cmpT_anti a b h g
  have ne : ¬ PyData.eqv (toD (keyD ms b)) (toD (keyD ms a)) = true := fun z => by
    have := (key_eqv nd b a g h).mp z
    rw [this, cmpT_self] at c; cases c
  rw [e, kt, kt, toD, toD, toDs, toDs, toDs, toDs, toDs, toDs, PySem.W.dataLt_pair (key_alike b a g h) (tree_alike b a g h), if_neg ne, key_lt nd b a g h, c2, c]
  rfl
theorem kt_sorted {ms : Ms} (nd : (ms.map (·.1)).Nodup) {l : List Tt} (h : Asc ms l) (g : ∀ t ∈ l, gT ms t) : (l.map (kt ms)).mergeSort leX = l.map (kt ms) := by
  refine List.mergeSort_of_pairwise (List.pairwise_map.mpr (h.imp_of_mem fun {a b} ha hb c => kt_le nd (g a ha) (g b hb) c))
section
variable {P : Program} {w : World} {K : PySem.W.Frag} {mg : Str → Option Value} {base : Heap}
theorem ok_law_trees (T : Txt K mg) : Has P w K mg base "_law_trees" 110 ["makers", "many"] S_trees := by
  refine dv__law_trees T ((ok_key T 100).mono (by omega)) S_trees rfl fun pvs lp pre => ?_
  obtain ⟨ms, many, rfl, hm, l40⟩ := pre
  have told : ∀ {r : PV}, r = encR ((fnd ms 89).take many) → S_trees.post [encMs ms, .int (many : Nat)] r [] := fun {r} e ms2 n2 e2 => by
    injection e2 with e3 e2; injection e2 with e4 _
    injection e4 with e4
    rw [← encMs_inj e3, ← (show many = n2 by omega)]; exact e
  have ml := hm.len
  have nd := hm.nd
  unfold rd__law_trees
  show qSeq _ _ (endsOf _ _) [.val (.tup (ms.map encM)), .val (.int (many : Nat)), .un, .un, .un, .un, .un, .un, .un, .un, .un, .un, .un, .un]
  walk_at "px"
  refine ⟨small_of (by decide), small_of (by decide), small_of (by decide), ⟨by unfold rngOk; decide, by unfold rngOk; decide⟩, ?_⟩
  refine for_ind (fun rs ρ => ∃ (n : Nat) (o4 o5 o6 o7 o8 o9 o10 o11 : Option PV), n ≤ 89 ∧ rs = (List.range' n (89 - n)).map (fun k => PV.int (1 + (k : Nat))) ∧ ρ = [.val (.tup (ms.map encM)), .val (.int (many : Nat)), .own false (.lst ((allRows ms n).map encR)), .val (.lst ((fnd ms n).map encT)), plS o4, plS o5, plS o6, plS o7, plS o8, plS o9, plS o10, plS o11, .un, .un]) ?_ ?_ _ _ ⟨0, none, none, none, none, none, none, none, none, by omega, rfl, rfl⟩
  · rintro ρ ⟨n, o4, o5, o6, o7, o8, o9, o10, o11, h89, e, rfl⟩
    have e89 : n = 89 := by
      rcases Nat.lt_or_ge n 89 with h | h
      · obtain ⟨c, hc⟩ : ∃ c, 89 - n = c + 1 := ⟨88 - n, by omega⟩
        rw [hc, List.range'_succ] at e; simp at e
      · omega
    subst e89
    walk_at "px"
    refine told ?_
    rw [cut_map, cut_to]; rfl
  · rintro q rs ρ ⟨n, o4, o5, o6, o7, o8, o9, o10, o11, h89, e, rfl⟩ N ih
    have hn : n < 89 := by
      rcases Nat.lt_or_ge n 89 with h | h
      · exact h
      · rw [show 89 - n = 0 by omega] at e; simp at e
    obtain ⟨c, hc⟩ : ∃ c, 89 - n = c + 1 := ⟨88 - n, by omega⟩
    rw [hc, List.range'_succ, List.map_cons, List.cons.injEq] at e
    obtain ⟨rfl, rfl⟩ := e
    have ec : c = 89 - (n + 1) := by omega
    have al := allRows_len ms n
    generalize hZ : qSeq (qSet 10 _) _ = Z
    generalize hD : ({ nx := N, rt := _, bk := _, ct := N } : PEnds) = D
    by_cases hc : (fnd ms n).length < many
    case neg =>
      subst hD
      walk_at "px"
      refine ⟨fun _ => ?_, fun h => ?_⟩
      · refine told ?_
        rw [cut_map, cut_to, fnd_end (by omega) (.inl (by omega))]; rfl
      · simp at h; omega
    have ho : TosOk (allRows ms n) (n + 1) := tosOk_all (by omega) (by omega)
    have tl := rowOf_len hm (n := n) (by omega) (by omega)
    have fin : ∀ (o4 o6 o7 o8 o9 o11 : Option PV), Z D [.val (.tup (ms.map encM)), .val (.int (many : Nat)), .own false (.lst ((allRows ms n).map encR)), .val (.lst ((fnd ms n).map encT)), .val (.int (1 + (n : Nat))), .val (.lst ((row ms n).map encT)), plS o6, plS o7, plS o8, plS o9, plS o10, plS o11, .un, .un] := fun o4 o6 o7 o8 o9 o11 => by
      subst hZ hD
      have rel := row_el nd n
      have rln : (row ms n).length ≤ 720000 := tl
      have dpn : ∀ t ∈ row ms n, Un.dp t ≤ 90 := fun t ht => by
        have := (rel t ht).1
        have := dp_sz t
        omega
      have eall : (allRows ms n).map encR ++ [.lst ((row ms n).map encT)] = (allRows ms (n + 1)).map encR := by rw [allRows, List.map_append]; rfl
      walk_at "px"
      refine lcR_i (lc_ind (fun rs acc ρ => ∃ (dn rs1 : List Tt), row ms n = dn ++ rs1 ∧ rs = rs1.map encT ∧ acc = dn.map (kt ms) ∧ ρ = [.val (.tup (ms.map encM)), .val (.int (many : Nat)), .own false (.lst ((allRows ms n).map encR)), .val (.lst ((fnd ms n).map encT)), .val (.int (1 + (n : Nat))), .val (.lst ((row ms n).map encT)), plS o6, plS o7, plS o8, plS o9, plS o10, plS o11, .un, .un]) ?_ ?_ _ _ _ ⟨[], _, rfl, rfl, rfl, rfl⟩)
      · rintro acc ρ ⟨dn, rs1, e1, e2, rfl, rfl⟩
        have e3 := nodrop e2
        subst e3
        rw [List.append_nil] at e1
        rw [← e1]
        walk_at "px"
        rw [kt_sorted nd (row_pw nd n) fun t ht => (rel t ht).2]
        refine ⟨fun p hp => ?_, fun p hp q hq => ?_, small_of (by omega), ?_⟩
        · obtain ⟨t, ht, rfl⟩ := List.mem_map.mp hp
          exact kt_ok (by have := dpn t ht; omega)
        · obtain ⟨t, ht, rfl⟩ := List.mem_map.mp hp
          obtain ⟨u, hu, rfl⟩ := List.mem_map.mp hq
          exact kt_alike (rel t ht).2 (rel u hu).2
        refine lcR_i (lc_ind (fun rs acc ρ => ∃ (dn rs1 : List Tt), row ms n = dn ++ rs1 ∧ rs = rs1.map (kt ms) ∧ acc = dn.map encT ∧ ρ = [.val (.tup (ms.map encM)), .val (.int (many : Nat)), .own false (.lst ((allRows ms n).map encR)), .val (.lst ((fnd ms n).map encT)), .val (.int (1 + (n : Nat))), .val (.lst ((row ms n).map encT)), plS o6, plS o7, plS o8, plS o9, .val (.lst ((row ms n).map (kt ms))), plS o11, .un, .un]) ?_ ?_ _ _ _ ⟨[], _, rfl, rfl, rfl, rfl⟩)
        · rintro acc ρ ⟨dn, rs1, e4, e5, rfl, rfl⟩
          have e6 := nodrop e5
          subst e6
          rw [List.append_nil] at e4
          rw [← e4]
          walk_at "px"
          rw [eall, at_row (rows := allRows ms (n + 1)) (i := n + 1) (by rw [allRows_len]; omega) (by omega), allRows_at ms (n + 1) n (by omega)]
          have ee : encR (row ms n) = .lst ((row ms n).map encT) := rfl
          rw [ee]
          walk_at "px"
          refine ⟨small_of (by omega), small_of (by omega), ih _ ⟨n + 1, some (.int (1 + (n : Nat))), some (.lst ((row ms n).map encT)), o6, o7, o8, o9, some (.lst ((row ms n).map (kt ms))), o11, by omega, by rw [ec], ?_⟩⟩
          rw [fnd_succ, List.map_append]
          rfl
        · rintro q rs acc ρ ⟨dn, rs1, e4, e5, rfl, rfl⟩ N3 ih3
          obtain ⟨t, rs1, rfl, rfl, rfl⟩ := map_cons_inv e5
          have ll := congrArg List.length e4
          simp only [List.length_append, List.length_cons] at ll
          show qgT 2 _ (.tup [keyD ms t, encT t]) _ _
          walk_at "px"
          exact ⟨small_of (by omega), ih3 _ _ ⟨dn ++ [t], rs1, by rw [e4]; simp, rfl, by simp, rfl⟩⟩
      · rintro q rs acc ρ ⟨dn, rs1, e1, e2, rfl, rfl⟩ N3 ih3
        obtain ⟨t, rs1, rfl, rfl, rfl⟩ := map_cons_inv e2
        have tm : t ∈ row ms n := by rw [e1]; simp
        have ll := congrArg List.length e1
        simp only [List.length_append, List.length_cons] at ll
        walk_at "px"
        refine key_i (ms := ms) hm (rel t tm).2 (by have := dpn t tm; omega) ?_
        walk_at "px"
        exact ⟨small_of (by decide), small_of (by omega), ih3 _ _ ⟨dn ++ [t], rs1, by rw [e1]; simp, rfl, by rw [List.map_append]; rfl, rfl⟩⟩
    walk_at "px"
    refine ⟨fun h => ?_, fun _ => ⟨small_of (by decide), ?_⟩⟩
    · simp at h; omega
    refine for_ind (fun rs ρ => ∃ (done rest : Ms) (o6 o7 o8 o9 o11 : Option PV), ms = done ++ rest ∧ rs = rest.map encM ∧ ρ = [.val (.tup (ms.map encM)), .val (.int (many : Nat)), .own false (.lst ((allRows ms n).map encR)), .val (.lst ((fnd ms n).map encT)), .val (.int (1 + (n : Nat))), .val (.lst ((done.flatMap (rowM (allRows ms n) (n + 1))).map encT)), plS o6, plS o7, plS o8, plS o9, plS o10, plS o11, .un, .un]) ?_ ?_ _ _ ⟨[], ms, o6, o7, o8, o9, o11, rfl, rfl, rfl⟩
    · rintro ρ ⟨done, rest, o6, o7, o8, o9, o11, e, e2, rfl⟩
      have e3 := nodrop e2
      subst e3
      rw [List.append_nil] at e
      have fin' := fin o4 o6 o7 o8 o9 o11
      have er : row ms n = done.flatMap (rowM (allRows ms n) (n + 1)) := by rw [← e]; rfl
      rw [er] at fin'
      exact fin'
    · rintro q rs ρ ⟨done, rest, o6, o7, o8, o9, o11, e, e2, rfl⟩ N2 ih2
      obtain ⟨m, rest, rfl, rfl, rfl⟩ := map_cons_inv e2
      obtain ⟨wd, k⟩ := m
      have hmm : (wd, k) ∈ ms := by rw [e]; simp
      have k2 := hm.two _ hmm
      simp only at k2
      have ll := congrArg List.length e
      simp only [List.length_append, List.length_cons] at ll
      have dl := flat_le (B := 144000) (f := rowM (allRows ms n) (n + 1)) done fun m _ => inner_le ho.sm (by omega) m
      have dl2 : done.length * 144000 ≤ 5 * 144000 := Nat.mul_le_mul_right _ (by omega)
      have nxt : ∀ (o6 o7 o8 o9 o11 : Option PV) (l : List Tt), l = rowM (allRows ms n) (n + 1) (wd, k) → N2 [.val (.tup (ms.map encM)), .val (.int (many : Nat)), .own false (.lst ((allRows ms n).map encR)), .val (.lst ((fnd ms n).map encT)), .val (.int (1 + (n : Nat))), .val (.lst ((done.flatMap (rowM (allRows ms n) (n + 1))).map encT ++ l.map encT)), plS o6, plS o7, plS o8, plS o9, plS o10, plS o11, .un, .un] := fun o6 o7 o8 o9 o11 l hl => by
        refine ih2 _ ⟨done ++ [(wd, k)], rest, o6, o7, o8, o9, o11, by rw [e]; simp, rfl, ?_⟩
        rw [hl, List.flatMap_append, List.flatMap_singleton, List.map_append]
      have n1 : ((1 + ((n : Nat) : Int)) == 1) = decide (n = 0) := by
        by_cases h : n = 0
        · subst h; rfl
        · simp only [h, decide_false, beq_eq_false_iff_ne]; omega
      show qgT 2 _ (.tup [.str wd, .int (k : Nat)]) _ _
      rcases (show k = 0 ∨ k = 1 ∨ k = 2 by omega) with rfl | rfl | rfl
      · walk_at "px"
        rw [show (((0 : Nat) : Int) == 0) = true from rfl, show (((0 : Nat) : Int) == 1) = false from rfl, n1]
        walk_at "px"
        rw [show (((0 : Nat) : Int) == 2) = false from rfl]
        walk_at "px"
        refine ⟨fun h => ⟨small_of (by decide), small_of (by decide), small_of (by omega), ?_⟩, fun h => ?_⟩
        · have e1 : n = 0 := by simpa using h
          have := nxt (some (.str wd)) (some (.int ((0 : Nat) : Int))) o8 o9 o11 [.n wd []] (by unfold rowM; rw [if_pos rfl, if_pos (by omega)])
          rw [List.map_cons, List.map_nil, encT_n] at this
          exact this
        · have e1 : ¬ n = 0 := by simpa using h
          have := nxt (some (.str wd)) (some (.int ((0 : Nat) : Int))) o8 o9 o11 [] (by unfold rowM; rw [if_pos rfl, if_neg (by omega)])
          rw [List.map_nil, List.append_nil] at this
          exact this
      · walk_at "px"
        rw [show (((1 : Nat) : Int) == 0) = false from rfl, show (((1 : Nat) : Int) == 1) = true from rfl]
        walk_at "px"
        rw [at_row (rows := allRows ms n) (i := n) (by omega) (by omega)]
        show lcR _ _ _ _ (((allRows ms n).getD n []).map encT) _ _ _
        refine lcR_i (lc_ind (fun rs acc ρ => ∃ (dn rs1 : List Tt), (allRows ms n).getD n [] = dn ++ rs1 ∧ rs = rs1.map encT ∧ acc = (dn.map fun a => Un.Tm.n wd [a]).map encT ∧ ρ = [.val (.tup (ms.map encM)), .val (.int (many : Nat)), .own false (.lst ((allRows ms n).map encR)), .val (.lst ((fnd ms n).map encT)), .val (.int (1 + (n : Nat))), .val (.lst ((done.flatMap (rowM (allRows ms n) (n + 1))).map encT)), .val (.str wd), .val (.int ((1 : Nat) : Int)), plS o8, .un, plS o10, plS o11, .un, .un]) ?_ ?_ _ _ _ ⟨[], _, rfl, rfl, rfl, rfl⟩)
        · rintro acc ρ ⟨dn, rs1, e1, e2, rfl, rfl⟩
          have e3 := nodrop e2
          subst e3
          rw [List.append_nil] at e1
          have sm := ho.sm n
          rw [e1] at sm
          walk_at "px"
          rw [show (((1 : Nat) : Int) == 2) = false from rfl]
          walk_at "px"
          refine ⟨small_of (by omega), ?_⟩
          exact nxt (some (.str wd)) (some (.int ((1 : Nat) : Int))) o8 none o11 _ (by unfold rowM; rw [if_neg (by omega), if_pos rfl, show n + 1 - 1 = n by omega, e1])
        · rintro q rs acc ρ ⟨dn, rs1, e1, e2, rfl, rfl⟩ N3 ih3
          obtain ⟨t, rs1, rfl, rfl, rfl⟩ := map_cons_inv e2
          have ll := congrArg List.length e1
          have sm := ho.sm n
          simp only [List.length_append, List.length_cons] at ll
          walk_at "px"
          refine ⟨small_of (by decide), small_of (by omega), ih3 _ _ ⟨dn ++ [t], rs1, by rw [e1]; simp, rfl, ?_, rfl⟩⟩
          rw [List.map_append, List.map_append, List.map_cons, List.map_nil, List.map_cons, List.map_nil, encT_n]
          rfl
      · walk_at "px"
        rw [show (((2 : Nat) : Int) == 0) = false from rfl, show (((2 : Nat) : Int) == 1) = false from rfl]
        walk_at "px"
        rw [show (((2 : Nat) : Int) == 2) = true from rfl]
        walk_at "px"
        refine ⟨⟨by unfold rngOk; decide, by unfold rngOk; omega⟩, ?_⟩
        refine for_ind (fun rs ρ => ∃ (j c : Nat) (o8 o9 o11 : Option PV), j + c = n - 1 ∧ rs = (List.range' j c).map (fun k => PV.int (1 + (k : Nat))) ∧ ρ = [.val (.tup (ms.map encM)), .val (.int (many : Nat)), .own false (.lst ((allRows ms n).map encR)), .val (.lst ((fnd ms n).map encT)), .val (.int (1 + (n : Nat))), .val (.lst ((done.flatMap (rowM (allRows ms n) (n + 1))).map encT ++ ((List.range' 1 j).flatMap (pairsOf (allRows ms n) (n + 1) wd)).map encT)), .val (.str wd), .val (.int ((2 : Nat) : Int)), plS o8, plS o9, plS o10, plS o11, .un, .un]) ?_ ?_ _ _ ⟨0, n - 1, o8, o9, o11, by omega, ?_, by simp⟩
        · rintro ρ ⟨j, c, o8, o9, o11, e1, e2, rfl⟩
          have e3 : c = 0 := by
            cases c with
            | zero => rfl
            | succ c => rw [List.range'_succ] at e2; simp at e2
          subst e3
          rw [Nat.add_zero] at e1
          exact nxt (some (.str wd)) (some (.int ((2 : Nat) : Int))) o8 o9 o11 _ (by unfold rowM; rw [if_neg (by omega), if_neg (by omega), if_pos rfl, show n + 1 - 2 = n - 1 by omega, e1]; rfl)
        · rintro q rs ρ ⟨j, c, o8, o9, o11, e1, e2, rfl⟩ N3 ih3
          cases c with
          | zero => simp at e2
          | succ c =>
            rw [List.range'_succ, List.map_cons, List.cons.injEq] at e2
            obtain ⟨rfl, rfl⟩ := e2
            have fl := flat_le (B := 1600) (f := pairsOf (allRows ms n) (n + 1) wd) (List.range' 1 j) fun l _ => pairsOf_len ho wd l
            rw [List.length_range'] at fl
            have fl2 : j * 1600 ≤ 90 * 1600 := Nat.mul_le_mul_right _ (by omega)
            walk_at "px"
            rw [at_row (rows := allRows ms n) (i := j + 1) (by omega) (by omega)]
            show forGo _ _ _ (((allRows ms n).getD (j + 1) []).map encT) _
            refine for_ind (fun rs ρ => ∃ (dn rs1 : List Tt) (o9 o11 : Option PV), (allRows ms n).getD (j + 1) [] = dn ++ rs1 ∧ rs = rs1.map encT ∧ ρ = [.val (.tup (ms.map encM)), .val (.int (many : Nat)), .own false (.lst ((allRows ms n).map encR)), .val (.lst ((fnd ms n).map encT)), .val (.int (1 + (n : Nat))), .val (.lst (((done.flatMap (rowM (allRows ms n) (n + 1))).map encT ++ ((List.range' 1 j).flatMap (pairsOf (allRows ms n) (n + 1) wd)).map encT) ++ (dn.flatMap fun a => ((allRows ms n).getD (n + 1 - 1 - (j + 1)) []).map fun b => Un.Tm.n wd [a, b]).map encT)), .val (.str wd), .val (.int ((2 : Nat) : Int)), .val (.int (1 + (j : Nat))), plS o9, plS o10, plS o11, .un, .un]) ?_ ?_ _ _ ⟨[], _, o9, o11, rfl, rfl, by simp⟩
            · rintro ρ ⟨dn, rs1, o9, o11, e3, e4, rfl⟩
              have e5 := nodrop e4
              subst e5
              rw [List.append_nil] at e3
              refine ih3 _ ⟨j + 1, c, some (.int (1 + (j : Nat))), o9, o11, by omega, rfl, ?_⟩
              rw [List.range'_concat, List.flatMap_append, List.flatMap_singleton, List.map_append, ← List.append_assoc]
              have : pairsOf (allRows ms n) (n + 1) wd (1 + 1 * j) = dn.flatMap fun a => ((allRows ms n).getD (n + 1 - 1 - (j + 1)) []).map fun b => Un.Tm.n wd [a, b] := by
                unfold pairsOf
                rw [show 1 + 1 * j = j + 1 by omega, e3]
              rw [this]
              rfl
            · rintro q rs ρ ⟨dn, rs1, o9, o11, e3, e4, rfl⟩ N4 ih4
              obtain ⟨a, rs1, rfl, rfl, rfl⟩ := map_cons_inv e4
              have ll := congrArg List.length e3
              have sm := ho.sm (j + 1)
              have sm2 := ho.sm (n + 1 - 1 - (j + 1))
              simp only [List.length_append, List.length_cons] at ll
              have dl3 := flat_le (B := 40) (f := fun a => ((allRows ms n).getD (n + 1 - 1 - (j + 1)) []).map fun b => Un.Tm.n wd [a, b]) dn fun a _ => by rw [List.length_map]; exact sm2
              have dl4 : dn.length * 40 ≤ 40 * 40 := Nat.mul_le_mul_right _ (by omega)
              walk_at "px"
              rw [at_row (rows := allRows ms n) (i := n + 1 - 1 - (j + 1)) (by omega) (by omega)]
              show lcR _ _ _ _ (((allRows ms n).getD (n + 1 - 1 - (j + 1)) []).map encT) _ _ _
              refine lcR_i (lc_ind (fun rs acc ρ => ∃ (dm rm : List Tt), (allRows ms n).getD (n + 1 - 1 - (j + 1)) [] = dm ++ rm ∧ rs = rm.map encT ∧ acc = (dm.map fun b => Un.Tm.n wd [a, b]).map encT ∧ ρ = [.val (.tup (ms.map encM)), .val (.int (many : Nat)), .own false (.lst ((allRows ms n).map encR)), .val (.lst ((fnd ms n).map encT)), .val (.int (1 + (n : Nat))), .val (.lst (((done.flatMap (rowM (allRows ms n) (n + 1))).map encT ++ ((List.range' 1 j).flatMap (pairsOf (allRows ms n) (n + 1) wd)).map encT) ++ (dn.flatMap fun a => ((allRows ms n).getD (n + 1 - 1 - (j + 1)) []).map fun b => Un.Tm.n wd [a, b]).map encT)), .val (.str wd), .val (.int ((2 : Nat) : Int)), .val (.int (1 + (j : Nat))), .val (encT a), plS o10, .un, .un, .un]) ?_ ?_ _ _ _ ⟨[], _, rfl, rfl, rfl, rfl⟩)
              · rintro acc ρ ⟨dm, rm, e5, e6, rfl, rfl⟩
                have e7 := nodrop e6
                subst e7
                rw [List.append_nil] at e5
                rw [e5] at sm2
                walk_at "px"
                refine ⟨small_of (by simp only [List.length_append, List.length_map]; omega), ih4 _ ⟨dn ++ [a], rs1, some (encT a), none, by rw [e3]; simp, rfl, ?_⟩⟩
                rw [List.flatMap_append, List.flatMap_singleton, List.map_append, ← e5, List.append_assoc]
                rfl
              · rintro q rs acc ρ ⟨dm, rm, e5, e6, rfl, rfl⟩ N5 ih5
                obtain ⟨b, rm, rfl, rfl, rfl⟩ := map_cons_inv e6
                have ll2 := congrArg List.length e5
                simp only [List.length_append, List.length_cons] at ll2
                walk_at "px"
                refine ⟨small_of (by decide), small_of (by omega), ih5 _ _ ⟨dm ++ [b], rm, by rw [e5]; simp, rfl, ?_, rfl⟩⟩
                rw [List.map_append, List.map_append, List.map_cons, List.map_nil, List.map_cons, List.map_nil, encT_n]
                rfl
        · rw [rng, List.range_eq_range']
          have : (1 + ((n : Nat) : Int) - 1 - 1).toNat = n - 1 := by omega
          rw [this]
end

end Lw
set_option maxHeartbeats 4000000
namespace Lw
open PySem L2 PyProof.Rows Px
def S_sign : FS := { io := [false, false, false], pre := fun ps => ∃ (ms : Ms) (a b : Tt), ps = [encMs ms, encT a, encT b] ∧ MsOk ms ∧ gT ms a ∧ gT ms b ∧ Un.dp a ≤ 95 ∧ Un.dp b ≤ 95, post := fun ps r _ => ∀ (ms : Ms) (a b : Tt), ps = [encMs ms, encT a, encT b] → r = .int (cmpT ms a b) }
theorem S_sign_fr : S_sign.fr = false := rfl
theorem S_sign_io : S_sign.io = [false, false, false] := rfl
def S_right : FS := { io := [false, false, false], pre := fun ps => ∃ (ms : Ms) (a b : Tt), ps = [encMs ms, encT a, encT b] ∧ MsOk ms ∧ gT ms a ∧ gT ms b ∧ Un.dp a ≤ 95 ∧ Un.dp b ≤ 95, post := fun _ r _ => r = .bl true }
theorem S_right_fr : S_right.fr = false := rfl
theorem S_right_io : S_right.io = [false, false, false] := rfl
local macro_rules | `(tactic| walk_at "px") => `(tactic| simp -dsimp only [qVar, qK, qNil, qCons, qTup, qLst, vals, looks, R.look, R.wk, qCB, qB, qOp2, qTru, truG, qAnd, qOr, qNot, qAndV, qOrV, qNotV, qIfE, qNo, qPart, qSl, gSl, qIt, qRng1, qRng2, qgN, qgNil, qgCons, qgT, notIo_zero, notIo_succ, notIo_nil', slOk_un, slOk_val, slOk_own, slOk_pl, slOk_pd, notIos_nil, notIos_cons, qYes, qLc, qNext, qSeq, qBreak, qCont, qFrz, frz, qDrop, retG, qRet, qRetN, qIf, qSet, qOwn, qAsg, qFor, qMut, ownTy, gAppend, gExtend, gPop, isOwn, qSetIx, qCall, splitArgs, putOuts, setOwn, finOk, endsOf, mk, outsOf, uns,
  gAdd, gInt, gInt0, gEq, gNe, gIn, gNotIn, gIs, gIsNot, Px.isNon, gIx, getP, gLen, gAbs, gIntC, gSum, gMax, gMax2, gMinT, gAll, gAny, gList, gTuple, gIsi, qNeg, qDict0, wipeE, lcGo_nil, br_t, br_f, atI_0, atI_1, atI_2, atI_3, ixN_0, ixN_1, ixN_2, ixN_3, List.length_map, List.length_set, cut_from1, isTy, tyN, gIsiT, asTys, gListD, keyP, isDic, qGet1, qGet2, qLZ, gZip, qPairs, mergeP, qDisp, gDictC, gStr, qChain, qPar, qAug, qMeth, tyIs, gIndex, qLcK, qDc, qDcK, dicAt, qForK, qZipI, qCallB, qCallF, splitB, Option.isSome_some, Option.isSome_none, isEmp_concat, List.getLast?_concat, List.dropLast_concat, List.isEmpty_nil, gEqX, gNeX, List.any_cons, List.any_nil, tyOk_str, tyOk_tuple, tyOk_int, tyOk_bool, tyOk_list, tyOk_dict, Option.map_some, Option.map_none,
  eqOk_str, eqOk_int, eqOk_bl, eqOk_non, eqOkW_str, eqOkW_int, eqOkW_bl, eqOkW_non, gEqW, gNeW, qVals, ownDic, qLc2, gLtX, gGtX, gSortX, peq_str, peq_int, peq_bl, List.getElem?_cons_zero, List.getElem?_cons_succ, List.getElem?_nil, List.set_cons_zero, List.set_cons_succ, List.zipWith_cons_cons, List.zipWith_nil_left, List.replicate_succ, List.replicate_zero, List.cons_append, List.nil_append, List.length_cons, List.length_nil, List.map_cons, List.map_nil, ↓reduceIte, Bool.false_eq_true, and_true, true_and, Bool.not_true, Bool.not_false, Nat.reduceAdd, Nat.reduceLT, Nat.reduceLeDiff, Nat.zero_lt_succ, Nat.lt_add_one, ne_eq, not_true_eq_false, not_false_eq_true, String.reduceEq, String.reduceBEq, Bool.or_false, Bool.false_or, Bool.or_true, Bool.true_or, Bool.and_false, Bool.and_true, Bool.false_and, Bool.true_and, reduceCtorEq, S_key_fr, S_key_io, S_ord_fr, S_ord_io, S_sign_fr, S_sign_io, S_right_fr, S_right_io])
theorem sign_i {ρ : En} {ms : Ms} {a b : Tt} {Q : PK1} {dm : Dum Q} (hm : MsOk ms) (h : gT ms a) (g : gT ms b) (ha : Un.dp a ≤ 95) (hb : Un.dp b ≤ 95) (k : Q (.pv (.int (cmpT ms a b))) ρ) : callR S_sign [.pv (encMs ms), .pv (encT a), .pv (encT b)] ρ Q dm :=
  call_p (ps := [encMs ms, encT a, encT b]) rfl rfl ⟨ms, a, b, rfl, hm, h, g, ha, hb⟩ fun r hp => by rw [hp _ _ _ rfl]; exact k
theorem right_i {ρ : En} {ms : Ms} {a b : Tt} {Q : PK1} {dm : Dum Q} (hm : MsOk ms) (h : gT ms a) (g : gT ms b) (ha : Un.dp a ≤ 95) (hb : Un.dp b ≤ 95) (k : Q (.pv (.bl true)) ρ) : callR S_right [.pv (encMs ms), .pv (encT a), .pv (encT b)] ρ Q dm :=
  call_p (ps := [encMs ms, encT a, encT b]) rfl rfl ⟨ms, a, b, rfl, hm, h, g, ha, hb⟩ fun r hp => by rw [(hp : r = .bl true)]; exact k
theorem keyX_ok {ms : Ms} {a b : Tt} (h : gT ms a) (g : gT ms b) (ha : Un.dp a ≤ 95) (hb : Un.dp b ≤ 95) : dOk (keyD ms a) (keyD ms b) := by
  refine ⟨key_eqOk (by omega), key_eqOk (by omega), key_alike a b h g, ?_⟩
  cases a with
  | v x => exact h.elim
  | n w ps => rw [keyD]; rfl
section
variable {P : Program} {w : World} {K : PySem.W.Frag} {mg : Str → Option Value} {base : Heap}
theorem ok_sign (T : Txt K mg) : Has P w K mg base "_law_sign" 110 ["makers", "one", "other"] S_sign := by
  refine dv__law_sign T ((ok_key T 96).mono (by omega)) S_sign rfl fun pvs lp pre => ?_
  obtain ⟨ms, a, b, rfl, hm, ga, gb, da, db⟩ := pre
  have told : ∀ {r : PV}, r = .int (cmpT ms a b) → S_sign.post [encMs ms, encT a, encT b] r [] := fun {r} e ms2 a2 b2 e2 => by
    injection e2 with e3 e2; injection e2 with e4 e2; injection e2 with e5 _
    rw [← encMs_inj e3, ← encT_inj _ _ e4, ← encT_inj _ _ e5]; exact e
  unfold rd__law_sign
  show qSeq _ _ (endsOf _ _) [.val (encMs ms), .val (encT a), .val (encT b), .un, .un]
  walk_at "px"
  refine key_i hm ga (by omega) ?_
  walk_at "px"
  refine key_i hm gb (by omega) ?_
  walk_at "px"
  have ok := keyX_ok ga gb da db
  refine ⟨ok, ok, told (congrArg PV.int ?_)⟩
  have e1 : ltX (keyD ms b) (keyD ms a) = decide (cmpT ms b a = -1) := key_lt hm.nd b a gb ga
  have e2 : ltX (keyD ms a) (keyD ms b) = decide (cmpT ms a b = -1) := key_lt hm.nd a b ga gb
  rw [e1, e2, cmpT_anti a b ga gb]
  rcases cmpT_vals ms a b with h | h | h <;> rw [h] <;> rfl
theorem ok_right (T : Txt K mg) : Has P w K mg base "_law_right" 220 ["makers", "one", "other"] S_right := by
  refine dv__law_right T ((ok_ord T 96).mono (by omega)) ((ok_sign T).mono (by omega)) S_right rfl fun pvs lp pre => ?_
  obtain ⟨ms, a, b, rfl, hm, ga, gb, da, db⟩ := pre
  unfold rd__law_right
  show qSeq _ _ (endsOf _ _) [.val (encMs ms), .val (encT a), .val (encT b), .un]
  walk_at "px"
  refine ord_i hm ga gb (by omega) da db ?_
  walk_at "px"
  refine sign_i hm ga gb da db ?_
  walk_at "px"
  show PV.bl (cmpT ms a b == cmpT ms a b) = .bl true
  rw [beq_self_eq_true]
theorem term_gT {ms : Ms} (hm : MsOk ms) {n : Nat} {p : PV} (h : TermOf ms [.tup [.str (Str.ofString "zero")]] n p) : ∃ t, p = encT t ∧ gT ms t ∧ Un.dp t ≤ n + 1 := by
  induction h with
  | name h =>
    rw [List.mem_singleton] at h
    subst h
    exact ⟨.n (Str.ofString "zero") [], by rw [encT_n]; rfl, ⟨hm.zero, trivial⟩, by rw [Un.dp, Un.dps]; omega⟩
  | @leaf n w h => exact ⟨.n w [], by rw [encT_n]; rfl, ⟨h, trivial⟩, by rw [Un.dp, Un.dps]; omega⟩
  | @node n w k ps h l t ih =>
    have key : ∀ qs : List PV, (∀ q ∈ qs, q ∈ ps) → ∃ ts : List Tt, qs = ts.map encT ∧ (∀ t ∈ ts, gT ms t ∧ Un.dp t ≤ n + 1) := by
      intro qs
      induction qs with
      | nil => exact fun _ => ⟨[], rfl, fun t ht => by cases ht⟩
      | cons q qs ih2 =>
        intro hq
        obtain ⟨t, e, g⟩ := ih q (hq q List.mem_cons_self)
        obtain ⟨ts, e2, g2⟩ := ih2 fun q hq' => hq q (List.mem_cons_of_mem _ hq')
        refine ⟨t :: ts, by rw [List.map_cons, e, e2], fun t' ht' => ?_⟩
        rcases List.mem_cons.mp ht' with rfl | ht'
        · exact g
        · exact g2 t' ht'
    obtain ⟨ts, e, g⟩ := key ps fun q hq => hq
    have dl : Un.dps ts ≤ n + 1 := by
      clear e
      induction ts with
      | nil => rw [Un.dps]; omega
      | cons t ts ih3 =>
        rw [Un.dps]
        have := (g t List.mem_cons_self).2
        have := ih3 fun t' h' => g t' (List.mem_cons_of_mem _ h')
        omega
    refine ⟨.n w ts, by rw [encT_n, e], ⟨?_, (gTs_iff ms ts).mpr fun t ht => (g t ht).1⟩, by rw [Un.dp]; omega⟩
    have lt : ts.length = ps.length := by rw [e, List.length_map]
    rw [lt, l]; exact h
theorem plains_map : ∀ r : List Tt, plains (r.map encT) = true
  | [] => rfl
  | t :: r => by rw [List.map_cons, plains, tsh_plain _ (tsh_enc t), plains_map r]; rfl
theorem peqs_map : ∀ r : List Tt, peqs (r.map encT) (r.map encT) = true
  | [] => rfl
  | t :: r => by rw [List.map_cons, peqs_cons, (peq_enc t t).mpr rfl, peqs_map r]; rfl
theorem deps_map {D : Nat} : ∀ r : List Tt, (∀ t ∈ r, Un.dp t ≤ D) → deps (r.map encT) ≤ D
  | [], _ => Nat.zero_le _
  | t :: r, h => by
    have h1 := h t List.mem_cons_self
    have h2 := deps_map r fun t ht => h t (List.mem_cons_of_mem _ ht)
    rw [List.map_cons, deps, dep_enc]; omega
theorem trees_i {ρ : En} {ms : Ms} {many : Nat} {i : Int} {Q : PK1} {dm : Dum Q} (ei : i = (many : Nat)) (hm : MsOk ms) (h : many ≤ 40) (k : Q (.pv (encR ((fnd ms 89).take many))) ρ) : callR S_trees [.pv (encMs ms), .pv (.int i)] ρ Q dm := by
  subst ei
  exact call_p (ps := [encMs ms, .int (many : Nat)]) rfl rfl ⟨ms, many, rfl, hm, h⟩ fun r hp => by rw [hp _ _ rfl]; exact k
theorem ok_law (T : Txt K mg) : Has P w K mg base "law" 230 ["script"] sLaw := by
  refine dv_law T ((ok_draws T).mono (by omega)) ((ok_makers T).mono (by omega)) ((ok_draw T).mono (by omega)) ((ok_law_trees T).mono (by omega)) ((ok_trees T).mono (by omega)) ((ok_ord T 96).mono (by omega)) ((ok_term T 5).mono (by omega)) ((ok_pick T).mono (by omega)) ((ok_right T).mono (by omega)) sLaw rfl fun pvs lp pre => ?_
  obtain ⟨ns, rfl, hl⟩ := pre
  unfold rd_law
  show qSeq _ _ (endsOf sLaw _) [.val (.scr ns), .un, .un, .un, .un, .un, .un, .un, .un]
  walk_at "px"
  refine draws_i fun d hd => ?_
  walk_at "px"
  refine makers_i rfl hd fun ms d1 hd1 hm => ?_
  walk_at "px"
  refine draw_i rfl hd1 (by decide) (by decide) fun m d2 hd2 m0 m1 => ?_
  obtain ⟨many, rfl⟩ := Int.eq_ofNat_of_zero_le m0
  have l40 : many ≤ 40 := by omega
  walk_at "px"
  refine trees_i rfl hm l40 ?_
  walk_at "px"
  refine trees_i rfl hm l40 ?_
  have fel := fnd_el hm.nd 89
  have fpw := fnd_pw hm.nd 89
  have del : ∀ t ∈ (fnd ms 89).take many, gT ms t ∧ Un.dp t ≤ 90 := fun t ht => by
    have h := fel t (List.mem_of_mem_take ht)
    exact ⟨h.2, by have := dp_sz t; omega⟩
  have dpw : Asc ms ((fnd ms 89).take many) := fpw.sublist (List.take_sublist _ _)
  have dll : ((fnd ms 89).take many).length ≤ 40 := by rw [List.length_take]; omega
  generalize (fnd ms 89).take many = due at *
  have ee : encR due = .lst (due.map encT) := rfl
  rw [ee]
  walk_at "px"
  have eo : eqOkW (.lst (due.map encT)) := ⟨by rw [Px.plain]; exact plains_map due, by rw [dep]; have := deps_map due fun t ht => (del t ht).2; omega⟩
  have pe : peq (.lst (due.map encT)) (.lst (due.map encT)) = true := by rw [peq_lst]; exact peqs_map due
  rw [pe]
  walk_at "px"
  refine ⟨eo, eo, by unfold rngOk; omega, ?_⟩
  have att : ∀ (i : Nat) (j : Int) (h : i < due.length), j = (i : Nat) → atI (due.map encT) j = some (encT due[i]) := fun i j h e => by
    subst e
    exact atI_nat (by rw [List.getElem?_map, List.getElem?_eq_getElem h]; rfl)
  refine for_ind (fun rs ρ => ∃ (j c : Nat) (o5 : Option PV), j + c = due.length - 1 ∧ rs = (List.range' j c).map (fun k => PV.int (0 + (k : Nat))) ∧ ρ = [.val (.scr ns), .own false d2, .val (encMs ms), .val (.int (many : Nat)), .val (.lst (due.map encT)), plS o5, .un, .un, .un]) ?_ ?_ _ _ ⟨0, due.length - 1, none, by omega, ?_, rfl⟩
  · rintro ρ ⟨j, c, o5, _, _, rfl⟩
    walk_at "px"
    refine ⟨by unfold rngOk; decide, ?_⟩
    refine for_ind (fun ps ρ => ∃ (d : PV) (o6 o7 o8 : Option PV), ρ = [.val (.scr ns), .own false d, .val (encMs ms), .val (.int (many : Nat)), .val (.lst (due.map encT)), plS o5, plS o6, plS o7, plS o8] ∧ DrOk d) ?_ ?_ _ _ ⟨d2, none, none, none, rfl, hd2⟩
    · rintro ρ ⟨d, o6, o7, o8, rfl, hd⟩
      walk_at "px"
      rfl
    · rintro p ps ρ ⟨d, o6, o7, o8, rfl, hd⟩ N ih
      walk_at "px"
      refine ⟨small_of (by decide), small_of (by decide), ?_⟩
      refine draw_i (d := d) rfl hd (by decide) (by decide) fun m3 d3 hd3 m0 m1 => ?_
      walk_at "px"
      refine term_i (d := d3) rfl hd3 hm (by simp) (by simp) m0 (by omega) fun r d4 hd4 ht => ?_
      obtain ⟨t1, rfl, g1, p1⟩ := term_gT hm ht
      walk_at "px"
      refine ⟨small_of (by decide), small_of (by decide), ?_⟩
      refine draw_i (d := d4) rfl hd4 (by decide) (by decide) fun m5 d5 hd5 m50 m51 => ?_
      walk_at "px"
      refine term_i (d := d5) rfl hd5 hm (by simp) (by simp) m50 (by omega) fun r d6 hd6 ht => ?_
      obtain ⟨t2, rfl, g2, p2⟩ := term_gT hm ht
      walk_at "px"
      refine ⟨small_of (by decide), small_of (by omega), ?_⟩
      refine pick_i (d := d6) (row := .lst (encT t1 :: encT t2 :: due.map encT)) rfl hd6 trivial (by simp [items]) (by simp only [items, List.length_cons, List.length_map]; omega) fun r d7 hd7 hr => ?_
      have hr' : ∃ t, r = encT t ∧ gT ms t ∧ Un.dp t ≤ 95 := by
        simp only [items] at hr
        rcases List.mem_cons.mp hr with rfl | hr
        · exact ⟨t1, rfl, g1, by omega⟩
        rcases List.mem_cons.mp hr with rfl | hr
        · exact ⟨t2, rfl, g2, by omega⟩
        · obtain ⟨t, ht, rfl⟩ := List.mem_map.mp hr
          have := del t ht
          exact ⟨t, rfl, this.1, by omega⟩
      obtain ⟨t3, rfl, g3, p3⟩ := hr'
      walk_at "px"
      refine right_i hm g1 g3 (by omega) p3 ?_
      walk_at "px"
      refine right_i hm g3 g1 p3 (by omega) ?_
      walk_at "px"
      exact ih _ ⟨d7, some _, some _, some _, rfl, hd7⟩
  · rintro q rs ρ ⟨j, c, o5, e1, e2, rfl⟩ N ih
    cases c with
    | zero => simp at e2
    | succ c =>
      rw [List.range'_succ, List.map_cons, List.cons.injEq] at e2
      obtain ⟨rfl, rfl⟩ := e2
      have l1 : j < due.length := by omega
      have l2 : j + 1 < due.length := by omega
      have c1 : cmpT ms due[j] due[j + 1] = -1 := List.pairwise_iff_getElem.mp dpw j (j + 1) l1 l2 (by omega)
      have h1 := del _ (List.getElem_mem l1)
      have h2 := del _ (List.getElem_mem l2)
      have c2 : cmpT ms due[j + 1] due[j] = 1 := by rw [cmpT_anti _ _ h1.1 h2.1, c1]; rfl
      walk_at "px"
      rw [att j _ l1 (by omega), att (j + 1) _ l2 (by omega)]
      walk_at "px"
      refine ord_i hm h1.1 h2.1 (by omega) (by omega) (by omega) ?_
      rw [c1]
      walk_at "px"
      refine ⟨fun h => Bool.noConfusion h, fun _ => ?_⟩
      rw [att (j + 1) _ l2 (by omega), att j _ l1 (by omega)]
      show callR (S_ord 96) [.pv (encMs ms), .pv (encT due[j + 1]), .pv (encT due[j])] _ _ _
      refine ord_i hm h2.1 h1.1 (by omega) (by omega) (by omega) ?_
      rw [c2]
      walk_at "px"
      refine ⟨fun h => Bool.noConfusion h, fun _ => ?_⟩
      exact ih _ ⟨j + 1, c, some _, by omega, rfl, rfl⟩
  · rw [rng, List.range_eq_range']
    have : (((due.length : Nat) : Int) - 1).toNat = due.length - 1 := by omega
    rw [this]
end

end Lw
namespace Lw
open PySem L2 PyProof.Rows Px
theorem all_mk {l : PySem.W.OpenLaw} {w : World} {K : PySem.W.Frag} {h : Heap} {mg : Str → Option Value} {fa : Addr} (X : K.In h) (G : h.Ns mainGlobals mg) (hfa : mg "law" = some (.ref fa))
    {f0 f1 f2 f3 f4 f5 f6 f7 f8 f9 f10 f11 f12 f13 : Addr}
    {od0 an0 od1 an1 od2 an2 od3 an3 od4 an4 od5 an5 od6 an6 od7 an7 od8 an8 od9 an9 od10 an10 od11 an11 od12 an12 od13 an13 : Option Addr} {sl0 sl1 sl2 sl3 sl4 sl5 sl6 sl7 sl8 sl9 sl10 sl11 sl12 sl13 : Array (Option Value)} {oc0 kV0 dc0 pm0 cd0 ct0 oc1 kV1 dc1 pm1 cd1 ct1 oc2 kV2 dc2 pm2 cd2 ct2 oc3 kV3 dc3 pm3 cd3 ct3 oc4 kV4 dc4 pm4 cd4 ct4 oc5 kV5 dc5 pm5 cd5 ct5 oc6 kV6 dc6 pm6 cd6 ct6 oc7 kV7 dc7 pm7 cd7 ct7 oc8 kV8 dc8 pm8 cd8 ct8 oc9 kV9 dc9 pm9 cd9 ct9 oc10 kV10 dc10 pm10 cd10 ct10 oc11 kV11 dc11 pm11 cd11 ct11 oc12 kV12 dc12 pm12 cd12 ct12 oc13 kV13 dc13 pm13 cd13 ct13 : Value}
    (a0 : PySem.W.nsIn K mainGlobals "size" = some (some (.ref f0))) (l0 : K.lookup f0 = some ⟨oc0, od0, .func (PySem.W.fnOf "size" "size" (defArgs s_size) (defBody s_size) (defScope s_size) .none kV0 dc0 pm0 an0 cd0 ct0), sl0⟩) (c0 : PySem.W.codeIn K cd0 "size" = true) (k0 : PySem.W.keepIn K (.ref f0) = true)
    (a1 : PySem.W.nsIn K mainGlobals "order" = some (some (.ref f1))) (l1 : K.lookup f1 = some ⟨oc1, od1, .func (PySem.W.fnOf "order" "order" (defArgs s_order) (defBody s_order) (defScope s_order) .none kV1 dc1 pm1 an1 cd1 ct1), sl1⟩) (c1 : PySem.W.codeIn K cd1 "order" = true) (k1 : PySem.W.keepIn K (.ref f1) = true)
    (a2 : PySem.W.nsIn K mainGlobals "trees_of_size" = some (some (.ref f2))) (l2 : K.lookup f2 = some ⟨oc2, od2, .func (PySem.W.fnOf "trees_of_size" "trees_of_size" (defArgs s_trees_of_size) (defBody s_trees_of_size) (defScope s_trees_of_size) .none kV2 dc2 pm2 an2 cd2 ct2), sl2⟩) (c2 : PySem.W.codeIn K cd2 "trees_of_size" = true) (k2 : PySem.W.keepIn K (.ref f2) = true)
    (a3 : PySem.W.nsIn K mainGlobals "trees" = some (some (.ref f3))) (l3 : K.lookup f3 = some ⟨oc3, od3, .func (PySem.W.fnOf "trees" "trees" (defArgs s_trees) (defBody s_trees) (defScope s_trees) .none kV3 dc3 pm3 an3 cd3 ct3), sl3⟩) (c3 : PySem.W.codeIn K cd3 "trees" = true) (k3 : PySem.W.keepIn K (.ref f3) = true)
    (a4 : PySem.W.nsIn K mainGlobals "_law_draws" = some (some (.ref f4))) (l4 : K.lookup f4 = some ⟨oc4, od4, .func (PySem.W.fnOf "_law_draws" "_law_draws" (defArgs s__law_draws) (defBody s__law_draws) (defScope s__law_draws) .none kV4 dc4 pm4 an4 cd4 ct4), sl4⟩) (c4 : PySem.W.codeIn K cd4 "_law_draws" = true) (k4 : PySem.W.keepIn K (.ref f4) = true)
    (a5 : PySem.W.nsIn K mainGlobals "_law_draw" = some (some (.ref f5))) (l5 : K.lookup f5 = some ⟨oc5, od5, .func (PySem.W.fnOf "_law_draw" "_law_draw" (defArgs s__law_draw) (defBody s__law_draw) (defScope s__law_draw) .none kV5 dc5 pm5 an5 cd5 ct5), sl5⟩) (c5 : PySem.W.codeIn K cd5 "_law_draw" = true) (k5 : PySem.W.keepIn K (.ref f5) = true)
    (a6 : PySem.W.nsIn K mainGlobals "_law_pick" = some (some (.ref f6))) (l6 : K.lookup f6 = some ⟨oc6, od6, .func (PySem.W.fnOf "_law_pick" "_law_pick" (defArgs s__law_pick) (defBody s__law_pick) (defScope s__law_pick) .none kV6 dc6 pm6 an6 cd6 ct6), sl6⟩) (c6 : PySem.W.codeIn K cd6 "_law_pick" = true) (k6 : PySem.W.keepIn K (.ref f6) = true)
    (a7 : PySem.W.nsIn K mainGlobals "_law_makers" = some (some (.ref f7))) (l7 : K.lookup f7 = some ⟨oc7, od7, .func (PySem.W.fnOf "_law_makers" "_law_makers" (defArgs s__law_makers) (defBody s__law_makers) (defScope s__law_makers) .none kV7 dc7 pm7 an7 cd7 ct7), sl7⟩) (c7 : PySem.W.codeIn K cd7 "_law_makers" = true) (k7 : PySem.W.keepIn K (.ref f7) = true)
    (a8 : PySem.W.nsIn K mainGlobals "_law_term" = some (some (.ref f8))) (l8 : K.lookup f8 = some ⟨oc8, od8, .func (PySem.W.fnOf "_law_term" "_law_term" (defArgs s__law_term) (defBody s__law_term) (defScope s__law_term) .none kV8 dc8 pm8 an8 cd8 ct8), sl8⟩) (c8 : PySem.W.codeIn K cd8 "_law_term" = true) (k8 : PySem.W.keepIn K (.ref f8) = true)
    (a9 : PySem.W.nsIn K mainGlobals "_law_key" = some (some (.ref f9))) (l9 : K.lookup f9 = some ⟨oc9, od9, .func (PySem.W.fnOf "_law_key" "_law_key" (defArgs s__law_key) (defBody s__law_key) (defScope s__law_key) .none kV9 dc9 pm9 an9 cd9 ct9), sl9⟩) (c9 : PySem.W.codeIn K cd9 "_law_key" = true) (k9 : PySem.W.keepIn K (.ref f9) = true)
    (a10 : PySem.W.nsIn K mainGlobals "_law_trees" = some (some (.ref f10))) (l10 : K.lookup f10 = some ⟨oc10, od10, .func (PySem.W.fnOf "_law_trees" "_law_trees" (defArgs s__law_trees) (defBody s__law_trees) (defScope s__law_trees) .none kV10 dc10 pm10 an10 cd10 ct10), sl10⟩) (c10 : PySem.W.codeIn K cd10 "_law_trees" = true) (k10 : PySem.W.keepIn K (.ref f10) = true)
    (a11 : PySem.W.nsIn K mainGlobals "_law_sign" = some (some (.ref f11))) (l11 : K.lookup f11 = some ⟨oc11, od11, .func (PySem.W.fnOf "_law_sign" "_law_sign" (defArgs s__law_sign) (defBody s__law_sign) (defScope s__law_sign) .none kV11 dc11 pm11 an11 cd11 ct11), sl11⟩) (c11 : PySem.W.codeIn K cd11 "_law_sign" = true) (k11 : PySem.W.keepIn K (.ref f11) = true)
    (a12 : PySem.W.nsIn K mainGlobals "_law_right" = some (some (.ref f12))) (l12 : K.lookup f12 = some ⟨oc12, od12, .func (PySem.W.fnOf "_law_right" "_law_right" (defArgs s__law_right) (defBody s__law_right) (defScope s__law_right) .none kV12 dc12 pm12 an12 cd12 ct12), sl12⟩) (c12 : PySem.W.codeIn K cd12 "_law_right" = true) (k12 : PySem.W.keepIn K (.ref f12) = true)
    (a13 : PySem.W.nsIn K mainGlobals "law" = some (some (.ref f13))) (l13 : K.lookup f13 = some ⟨oc13, od13, .func (PySem.W.fnOf "law" "law" (defArgs s_law) (defBody s_law) (defScope s_law) .none kV13 dc13 pm13 an13 cd13 ct13), sl13⟩) (c13 : PySem.W.codeIn K cd13 "law" = true) (k13 : PySem.W.keepIn K (.ref f13) = true)
    (z0 : PySem.W.nsIn K mainGlobals "isinstance" = some none)
    (z1 : PySem.W.nsIn K mainGlobals "str" = some none)
    (z2 : PySem.W.nsIn K mainGlobals "sum" = some none)
    (z3 : PySem.W.nsIn K mainGlobals "zip" = some none)
    (z4 : PySem.W.nsIn K mainGlobals "range" = some none)
    (z5 : PySem.W.nsIn K mainGlobals "any" = some none)
    (z6 : PySem.W.nsIn K mainGlobals "len" = some none)
    (z7 : PySem.W.nsIn K mainGlobals "list" = some none)
    (z8 : PySem.W.nsIn K mainGlobals "abs" = some none)
    (z9 : PySem.W.nsIn K mainGlobals "int" = some none)
    (z10 : PySem.W.nsIn K mainGlobals "tuple" = some none)
    (z11 : PySem.W.nsIn K mainGlobals "sorted" = some none)
    (z12 : PySem.W.nsIn K mainGlobals "bool" = some none)
    : ∃ fd : FuncData, (∀ (s : Shared) (v : Value), BindsTo s fd ⟨[v], []⟩ [("script", v)]) ∧ ∀ base : Heap, K.In base → base.Ns mainGlobals mg → FnOk l.prog w K mg base CX0 230 fa fd ["script"] (spP K sLaw) := by
  have e := hfa.symm.trans (PySem.W.mg_of X G a13)
  cases e
  have T : Txt K mg := {
    d_size := ⟨f0, _, fun_mk (st := s_size) l0 c0 k0, PySem.W.mg_of X G a0⟩
    d_order := ⟨f1, _, fun_mk (st := s_order) l1 c1 k1, PySem.W.mg_of X G a1⟩
    d_trees_of_size := ⟨f2, _, fun_mk (st := s_trees_of_size) l2 c2 k2, PySem.W.mg_of X G a2⟩
    d_trees := ⟨f3, _, fun_mk (st := s_trees) l3 c3 k3, PySem.W.mg_of X G a3⟩
    d__law_draws := ⟨f4, _, fun_mk (st := s__law_draws) l4 c4 k4, PySem.W.mg_of X G a4⟩
    d__law_draw := ⟨f5, _, fun_mk (st := s__law_draw) l5 c5 k5, PySem.W.mg_of X G a5⟩
    d__law_pick := ⟨f6, _, fun_mk (st := s__law_pick) l6 c6 k6, PySem.W.mg_of X G a6⟩
    d__law_makers := ⟨f7, _, fun_mk (st := s__law_makers) l7 c7 k7, PySem.W.mg_of X G a7⟩
    d__law_term := ⟨f8, _, fun_mk (st := s__law_term) l8 c8 k8, PySem.W.mg_of X G a8⟩
    d__law_key := ⟨f9, _, fun_mk (st := s__law_key) l9 c9 k9, PySem.W.mg_of X G a9⟩
    d__law_trees := ⟨f10, _, fun_mk (st := s__law_trees) l10 c10 k10, PySem.W.mg_of X G a10⟩
    d__law_sign := ⟨f11, _, fun_mk (st := s__law_sign) l11 c11 k11, PySem.W.mg_of X G a11⟩
    d__law_right := ⟨f12, _, fun_mk (st := s__law_right) l12 c12 k12, PySem.W.mg_of X G a12⟩
    d_law := ⟨fa, _, fun_mk (st := s_law) l13 c13 k13, PySem.W.mg_of X G a13⟩
    z_isinstance := PySem.W.mg_none_of X G z0
    z_str := PySem.W.mg_none_of X G z1
    z_sum := PySem.W.mg_none_of X G z2
    z_zip := PySem.W.mg_none_of X G z3
    z_range := PySem.W.mg_none_of X G z4
    z_any := PySem.W.mg_none_of X G z5
    z_len := PySem.W.mg_none_of X G z6
    z_list := PySem.W.mg_none_of X G z7
    z_abs := PySem.W.mg_none_of X G z8
    z_int := PySem.W.mg_none_of X G z9
    z_tuple := PySem.W.mg_none_of X G z10
    z_sorted := PySem.W.mg_none_of X G z11
    z_bool := PySem.W.mg_none_of X G z12
  }
  refine ⟨PySem.W.fnOf "law" "law" (defArgs s_law) (defBody s_law) (defScope s_law) .none kV13 dc13 pm13 an13 cd13 ct13, fun s v => .of_eq rfl, fun base _ _ => ?_⟩
  obtain ⟨f, fd, F, m, kk, b, at_⟩ := (ok_law (P := l.prog) (w := w) (base := base) T).ex
  rw [PySem.W.mg_of X G a13] at m
  cases m
  exact same_fd (fun_mk (st := s_law) l13 c13 k13) F at_
theorem walk {l : PySem.W.OpenLaw} {q : Program} {loose : List Str} {XP : (Str → Option Value) → Heap → Prop} {YP : World → Heap → Prop} {d : DefRec} {K : Params → PySem.W.Frag} (hn : l.most = some 63) (hdf : d.params.defaults = [])
    (hY : ∀ (w : World) (h : Heap), YP w h → (K w.params).In h)
    (F : ∀ (w : World) (mg : Str → Option Value) (fa : Addr) (h : Heap), (K w.params).In h → h.Ns mainGlobals mg → mg d.name = some (.ref fa) →
      ∃ fd : FuncData, (∀ (s : Shared) (u : Value), BindsTo s fd ⟨[u], []⟩ [("script", u)]) ∧ ∀ base : Heap, (K w.params).In base → base.Ns mainGlobals mg → FnOk l.prog w (K w.params) mg base CX0 230 fa fd ["script"] (spP (K w.params) sLaw)) :
    PySem.W.WalkO q loose XP YP l.row.toRowW d [] (fun f vs => PySem.call f vs) :=
  L2.walk_of (n := 63) (k := 230) (x := "script") (CX := fun _ => CX0) (sp := fun w => spP (K w.params) sLaw) hn (by decide) hdf ⟨rfl, by decide, by decide⟩ hY F (fun _ _ a ns hl ho hS => law_sp hl ho hS) fun _ _ _ _ _ z => z
end Lw
open PySem PySem.W PyProof.Rows
set_option maxRecDepth 100000 in
set_option maxHeartbeats 0 in
theorem PySem.Challenge.cw_exactkinds_k02_trees_in_their_order_holds : PySem.Challenge.rw_exactkinds_k02_trees_in_their_order.Holds := by
  w_on; o_law; k_head; (case hw => w_witness2)
  k_fill
  refine Lw.walk (l := PySem.Challenge.rw_exactkinds_k02_trees_in_their_order) rfl rfl (fun w h Y => PySem.W.kIn_of Y) ?F
  case F =>
    intro w mg fa h KX G hmg
    refine' Lw.all_mk KX G hmg ?a0 ?l0 ?c0 ?k0 ?a1 ?l1 ?c1 ?k1 ?a2 ?l2 ?c2 ?k2 ?a3 ?l3 ?c3 ?k3 ?a4 ?l4 ?c4 ?k4 ?a5 ?l5 ?c5 ?k5 ?a6 ?l6 ?c6 ?k6 ?a7 ?l7 ?c7 ?k7 ?a8 ?l8 ?c8 ?k8 ?a9 ?l9 ?c9 ?k9 ?a10 ?l10 ?c10 ?k10 ?a11 ?l11 ?c11 ?k11 ?a12 ?l12 ?c12 ?k12 ?a13 ?l13 ?c13 ?k13 ?z0 ?z1 ?z2 ?z3 ?z4 ?z5 ?z6 ?z7 ?z8 ?z9 ?z10 ?z11 ?z12
    (case a0 => k_is)
    (case l0 => k_is)
    (case c0 => k_is)
    (case k0 => k_is)
    (case a1 => k_is)
    (case l1 => k_is)
    (case c1 => k_is)
    (case k1 => k_is)
    (case a2 => k_is)
    (case l2 => k_is)
    (case c2 => k_is)
    (case k2 => k_is)
    (case a3 => k_is)
    (case l3 => k_is)
    (case c3 => k_is)
    (case k3 => k_is)
    (case a4 => k_is)
    (case l4 => k_is)
    (case c4 => k_is)
    (case k4 => k_is)
    (case a5 => k_is)
    (case l5 => k_is)
    (case c5 => k_is)
    (case k5 => k_is)
    (case a6 => k_is)
    (case l6 => k_is)
    (case c6 => k_is)
    (case k6 => k_is)
    (case a7 => k_is)
    (case l7 => k_is)
    (case c7 => k_is)
    (case k7 => k_is)
    (case a8 => k_is)
    (case l8 => k_is)
    (case c8 => k_is)
    (case k8 => k_is)
    (case a9 => k_is)
    (case l9 => k_is)
    (case c9 => k_is)
    (case k9 => k_is)
    (case a10 => k_is)
    (case l10 => k_is)
    (case c10 => k_is)
    (case k10 => k_is)
    (case a11 => k_is)
    (case l11 => k_is)
    (case c11 => k_is)
    (case k11 => k_is)
    (case a12 => k_is)
    (case l12 => k_is)
    (case c12 => k_is)
    (case k12 => k_is)
    (case a13 => k_is)
    (case l13 => k_is)
    (case c13 => k_is)
    (case k13 => k_is)
    (case z0 => k_is)
    (case z1 => k_is)
    (case z2 => k_is)
    (case z3 => k_is)
    (case z4 => k_is)
    (case z5 => k_is)
    (case z6 => k_is)
    (case z7 => k_is)
    (case z8 => k_is)
    (case z9 => k_is)
    (case z10 => k_is)
    (case z11 => k_is)
    (case z12 => k_is)
