import PyProof.Rows.All
import Wide.All
import OpenK.AllK
import Wide.FinOn
import HandS.ForMost
import HandS.Flow
import HandS.IsInst
import HandS.Deep
import HandS.Wide
import HandS.TupAny
import HandS.Zip
import PySem.Challenge.RW_exactkinds_k01_terms_and_trees
set_option Elab.async false
set_option linter.all false
set_option autoImplicit false
set_option maxRecDepth 100000
namespace Px
open PySem L2

inductive PV where
  | non | bl (b : Bool) | int (i : Int) | str (s : Str) | tup (xs : List PV) | lst (xs : List PV) | dic (ks : List Key) (vs : List PV) | scr (ns : List Int) | ty (n : String)

def sOk (s : Str) : Bool := PyData.strOk s
def keyOk : Key → Bool
  | .inl _ => true
  | .inr s => sOk s

/-- a list of the written part -/
def KLst (K : PySem.W.Frag) (a : Addr) (xs : List V) : Prop := ∃ (o : Obj) (its : Array Value) (n : Nat), K.lookup a = some o ∧ o.cls = .type "list" ∧ o.dict = none ∧ o.data = .seq its n ∧ its.size ≤ sizeLine ∧ Vals xs its.toList
mutual
def Is (K : PySem.W.Frag) (H : Hp) (W : Addr → Prop) : PV → V → Prop
  | .non, v => v = .non
  | .bl b, v => v = .bl b
  | .int i, v => v = .int i
  | .ty n, v => v = .ty n
  | .str s, v => v = .str s ∧ sOk s = true
  | .tup ps, v => ∃ a vs, v = .ref a ∧ H a = some (.tup vs) ∧ Iss K H W ps vs
  | .lst ps, v => ∃ a vs, v = .ref a ∧ ¬ W a ∧ H a = some (.lst vs) ∧ Iss K H W ps vs
  | .dic ks ps, v => ∃ a vs, v = .ref a ∧ ¬ W a ∧ Rd H a (.dK (ks.zip vs)) ∧ ks.length = vs.length ∧ ks.all keyOk = true ∧ Iss K H W ps vs
  | .scr ns, v => ∃ a, v = .ref a ∧ ((∃ o, H a = some (.frz o (.lst (ns.map V.int)))) ∨ KLst K a (ns.map V.int))
def Iss (K : PySem.W.Frag) (H : Hp) (W : Addr → Prop) : List PV → List V → Prop
  | [], vs => vs = []
  | p :: ps, vs => ∃ v r, vs = v :: r ∧ Is K H W p v ∧ Iss K H W ps r
end

/-- what may be written -/
abbrev MutT (H : Hp) (W : Addr → Prop) : Prop := ∀ b, W b → Mut (H b)
theorem mut_tup {H : Hp} {b : Addr} {xs : List V} {o : Obj} : (H b = some (.tup xs) → ¬ Mut (H b)) ∧ (∀ u, H b = some (.frz o u) → ¬ Mut (H b)) :=
  ⟨fun e m => by rw [e] at m; exact m, fun u e m => by rw [e] at m; exact m⟩
theorem rd_keep {H H' : Hp} {W : Addr → Prop} {a : Addr} {u : HO} (k : ∀ b o, H b = some o → ¬ W b → H' b = some o) (n : ¬ W a) (r : Rd H a u) : Rd H' a u := by
  rcases r with r | ⟨o, r⟩
  · exact .inl (k a _ r n)
  · exact .inr ⟨o, k a _ r n⟩
theorem rd_tup {H H' : Hp} {W : Addr → Prop} {a : Addr} {xs : List V} (k : ∀ b o, H b = some o → ¬ W b → H' b = some o) (m : MutT H W) (r : Rd H a (.tup xs)) : Rd H' a (.tup xs) := by
  refine rd_keep k (fun z => ?_) r
  have q := m a z
  rcases r with r | ⟨o, r⟩
  · rw [r] at q; exact q
  · rw [r] at q; exact q
mutual
/-- moved to another heap, another set of what may be written -/
theorem Is.move {K : PySem.W.Frag} {H H' : Hp} {W W' : Addr → Prop} (k : ∀ b o, H b = some o → ¬ W b → H' b = some o) (m : MutT H W) (s : ∀ b, (∃ o, H b = some o) → W' b → W b) : ∀ (p : PV) (v : V), Is K H W p v → Is K H' W' p v
  | .non, _, h => h
  | .bl _, _, h => h
  | .int _, _, h => h
  | .ty _, _, h => h
  | .str _, _, h => h
  | .tup ps, v, h => by
    obtain ⟨a, vs, e, r, q⟩ := h
    exact ⟨a, vs, e, k a _ r fun z => by { have q := m a z; rw [r] at q; exact q }, Iss.move k m s ps vs q⟩
  | .lst ps, v, h => by
    obtain ⟨a, vs, e, n, r, q⟩ := h
    exact ⟨a, vs, e, fun z => n (s a ⟨_, r⟩ z), k a _ r n, Iss.move k m s ps vs q⟩
  | .dic ks ps, v, h => by
    obtain ⟨a, vs, e, n, r, l, kk, q⟩ := h
    have t : ∃ o, H a = some o := by rcases r with r | ⟨o, r⟩ <;> exact ⟨_, r⟩
    exact ⟨a, vs, e, fun z => n (s a t z), rd_keep k n r, l, kk, Iss.move k m s ps vs q⟩
  | .scr ns, v, h => by
    obtain ⟨a, e, q⟩ := h
    rcases q with ⟨o, q⟩ | q
    · exact ⟨a, e, .inl ⟨o, k a _ q fun w => by have z := m a w; rw [q] at z; exact z⟩⟩
    · exact ⟨a, e, .inr q⟩
theorem Iss.move {K : PySem.W.Frag} {H H' : Hp} {W W' : Addr → Prop} (k : ∀ b o, H b = some o → ¬ W b → H' b = some o) (m : MutT H W) (s : ∀ b, (∃ o, H b = some o) → W' b → W b) : ∀ (ps : List PV) (vs : List V), Iss K H W ps vs → Iss K H' W' ps vs
  | [], _, h => h
  | p :: ps, vs, h => by
    obtain ⟨v, r, e, h1, h2⟩ := h
    exact ⟨v, r, e, Is.move k m s p v h1, Iss.move k m s ps r h2⟩
end
mutual
/-- fewer may be written -/
theorem Is.anti {K : PySem.W.Frag} {H : Hp} {W W' : Addr → Prop} (s : ∀ b, W' b → W b) : ∀ (p : PV) (v : V), Is K H W p v → Is K H W' p v
  | .non, _, h => h
  | .bl _, _, h => h
  | .int _, _, h => h
  | .ty _, _, h => h
  | .str _, _, h => h
  | .tup ps, v, h => by
    obtain ⟨a, vs, e, r, q⟩ := h
    exact ⟨a, vs, e, r, Iss.anti s ps vs q⟩
  | .lst ps, v, h => by
    obtain ⟨a, vs, e, n, r, q⟩ := h
    exact ⟨a, vs, e, fun z => n (s a z), r, Iss.anti s ps vs q⟩
  | .dic ks ps, v, h => by
    obtain ⟨a, vs, e, n, r, l, kk, q⟩ := h
    exact ⟨a, vs, e, fun z => n (s a z), r, l, kk, Iss.anti s ps vs q⟩
  | .scr ns, v, h => h
theorem Iss.anti {K : PySem.W.Frag} {H : Hp} {W W' : Addr → Prop} (s : ∀ b, W' b → W b) : ∀ (ps : List PV) (vs : List V), Iss K H W ps vs → Iss K H W' ps vs
  | [], _, h => h
  | p :: ps, vs, h => by
    obtain ⟨v, r, e, h1, h2⟩ := h
    exact ⟨v, r, e, Is.anti s p v h1, Iss.anti s ps r h2⟩
end
mutual
/-- a value without lists and dicts -/
def imm : PV → Bool
  | .lst _ => false
  | .dic _ _ => false
  | .scr _ => true
  | .tup ps => imms ps
  | .non => true | .bl _ => true | .int _ => true | .str _ => true | .ty _ => true
def imms : List PV → Bool
  | [] => true
  | p :: ps => imm p && imms ps
end
mutual
theorem Is.imm {K : PySem.W.Frag} {H : Hp} {W W' : Addr → Prop} : ∀ (p : PV) (v : V), imm p = true → Is K H W p v → Is K H W' p v
  | .non, _, _, h => h
  | .bl _, _, _, h => h
  | .int _, _, _, h => h
  | .ty _, _, _, h => h
  | .str _, _, _, h => h
  | .tup ps, v, i, h => by
    obtain ⟨a, vs, e, r, q⟩ := h
    exact ⟨a, vs, e, r, Iss.imm ps vs (by rw [imm] at i; exact i) q⟩
  | .lst ps, v, i, h => by simp [Px.imm] at i
  | .dic ks ps, v, i, h => by simp [Px.imm] at i
  | .scr _, _, _, h => h
theorem Iss.imm {K : PySem.W.Frag} {H : Hp} {W W' : Addr → Prop} : ∀ (ps : List PV) (vs : List V), imms ps = true → Iss K H W ps vs → Iss K H W' ps vs
  | [], _, _, h => h
  | p :: ps, vs, i, h => by
    obtain ⟨v, r, e, h1, h2⟩ := h
    rw [imms, Bool.and_eq_true] at i
    exact ⟨v, r, e, Is.imm p v i.1 h1, Iss.imm ps r i.2 h2⟩
end
theorem Iss.length {K : PySem.W.Frag} {H : Hp} {W : Addr → Prop} : ∀ {ps : List PV} {vs : List V}, Iss K H W ps vs → ps.length = vs.length
  | [], _, h => by cases (show _ = [] from h); rfl
  | p :: ps, vs, h => by
    obtain ⟨v, r, e, h1, h2⟩ := h
    subst e
    simp [Iss.length h2]
theorem Iss.get {K : PySem.W.Frag} {H : Hp} {W : Addr → Prop} : ∀ {ps : List PV} {vs : List V}, Iss K H W ps vs → ∀ {i : Nat} {v : V}, vs[i]? = some v → ∃ p, ps[i]? = some p ∧ Is K H W p v
  | [], _, h, i, v, e => by cases (show _ = [] from h); simp at e
  | p :: ps, vs, h, i, v, e => by
    obtain ⟨w, r, e1, h1, h2⟩ := h
    subst e1
    cases i with
    | zero => simp at e; subst e; exact ⟨p, rfl, h1⟩
    | succ i =>
      obtain ⟨q, e2, h3⟩ := Iss.get h2 (i := i) (v := v) (by simpa using e)
      exact ⟨q, by simpa using e2, h3⟩
theorem Iss.getP {K : PySem.W.Frag} {H : Hp} {W : Addr → Prop} : ∀ {ps : List PV} {vs : List V}, Iss K H W ps vs → ∀ {i : Nat} {p : PV}, ps[i]? = some p → ∃ v, vs[i]? = some v ∧ Is K H W p v
  | [], _, h, i, v, e => by simp at e
  | p :: ps, vs, h, i, q, e => by
    obtain ⟨w, r, e1, h1, h2⟩ := h
    subst e1
    cases i with
    | zero => simp at e; subst e; exact ⟨w, rfl, h1⟩
    | succ i =>
      obtain ⟨q, e2, h3⟩ := Iss.getP h2 (i := i) (p := q) (by simpa using e)
      exact ⟨q, by simpa using e2, h3⟩
theorem Iss.append {K : PySem.W.Frag} {H : Hp} {W : Addr → Prop} : ∀ {ps qs : List PV} {vs us : List V}, Iss K H W ps vs → Iss K H W qs us → Iss K H W (ps ++ qs) (vs ++ us)
  | [], _, _, _, h, g => by cases (show _ = [] from h); exact g
  | p :: ps, qs, vs, us, h, g => by
    obtain ⟨w, r, e1, h1, h2⟩ := h
    subst e1
    exact ⟨w, r ++ us, rfl, h1, Iss.append h2 g⟩
theorem Iss.drop {K : PySem.W.Frag} {H : Hp} {W : Addr → Prop} : ∀ {ps : List PV} {vs : List V} (n : Nat), Iss K H W ps vs → Iss K H W (ps.drop n) (vs.drop n)
  | _, _, 0, h => h
  | [], _, n + 1, h => by cases (show _ = [] from h); exact rfl
  | p :: ps, vs, n + 1, h => by
    obtain ⟨w, r, e1, h1, h2⟩ := h
    subst e1
    exact Iss.drop n h2
theorem Iss.take {K : PySem.W.Frag} {H : Hp} {W : Addr → Prop} : ∀ {ps : List PV} {vs : List V} (n : Nat), Iss K H W ps vs → Iss K H W (ps.take n) (vs.take n)
  | _, _, 0, h => by simp [Iss]
  | [], _, n + 1, h => by cases (show _ = [] from h); exact rfl
  | p :: ps, vs, n + 1, h => by
    obtain ⟨w, r, e1, h1, h2⟩ := h
    subst e1
    exact ⟨w, r.take n, rfl, h1, Iss.take n h2⟩
theorem Iss.set {K : PySem.W.Frag} {H : Hp} {W : Addr → Prop} {p : PV} {v : V} (h0 : Is K H W p v) : ∀ {ps : List PV} {vs : List V} (n : Nat), Iss K H W ps vs → Iss K H W (ps.set n p) (vs.set n v)
  | [], _, n, h => by cases (show _ = [] from h); cases n <;> exact rfl
  | q :: ps, vs, 0, h => by
    obtain ⟨w, r, e1, h1, h2⟩ := h
    subst e1
    exact ⟨v, r, rfl, h0, h2⟩
  | q :: ps, vs, n + 1, h => by
    obtain ⟨w, r, e1, h1, h2⟩ := h
    subst e1
    exact ⟨w, r.set n v, rfl, h1, Iss.set h0 n h2⟩


theorem Iss.nil {K : PySem.W.Frag} {H : Hp} {W : Addr → Prop} : Iss K H W [] [] := rfl
theorem Iss.cons {K : PySem.W.Frag} {H : Hp} {W : Addr → Prop} {p : PV} {v : V} {ps : List PV} {vs : List V} (h : Is K H W p v) (r : Iss K H W ps vs) : Iss K H W (p :: ps) (v :: vs) := ⟨v, vs, rfl, h, r⟩
theorem Iss.ints {K : PySem.W.Frag} {H : Hp} {W : Addr → Prop} : ∀ ns : List Int, Iss K H W (ns.map PV.int) (ns.map V.int)
  | [] => rfl
  | n :: ns => ⟨_, _, rfl, rfl, Iss.ints ns⟩

/-! ### the frame: slots with values, slots that own an object (true: a parameter that the caller owns) -/
inductive Sl where
  | un | val (p : PV) | own (io : Bool) (p : PV)
abbrev En := List Sl
abbrev Pds := List (PV × V)
structure Gd where
  keep : Hp
  ex : Addr → Prop
  io : Nat → Addr → Prop
def Gd.add (G : Gd) (a : Addr) (o : HO) : Gd := ⟨upd G.keep a o, fun b => b = a ∨ G.ex b, G.io⟩
def WS (G : Gd) (σ : L2.St) (ρ : En) (a : Addr) : Prop := G.ex a ∨ ∃ (i : Nat) (b : Bool) (p : PV), ρ[i]? = some (Sl.own b p) ∧ σ[i]? = some (some (V.ref a))
def OwnO (K : PySem.W.Frag) (H : Hp) (W : Addr → Prop) : PV → HO → Prop
  | .lst ps, .lst vs => Iss K H W ps vs
  | .dic ks ps, .dK kvs => ∃ vs, kvs = ks.zip vs ∧ ks.length = vs.length ∧ ks.all keyOk = true ∧ Iss K H W ps vs
  | _, _ => False
def Own (K : PySem.W.Frag) (H : Hp) (W : Addr → Prop) (p : PV) (a : Addr) : Prop := ∃ o, H a = some o ∧ OwnO K H W p o
theorem OwnO.mut {K : PySem.W.Frag} {H : Hp} {W : Addr → Prop} {p : PV} {o : HO} (h : OwnO K H W p o) : Mut (some o) := by
  cases p <;> cases o <;> first | exact h.elim | trivial
theorem OwnO.move {K : PySem.W.Frag} {H H' : Hp} {W W' : Addr → Prop} (k : ∀ b o, H b = some o → ¬ W b → H' b = some o) (m : MutT H W) (s : ∀ b, (∃ o, H b = some o) → W' b → W b) {p : PV} {o : HO} (h : OwnO K H W p o) : OwnO K H' W' p o := by
  cases p <;> cases o <;> first
    | exact h.elim
    | exact Iss.move k m s _ _ h
    | (obtain ⟨vs, e, l, kk, q⟩ := h; exact ⟨vs, e, l, kk, Iss.move k m s _ _ q⟩)
theorem OwnO.anti {K : PySem.W.Frag} {H : Hp} {W W' : Addr → Prop} (s : ∀ b, W' b → W b) {p : PV} {o : HO} (h : OwnO K H W p o) : OwnO K H W' p o := by
  cases p <;> cases o <;> first
    | exact h.elim
    | exact Iss.anti s _ _ h
    | (obtain ⟨vs, e, l, kk, q⟩ := h; exact ⟨vs, e, l, kk, Iss.anti s _ _ q⟩)
theorem OwnO.is {K : PySem.W.Frag} {H : Hp} {W W' : Addr → Prop} {p : PV} {o : HO} {a : Addr} (h : OwnO K H W p o) (e : H a = some o) (s : ∀ b, W' b → W b) (n : ¬ W' a) : Is K H W' p (.ref a) := by
  cases p <;> cases o <;> first
    | exact h.elim
    | exact ⟨a, _, rfl, n, e, Iss.anti s _ _ h⟩
    | (obtain ⟨vs, e1, l, kk, q⟩ := h; subst e1; exact ⟨a, vs, rfl, n, .inl e, l, kk, Iss.anti s _ _ q⟩)

structure RE (K : PySem.W.Frag) (G : Gd) (H : Hp) (σ : L2.St) (ρ : En) (pd : Pds) : Prop where
  len : ρ.length = σ.length
  val : ∀ (i : Nat) (p : PV), ρ[i]? = some (Sl.val p) → ∃ v, σ[i]? = some (some v) ∧ Is K H (WS G σ ρ) p v
  own : ∀ (i : Nat) (b : Bool) (p : PV), ρ[i]? = some (Sl.own b p) → ∃ a, σ[i]? = some (some (V.ref a)) ∧ G.keep a = none ∧ Own K H (WS G σ ρ) p a
  inj : ∀ (i j : Nat) (b c : Bool) (p q : PV) (a : Addr), ρ[i]? = some (Sl.own b p) → ρ[j]? = some (Sl.own c q) → σ[i]? = some (some (V.ref a)) → σ[j]? = some (some (V.ref a)) → i = j
  io : ∀ (i : Nat) (a : Addr), G.io i a → σ[i]? = some (some (V.ref a)) ∧ ∃ p, ρ[i]? = some (Sl.own true p)
  keep : ∀ b o, G.keep b = some o → H b = some o
  exk : ∀ b, G.ex b → ∃ o, G.keep b = some o ∧ Mut (some o)
  pd : ∀ x ∈ pd, Is K H (WS G σ ρ) x.1 x.2

section
variable {K : PySem.W.Frag} {G : Gd} {H H' : Hp} {σ : L2.St} {ρ : En} {pd pd' : Pds}
theorem RE.mut (R : RE K G H σ ρ pd) : MutT H (WS G σ ρ) := fun b w => by
  rcases w with w | ⟨i, c, p, e1, e2⟩
  · obtain ⟨o, e, m⟩ := R.exk b w
    rw [R.keep b o e]; exact m
  · obtain ⟨a, e3, _, o, e4, q⟩ := R.own i c p e1
    rw [e2] at e3; cases e3
    rw [e4]; exact q.mut
theorem RE.there (R : RE K G H σ ρ pd) {b : Addr} (w : WS G σ ρ b) : ∃ o, H b = some o := by
  have m := R.mut b w
  cases e : H b with
  | none => rw [e] at m; exact m.elim
  | some o => exact ⟨o, rfl⟩
theorem RE.pds (R : RE K G H σ ρ pd) (s : ∀ x ∈ pd', x ∈ pd) : RE K G H σ ρ pd' := ⟨R.len, R.val, R.own, R.inj, R.io, R.keep, R.exk, fun x hx => R.pd x (s x hx)⟩
theorem RE.tl {x : PV × V} (R : RE K G H σ ρ (x :: pd)) : RE K G H σ ρ pd := R.pds fun y hy => List.mem_cons_of_mem _ hy
theorem RE.push {p : PV} {v : V} (R : RE K G H σ ρ pd) (h : Is K H (WS G σ ρ) p v) : RE K G H σ ρ ((p, v) :: pd) := ⟨R.len, R.val, R.own, R.inj, R.io, R.keep, R.exk, fun x hx => by
  rcases List.mem_cons.mp hx with e | hx
  · rw [e]; exact h
  · exact R.pd x hx⟩
theorem RE.pushs (R : RE K G H σ ρ pd) (h : ∀ x ∈ pd', Is K H (WS G σ ρ) x.1 x.2) : RE K G H σ ρ (pd' ++ pd) := ⟨R.len, R.val, R.own, R.inj, R.io, R.keep, R.exk, fun x hx => by
  rcases List.mem_append.mp hx with e | hx
  · exact h x e
  · exact R.pd x hx⟩
/-- everything that is tracked stays -/
theorem RE.same (R : RE K G H σ ρ pd) (s : Same H H') : RE K G H' σ ρ pd := by
  have mv : ∀ p v, Is K H (WS G σ ρ) p v → Is K H' (WS G σ ρ) p v := fun p v h => Is.move (fun b o e _ => s b o e) R.mut (fun _ _ w => w) p v h
  refine ⟨R.len, fun i p e => ?_, fun i c p e => ?_, R.inj, R.io, fun b o e => s b o (R.keep b o e), R.exk, fun x hx => mv _ _ (R.pd x hx)⟩
  · obtain ⟨v, e1, h⟩ := R.val i p e
    exact ⟨v, e1, mv p v h⟩
  · obtain ⟨a, e1, n, o, e2, h⟩ := R.own i c p e
    exact ⟨a, e1, n, o, s a o e2, h.move (fun b o e _ => s b o e) R.mut fun _ _ w => w⟩
/-- a new object, private -/
theorem RE.add {a : Addr} {o : HO} (R : RE K G H σ ρ pd) (n : H a = none) (s : Same H H') (e : H' a = some o) (m : Mut (some o)) : RE K (G.add a o) H' σ ρ pd := by
  have sub : ∀ b, (∃ o, H b = some o) → WS (G.add a o) σ ρ b → WS G σ ρ b := fun b t w => by
    rcases w with (w | w) | w
    · obtain ⟨u, t⟩ := t; rw [w, n] at t; cases t
    · exact .inl w
    · exact .inr w
  have mv : ∀ p v, Is K H (WS G σ ρ) p v → Is K H' (WS (G.add a o) σ ρ) p v := fun p v h => Is.move (fun b o e _ => s b o e) R.mut sub p v h
  have kn : G.keep a = none := by
    cases q : G.keep a with
    | none => rfl
    | some u => rw [R.keep a u q] at n; cases n
  refine ⟨R.len, fun i p e => ?_, fun i d p e1 => ?_, R.inj, R.io, fun b u e1 => ?_, fun b w => ?_, fun x hx => mv _ _ (R.pd x hx)⟩
  · obtain ⟨v, e1, h⟩ := R.val i p e
    exact ⟨v, e1, mv p v h⟩
  · obtain ⟨c, e2, k, u, e3, h⟩ := R.own i d p e1
    have ne : c ≠ a := fun z => by rw [z, n] at e3; cases e3
    exact ⟨c, e2, by show upd G.keep a o c = none; rw [upd_ne ne]; exact k, u, s c u e3, h.move (fun b o e _ => s b o e) R.mut sub⟩
  · by_cases q : b = a
    · rw [q] at e1
      have e2 : upd G.keep a o a = some u := e1
      rw [upd_same] at e2; cases e2
      rw [q]; exact e
    · have e2 : upd G.keep a o b = some u := e1
      rw [upd_ne q] at e2
      exact s b u (R.keep b u e2)
  · rcases w with w | w
    · rw [w]; exact ⟨o, upd_same, m⟩
    · obtain ⟨u, e1, m1⟩ := R.exk b w
      have ne : b ≠ a := fun z => by rw [z, kn] at e1; cases e1
      exact ⟨u, by show upd G.keep a o b = some u; rw [upd_ne ne]; exact e1, m1⟩
/-- the private one forgotten -/
theorem RE.unadd {a : Addr} {o : HO} (R : RE K (G.add a o) H σ ρ pd) (n : G.keep a = none) (kx : ∀ b, G.ex b → ∃ o, G.keep b = some o ∧ Mut (some o)) : RE K G H σ ρ pd ∧ ¬ WS G σ ρ a ∧ H a = some o := by
  have sub : ∀ b, WS G σ ρ b → WS (G.add a o) σ ρ b := fun b w => w.elim (fun w => .inl (.inr w)) .inr
  have Ha : H a = some o := R.keep a o upd_same
  refine ⟨⟨R.len, fun i p e => ?_, fun i b p e => ?_, R.inj, R.io, fun b u e => ?_, kx, fun x hx => Is.anti sub _ _ (R.pd x hx)⟩, ?_, Ha⟩
  · obtain ⟨v, e1, h⟩ := R.val i p e
    exact ⟨v, e1, Is.anti sub p v h⟩
  · obtain ⟨c, e1, k, u, e2, h⟩ := R.own i b p e
    refine ⟨c, e1, ?_, u, e2, h.anti sub⟩
    have k' : upd G.keep a o c = none := k
    by_cases z : c = a
    · rw [z, upd_same] at k'; cases k'
    · rw [upd_ne z] at k'; exact k'
  · refine R.keep b u ?_
    have ne : b ≠ a := fun z => by rw [z, n] at e; cases e
    show upd G.keep a o b = some u
    rw [upd_ne ne]; exact e
  · rintro (w | ⟨i, b, p, e1, e2⟩)
    · obtain ⟨u, e, _⟩ := kx a w
      rw [n] at e; cases e
    · obtain ⟨c, e3, k, _⟩ := R.own i b p e1
      rw [e2] at e3; cases e3
      have k' : upd G.keep a o a = none := k
      rw [upd_same] at k'; cases k'

def notIo (ρ : En) (i : Nat) : Bool := match ρ[i]? with
  | some (Sl.own true _) => false
  | _ => true
theorem ix_set {α : Type} {l : List α} {i j : Nat} {x y : α} (h : (l.set i x)[j]? = some y) : (i = j ∧ y = x ∧ i < l.length) ∨ (i ≠ j ∧ l[j]? = some y) := by
  by_cases e : i = j
  · subst e
    rw [List.getElem?_set] at h
    by_cases l' : i < l.length
    · simp [l'] at h; exact .inl ⟨rfl, h.symm, l'⟩
    · simp [l'] at h
  · rw [List.getElem?_set_ne e] at h; exact .inr ⟨e, h⟩
theorem ix_ne {α : Type} {l : List α} {i j : Nat} {x : α} (e : i ≠ j) : (l.set i x)[j]? = l[j]? := List.getElem?_set_ne e
theorem RE.io_ne (R : RE K G H σ ρ pd) {i : Nat} (n : notIo ρ i = true) : ∀ j a, G.io j a → i ≠ j := fun x a hx z => by
  obtain ⟨_, p, e⟩ := R.io x a hx
  unfold notIo at n
  rw [z, e] at n; simp at n
/-- a slot gets a value -/
theorem RE.set {i : Nat} {p : PV} {v : V} (R : RE K G H σ ρ ((p, v) :: pd)) (n : notIo ρ i = true) : RE K G H (σ.set i (some v)) (ρ.set i (Sl.val p)) pd := by
  have sub : ∀ b, WS G (σ.set i (some v)) (ρ.set i (Sl.val p)) b → WS G σ ρ b := fun b w => by
    rcases w with w | ⟨j, c, q, e1, e2⟩
    · exact .inl w
    · rcases ix_set e1 with ⟨_, z, _⟩ | ⟨ne, e1⟩
      · cases z
      · rw [ix_ne ne] at e2; exact .inr ⟨j, c, q, e1, e2⟩
  refine ⟨by simp [R.len], fun j q e => ?_, fun j c q e => ?_, fun j k b c q r a e1 e2 e3 e4 => ?_, fun x ax hx => ?_, R.keep, R.exk, fun x hx => Is.anti sub _ _ (R.pd x (List.mem_cons_of_mem _ hx))⟩
  · rcases ix_set e with ⟨rfl, z, l⟩ | ⟨ne, e⟩
    · cases z
      refine ⟨v, ?_, Is.anti sub _ _ (R.pd (p, v) List.mem_cons_self)⟩
      rw [List.getElem?_set_self (by rw [← R.len]; exact l)]
    · obtain ⟨w, e1, h⟩ := R.val j q e
      exact ⟨w, by rw [ix_ne ne]; exact e1, Is.anti sub _ _ h⟩
  · rcases ix_set e with ⟨_, z, _⟩ | ⟨ne, e⟩
    · cases z
    · obtain ⟨a, e1, k, o, e2, h⟩ := R.own j c q e
      exact ⟨a, by rw [ix_ne ne]; exact e1, k, o, e2, h.anti sub⟩
  · rcases ix_set e1 with ⟨_, z, _⟩ | ⟨n1, e1⟩
    · cases z
    rcases ix_set e2 with ⟨_, z, _⟩ | ⟨n2, e2⟩
    · cases z
    rw [ix_ne n1] at e3
    rw [ix_ne n2] at e4
    exact R.inj j k b c q r a e1 e2 e3 e4
  · obtain ⟨e, q, e1⟩ := R.io x ax hx
    have ne := R.io_ne n x ax hx
    exact ⟨by rw [ix_ne ne]; exact e, q, by rw [ix_ne ne]; exact e1⟩
/-- a slot forgets -/
theorem RE.clear {i : Nat} (R : RE K G H σ ρ pd) (n : notIo ρ i = true) : RE K G H (σ.set i none) (ρ.set i Sl.un) pd := by
  have sub : ∀ b, WS G (σ.set i none) (ρ.set i Sl.un) b → WS G σ ρ b := fun b w => by
    rcases w with w | ⟨j, c, q, e1, e2⟩
    · exact .inl w
    · rcases ix_set e1 with ⟨_, z, _⟩ | ⟨ne, e1⟩
      · cases z
      · rw [ix_ne ne] at e2; exact .inr ⟨j, c, q, e1, e2⟩
  refine ⟨by simp [R.len], fun j q e => ?_, fun j c q e => ?_, fun j k b c q r a e1 e2 e3 e4 => ?_, fun x ax hx => ?_, R.keep, R.exk, fun x hx => Is.anti sub _ _ (R.pd x hx)⟩
  · rcases ix_set e with ⟨_, z, _⟩ | ⟨ne, e⟩
    · cases z
    · obtain ⟨w, e1, h⟩ := R.val j q e
      exact ⟨w, by rw [ix_ne ne]; exact e1, Is.anti sub _ _ h⟩
  · rcases ix_set e with ⟨_, z, _⟩ | ⟨ne, e⟩
    · cases z
    · obtain ⟨a, e1, k, o, e2, h⟩ := R.own j c q e
      exact ⟨a, by rw [ix_ne ne]; exact e1, k, o, e2, h.anti sub⟩
  · rcases ix_set e1 with ⟨_, z, _⟩ | ⟨n1, e1⟩
    · cases z
    rcases ix_set e2 with ⟨_, z, _⟩ | ⟨n2, e2⟩
    · cases z
    rw [ix_ne n1] at e3
    rw [ix_ne n2] at e4
    exact R.inj j k b c q r a e1 e2 e3 e4
  · obtain ⟨e, q, e1⟩ := R.io x ax hx
    have ne := R.io_ne n x ax hx
    exact ⟨by rw [ix_ne ne]; exact e, q, by rw [ix_ne ne]; exact e1⟩
/-- a slot takes a new object as its own -/
theorem RE.setOwn {i : Nat} {p : PV} {a : Addr} {o : HO} (R : RE K (G.add a o) H σ ρ pd) (n : notIo ρ i = true) (l : i < ρ.length) (k : G.keep a = none) (kx : ∀ b, G.ex b → ∃ o, G.keep b = some o ∧ Mut (some o)) (w : OwnO K H (WS (G.add a o) σ ρ) p o) :
    RE K G H (σ.set i (some (.ref a))) (ρ.set i (Sl.own false p)) pd := by
  have lσ : i < σ.length := by rw [← R.len]; exact l
  have Ha : H a = some o := R.keep a o upd_same
  have sub : ∀ b, WS G (σ.set i (some (.ref a))) (ρ.set i (Sl.own false p)) b → WS (G.add a o) σ ρ b := fun b w => by
    rcases w with w | ⟨j, c, q, e1, e2⟩
    · exact .inl (.inr w)
    · rcases ix_set e1 with ⟨rfl, z, _⟩ | ⟨ne, e1⟩
      · rw [List.getElem?_set_self lσ] at e2; cases e2; exact .inl (.inl rfl)
      · rw [ix_ne ne] at e2; exact .inr ⟨j, c, q, e1, e2⟩
  have kne : ∀ c, (G.add a o).keep c = none → c ≠ a ∧ G.keep c = none := fun c e => by
    have e' : upd G.keep a o c = none := e
    by_cases z : c = a
    · rw [z, upd_same] at e'; cases e'
    · rw [upd_ne z] at e'; exact ⟨z, e'⟩
  refine ⟨by simp [R.len], fun j q e => ?_, fun j c q e => ?_, fun j m b c q r d e1 e2 e3 e4 => ?_, fun x ax hx => ?_, fun b u e => ?_, kx, fun x hx => Is.anti sub _ _ (R.pd x hx)⟩
  · rcases ix_set e with ⟨_, z, _⟩ | ⟨ne, e⟩
    · cases z
    · obtain ⟨w, e1, h⟩ := R.val j q e
      exact ⟨w, by rw [ix_ne ne]; exact e1, Is.anti sub _ _ h⟩
  · rcases ix_set e with ⟨rfl, z, _⟩ | ⟨ne, e⟩
    · cases z
      exact ⟨a, List.getElem?_set_self lσ, k, o, Ha, w.anti sub⟩
    · obtain ⟨d, e1, k1, u, e2, h⟩ := R.own j c q e
      exact ⟨d, by rw [ix_ne ne]; exact e1, (kne d k1).2, u, e2, h.anti sub⟩
  · rcases ix_set e1 with ⟨rfl, z, _⟩ | ⟨n1, e1⟩
    · rw [List.getElem?_set_self lσ] at e3; cases e3
      rcases ix_set e2 with ⟨rfl, z2, _⟩ | ⟨n2, e2⟩
      · rfl
      · rw [ix_ne n2] at e4
        obtain ⟨d, e5, k1, _⟩ := R.own m c r e2
        rw [e4] at e5; cases e5
        exact absurd rfl (kne _ k1).1
    · rw [ix_ne n1] at e3
      rcases ix_set e2 with ⟨rfl, z2, _⟩ | ⟨n2, e2⟩
      · rw [List.getElem?_set_self lσ] at e4; cases e4
        obtain ⟨d, e5, k1, _⟩ := R.own j b q e1
        rw [e3] at e5; cases e5
        exact absurd rfl (kne _ k1).1
      · rw [ix_ne n2] at e4
        exact R.inj j m b c q r d e1 e2 e3 e4
  · obtain ⟨e, q, e1⟩ := R.io x ax hx
    have ne := R.io_ne n x ax hx
    exact ⟨by rw [ix_ne ne]; exact e, q, by rw [ix_ne ne]; exact e1⟩
  · refine R.keep b u ?_
    have ne : b ≠ a := fun z => by rw [z, k] at e; cases e
    show upd G.keep a o b = some u
    rw [upd_ne ne]; exact e
/-- a slot's own object is from now on a value like others -/
theorem RE.freeze {i : Nat} {p : PV} (R : RE K G H σ ρ pd) (e : ρ[i]? = some (Sl.own false p)) : RE K G H σ (ρ.set i (Sl.val p)) pd := by
  obtain ⟨a, ea, k, o, Ha, w⟩ := R.own i false p e
  have sub : ∀ b, WS G σ (ρ.set i (Sl.val p)) b → WS G σ ρ b := fun b w => by
    rcases w with w | ⟨j, c, q, e1, e2⟩
    · exact .inl w
    · rcases ix_set e1 with ⟨_, z, _⟩ | ⟨ne, e1⟩
      · cases z
      · exact .inr ⟨j, c, q, e1, e2⟩
  have na : ¬ WS G σ (ρ.set i (Sl.val p)) a := by
    rintro (w | ⟨j, c, q, e1, e2⟩)
    · obtain ⟨u, e3, _⟩ := R.exk a w
      rw [k] at e3; cases e3
    · rcases ix_set e1 with ⟨_, z, _⟩ | ⟨ne, e1⟩
      · cases z
      · exact ne (R.inj i j _ _ _ _ a e e1 ea e2)
  refine ⟨by simp [R.len], fun j q e1 => ?_, fun j c q e1 => ?_, fun j k b c q r a e1 e2 e3 e4 => ?_, fun x ax hx => ?_, R.keep, R.exk, fun x hx => Is.anti sub _ _ (R.pd x hx)⟩
  · rcases ix_set e1 with ⟨rfl, z, l⟩ | ⟨ne, e1⟩
    · cases z
      exact ⟨_, ea, w.is Ha sub na⟩
    · obtain ⟨w, e2, h⟩ := R.val j q e1
      exact ⟨w, e2, Is.anti sub _ _ h⟩
  · rcases ix_set e1 with ⟨_, z, _⟩ | ⟨ne, e1⟩
    · cases z
    · obtain ⟨a, e2, k, o, e3, h⟩ := R.own j c q e1
      exact ⟨a, e2, k, o, e3, h.anti sub⟩
  · rcases ix_set e1 with ⟨_, z, _⟩ | ⟨n1, e1⟩
    · cases z
    rcases ix_set e2 with ⟨_, z, _⟩ | ⟨n2, e2⟩
    · cases z
    exact R.inj j k b c q r a e1 e2 e3 e4
  · obtain ⟨e1, q, e2⟩ := R.io x ax hx
    have ne : i ≠ x := fun z => by rw [z, e2] at e; cases e
    exact ⟨e1, q, by rw [ix_ne ne]; exact e2⟩
/-- a slot's own object is changed -/
theorem RE.mutate {i : Nat} {b : Bool} {p p' : PV} {a : Addr} {o' : HO} (R : RE K G H σ ρ pd) (e : ρ[i]? = some (Sl.own b p)) (ea : σ[i]? = some (some (V.ref a))) (w : OwnO K H (WS G σ ρ) p' o') : RE K G (upd H a o') σ (ρ.set i (Sl.own b p')) pd := by
  obtain ⟨a1, ea1, k, o, Ha, _⟩ := R.own i b p e
  rw [ea] at ea1; cases ea1
  have Wa : WS G σ ρ a := .inr ⟨i, b, p, e, ea⟩
  have kp : ∀ c u, H c = some u → ¬ WS G σ ρ c → upd H a o' c = some u := fun c u h n => by
    have ne : c ≠ a := fun z => n (by rw [z]; exact Wa)
    rw [upd_ne ne]; exact h
  have sub : ∀ c, (∃ o, H c = some o) → WS G σ (ρ.set i (Sl.own b p')) c → WS G σ ρ c := fun c _ w => by
    rcases w with w | ⟨j, d, q, e1, e2⟩
    · exact .inl w
    · rcases ix_set e1 with ⟨rfl, z, _⟩ | ⟨ne, e1⟩
      · exact .inr ⟨i, b, p, e, e2⟩
      · exact .inr ⟨j, d, q, e1, e2⟩
  have mv := fun p v h => Is.move (K := K) kp R.mut sub p v h
  refine ⟨by simp [R.len], fun j q e1 => ?_, fun j c q e1 => ?_, fun j k b1 c1 q r a1 e1 e2 e3 e4 => ?_, fun x ax hx => ?_, fun c u h => ?_, R.exk, fun x hx => mv _ _ (R.pd x hx)⟩
  · rcases ix_set e1 with ⟨_, z, _⟩ | ⟨ne, e1⟩
    · cases z
    · obtain ⟨w, e2, h⟩ := R.val j q e1
      exact ⟨w, e2, mv _ _ h⟩
  · rcases ix_set e1 with ⟨rfl, z, _⟩ | ⟨ne, e1⟩
    · cases z
      exact ⟨a, ea, k, o', upd_same, w.move kp R.mut sub⟩
    · obtain ⟨d, e2, k1, u, e3, h⟩ := R.own j c q e1
      have nd : d ≠ a := fun z => ne (R.inj i j _ _ _ _ a e e1 ea (by rw [← z]; exact e2))
      exact ⟨d, e2, k1, u, by rw [upd_ne nd]; exact e3, h.move kp R.mut sub⟩
  · have q1 : ∀ {m : Nat} {c : Bool} {q : PV}, (ρ.set i (Sl.own b p'))[m]? = some (Sl.own c q) → ∃ c' q', ρ[m]? = some (Sl.own c' q') := fun {m c q} h => by
      rcases ix_set h with ⟨rfl, _, _⟩ | ⟨_, h⟩
      · exact ⟨_, _, e⟩
      · exact ⟨_, _, h⟩
    obtain ⟨_, _, f1⟩ := q1 e1
    obtain ⟨_, _, f2⟩ := q1 e2
    exact R.inj j k _ _ _ _ a1 f1 f2 e3 e4
  · obtain ⟨e1, q, e2⟩ := R.io x ax hx
    refine ⟨e1, ?_⟩
    by_cases z : i = x
    · rw [← z] at e2
      rw [e] at e2; cases e2
      refine ⟨p', ?_⟩
      rw [← z, List.getElem?_set_self (List.getElem?_eq_some_iff.mp e).1]
    · exact ⟨q, by rw [ix_ne z]; exact e2⟩
  · have ne : c ≠ a := fun z => by rw [z, k] at h; cases h
    rw [upd_ne ne]; exact R.keep c u h

/-- the same slots own; what they own, and what is tracked, may have changed -/
def Alike (ρ ρ2 : En) : Prop := ρ2.length = ρ.length ∧ ∀ i : Nat, ρ2[i]? = ρ[i]? ∨ ∃ (b : Bool) (p q : PV), ρ[i]? = some (Sl.own b p) ∧ ρ2[i]? = some (Sl.own b q)
theorem Alike.back {ρ ρ2 : En} (A : Alike ρ ρ2) {i : Nat} {b : Bool} {q : PV} (e : ρ2[i]? = some (Sl.own b q)) : ∃ p, ρ[i]? = some (Sl.own b p) := by
  rcases A.2 i with z | ⟨c, p, r, e1, e2⟩
  · rw [z] at e; exact ⟨q, e⟩
  · rw [e] at e2; cases e2; exact ⟨p, e1⟩
theorem Alike.fwd {ρ ρ2 : En} (A : Alike ρ ρ2) {i : Nat} {b : Bool} {p : PV} (e : ρ[i]? = some (Sl.own b p)) : ∃ q, ρ2[i]? = some (Sl.own b q) := by
  rcases A.2 i with z | ⟨c, p', r, e1, e2⟩
  · rw [e] at z; exact ⟨p, z⟩
  · rw [e] at e1; cases e1; exact ⟨r, e2⟩
theorem RE.swap {ρ2 : En} (R : RE K G H σ ρ pd) (A : Alike ρ ρ2) (k : ∀ b o, H b = some o → ¬ WS G σ ρ b → H' b = some o) (kp : ∀ b o, G.keep b = some o → H' b = some o)
    (ow : ∀ (i : Nat) (b : Bool) (q : PV) (a : Addr), ρ2[i]? = some (Sl.own b q) → σ[i]? = some (some (V.ref a)) → Own K H' (WS G σ ρ) q a) : RE K G H' σ ρ2 pd := by
  have sub : ∀ b, WS G σ ρ2 b → WS G σ ρ b := fun b w => by
    rcases w with w | ⟨i, c, q, e1, e2⟩
    · exact .inl w
    · obtain ⟨p, e⟩ := A.back e1
      exact .inr ⟨i, c, p, e, e2⟩
  have mv := fun p v h => Is.move (K := K) k R.mut (fun b _ w => sub b w) p v h
  refine ⟨by rw [A.1, R.len], fun i p e => ?_, fun i b q e => ?_, fun i j b c p q a e1 e2 e3 e4 => ?_, fun i a h => ?_, kp, R.exk, fun x hx => mv _ _ (R.pd x hx)⟩
  · rcases A.2 i with z | ⟨c, p', r, _, e2⟩
    · rw [z] at e
      obtain ⟨v, e1, h⟩ := R.val i p e
      exact ⟨v, e1, mv _ _ h⟩
    · rw [e] at e2; cases e2
  · obtain ⟨p, e1⟩ := A.back e
    obtain ⟨a, e2, n, _⟩ := R.own i b p e1
    obtain ⟨o, e3, h⟩ := ow i b q a e e2
    exact ⟨a, e2, n, o, e3, h.anti sub⟩
  · obtain ⟨p1, f1⟩ := A.back e1
    obtain ⟨p2, f2⟩ := A.back e2
    exact R.inj i j b c p1 p2 a f1 f2 e3 e4
  · obtain ⟨e, p, e1⟩ := R.io i a h
    obtain ⟨q, e2⟩ := A.fwd e1
    exact ⟨e, q, e2⟩
/-- a slot's own object given away -/
theorem RE.release {i : Nat} {p : PV} (R : RE K G H σ ρ pd) (e : ρ[i]? = some (Sl.own false p)) : ∃ a o, σ[i]? = some (some (V.ref a)) ∧ G.keep a = none ∧ RE K (G.add a o) H σ (ρ.set i Sl.un) pd ∧ OwnO K H (WS (G.add a o) σ (ρ.set i Sl.un)) p o := by
  obtain ⟨a, ea, k, o, Ha, w⟩ := R.own i false p e
  have sub : ∀ b, WS (G.add a o) σ (ρ.set i Sl.un) b → WS G σ ρ b := fun b w => by
    rcases w with (w | w) | ⟨j, c, q, e1, e2⟩
    · rw [w]; exact .inr ⟨i, false, p, e, ea⟩
    · exact .inl w
    · rcases ix_set e1 with ⟨_, z, _⟩ | ⟨ne, e1⟩
      · cases z
      · exact .inr ⟨j, c, q, e1, e2⟩
  refine ⟨a, o, ea, k, ⟨by simp [R.len], fun j q e1 => ?_, fun j c q e1 => ?_, fun j k b c q r a e1 e2 e3 e4 => ?_, fun x ax hx => ?_, fun b u e1 => ?_, fun b w => ?_, fun x hx => Is.anti sub _ _ (R.pd x hx)⟩, w.anti sub⟩
  · rcases ix_set e1 with ⟨_, z, _⟩ | ⟨ne, e1⟩
    · cases z
    · obtain ⟨w, e2, h⟩ := R.val j q e1
      exact ⟨w, e2, Is.anti sub _ _ h⟩
  · rcases ix_set e1 with ⟨_, z, _⟩ | ⟨ne, e1⟩
    · cases z
    · obtain ⟨d, e2, k1, u, e3, h⟩ := R.own j c q e1
      have nd : d ≠ a := fun z => ne (R.inj i j _ _ _ _ a e e1 ea (by rw [← z]; exact e2))
      exact ⟨d, e2, by show upd G.keep a o d = none; rw [upd_ne nd]; exact k1, u, e3, h.anti sub⟩
  · rcases ix_set e1 with ⟨_, z, _⟩ | ⟨n1, e1⟩
    · cases z
    rcases ix_set e2 with ⟨_, z, _⟩ | ⟨n2, e2⟩
    · cases z
    exact R.inj j k b c q r a e1 e2 e3 e4
  · obtain ⟨e1, q, e2⟩ := R.io x ax hx
    have ne : i ≠ x := fun z => by rw [z, e2] at e; cases e
    exact ⟨e1, q, by rw [ix_ne ne]; exact e2⟩
  · by_cases q : b = a
    · rw [q] at e1
      have e2 : upd G.keep a o a = some u := e1
      rw [upd_same] at e2; cases e2
      rw [q]; exact Ha
    · have e2 : upd G.keep a o b = some u := e1
      rw [upd_ne q] at e2
      exact R.keep b u e2
  · rcases w with w' | w'
    · rw [w']; exact ⟨o, upd_same, w.mut⟩
    · obtain ⟨u, e1, m1⟩ := R.exk b w'
      have ne : b ≠ a := fun z => by rw [z, k] at e1; cases e1
      exact ⟨u, by show upd G.keep a o b = some u; rw [upd_ne ne]; exact e1, m1⟩
end
end Px
set_option Elab.async false
set_option linter.all false
set_option maxRecDepth 100000
namespace Px
open PySem L2 PySem.AutoSeq1 PySem.Spec PyProof.Rows
set_option maxRecDepth 8000 in
theorem list_extend_tuple (l : Addr) (items : Array Value) (n : Nat) (b : Addr) (items2 : Array Value) (n2 : Nat) (dd : Option Addr) (sl : Array (Option Value)) (hs0 : ¬(!items.isEmpty && Builtin.List.listTooLong (items.size + items2.size)) = true) (hs1 : items.size ≤ sizeLine) (hs2 : items.size + items2.size ≤ sizeLine + 1) :
    Meets (Builtin.«list.extend» ⟨[.ref l, .ref b], []⟩) (fun _ R s => s.heap.get? l = some { cls := .type "list", dict := none, data := .seq items n, slots := #[] } ∧ s.heap.get? b = some { cls := .type "tuple", dict := dd, data := .seq items2 n2, slots := sl } ∧ R (.ok (.ret Value.none)) { s with heap := s.heap.update l (Obj.mapSeq fun x => x ++ items2), toks := s.toks }) :=
  .of_wp fun prog w A R s h => by
    obtain ⟨hp, g, d, tk, os⟩ := s; obtain ⟨hl, hb, h⟩ := h; have f1 := AutoSeq1.idx_int; have f2 := AutoSeq1.sub_tuple_tuple; have f3 := AutoSeq1.sub_list_list; have f4 := AutoSeq1.sub_tuple_list; have f5 := AutoSeq1.sub_list_tuple;
    have hz' : (items ++ items2).size ≤ sizeLine + 1 := by rw [Array.size_append]; exact hs2
    wp_walk using (wpAny_updateSeq hl rfl (hz := hs1) (_hz' := hz')), wpAny_loadPart' hl, wpAny_loadPart' hb; exact ⟨_, rfl, h⟩
def rExtT (K : PySem.W.Frag) : V → List V → Hp → VK → Prop := fun x vs H Q => ∃ l b xs zs, x = .ref l ∧ vs = [.ref b] ∧ H l = some (.lst xs) ∧ SqT K H b zs ∧ xs.length + zs.length ≤ sizeLine ∧ Q .non (upd H l (.lst (xs ++ zs)))
theorem mt_extT {X : Cx} : MtR X "list.extend" (rExtT X.K) := by
  intro pins s σ H x vs v us Q I rx rv h
  obtain ⟨l, b, xs, zs, rfl, rfl, hH, hB, hz, q⟩ := h
  cases rx
  obtain ⟨u, rfl, ru⟩ := rv.one
  cases ru
  obtain ⟨z, its, n, r, hl, e⟩ := I.lstM hH
  obtain ⟨its2, r2, ⟨⟨cls, dd, data, sl⟩, e2, c2, n2, d2⟩, z2⟩ := I.tuple hB
  simp only at c2 d2
  subst c2 d2
  have hl2 : its2.length = zs.length := r2.length.symm
  have hsz : its.toArray.size + its2.toArray.size ≤ sizeLine := by rw [List.size_toArray, List.size_toArray]; omega
  have hlong : ¬ (!its.toArray.isEmpty && Builtin.List.listTooLong (its.toArray.size + its2.toArray.size)) = true := by
    rw [notLongL hsz, Bool.and_false]
    exact Bool.false_ne_true
  refine call_meets F.slot_list_extend ⟨_, e, rfl⟩ F.entry_list_extend (F.args_list_extend_2 _ _)
    (list_extend_tuple l its.toArray n b its2.toArray n2 dd sl hlong (by rw [List.size_toArray]; omega) (by omega)) ⟨e, e2, ?_⟩
  refine ⟨.non, _, I.lset (its' := its ++ its2) hH e (by simp) (r.append r2) ?_, rfl, q⟩
  rw [List.length_append]
  omega
end Px
namespace Px
open PySem L2

/-! ### what an expression gives: a value; a slot that owns (looked at, not taken); a new object of its own -/
inductive R where
  | pv (p : PV) | sl (i : Nat) | fr (p : PV)
abbrev exkOk (G : Gd) : Prop := ∀ b, G.ex b → ∃ o, G.keep b = some o ∧ Mut (some o)
def Res (K : PySem.W.Frag) (G : Gd) (H : Hp) (σ : L2.St) (ρ : En) (pd : Pds) : R → V → Prop
  | .pv p, v => RE K G H σ ρ ((p, v) :: pd)
  | .sl i, v => RE K G H σ ρ pd ∧ σ[i]? = some (some v) ∧ ∃ b p, ρ[i]? = some (Sl.own b p)
  | .fr p, v => ∃ a o, v = .ref a ∧ G.keep a = none ∧ exkOk G ∧ RE K (G.add a o) H σ ρ pd ∧ OwnO K H (WS (G.add a o) σ ρ) p o
def R.wk : R → R
  | .fr p => .pv p
  | r => r
def R.look (ρ : En) : R → Option PV
  | .pv p => some p
  | .fr p => some p
  | .sl i => match ρ[i]? with
    | some (Sl.own _ p) => some p
    | _ => none
def ArgR (σ : L2.St) (pd : Pds) : R → V → Prop
  | .pv p, v => (p, v) ∈ pd
  | .sl i, v => σ[i]? = some (some v)
  | .fr _, _ => False
theorem look_wk (ρ : En) (r : R) : r.wk.look ρ = r.look ρ := by cases r <;> rfl
section
variable {K : PySem.W.Frag} {G : Gd} {H H' : Hp} {σ : L2.St} {ρ : En} {pd pd' : Pds} {r : R} {v : V}
theorem Res.weak {p : PV} (h : Res K G H σ ρ pd (.fr p) v) : Res K G H σ ρ pd (.pv p) v := by
  obtain ⟨a, o, rfl, n, kx, R1, q⟩ := h
  obtain ⟨R2, nW, Ha⟩ := R1.unadd n kx
  exact R2.push (q.is Ha (fun b w => w.elim (fun w => .inl (.inr w)) .inr) nW)
theorem Res.wk (h : Res K G H σ ρ pd r v) : Res K G H σ ρ pd r.wk v := by
  cases r with
  | fr p => exact h.weak
  | _ => exact h
theorem Res.arg (h : Res K G H σ ρ pd r v) : ∃ pd', (∀ x ∈ pd, x ∈ pd') ∧ RE K G H σ ρ pd' ∧ ArgR σ pd' r.wk v := by
  cases r with
  | pv p => exact ⟨_, fun x hx => List.mem_cons_of_mem _ hx, h, List.mem_cons_self⟩
  | fr p => exact ⟨_, fun x hx => List.mem_cons_of_mem _ hx, h.weak, List.mem_cons_self⟩
  | sl i => exact ⟨pd, fun _ hx => hx, h.1, h.2.1⟩
theorem ArgR.mono (s : ∀ x ∈ pd, x ∈ pd') (h : ArgR σ pd r v) : ArgR σ pd' r v := by
  cases r with
  | pv p => exact s _ h
  | fr p => exact h
  | sl i => exact h
/-- a value as it is looked at (it may be a slot's own) -/
def Lk (K : PySem.W.Frag) (H : Hp) (W : Addr → Prop) : PV → V → Prop
  | .lst ps, v => ∃ a vs, v = .ref a ∧ H a = some (.lst vs) ∧ Iss K H W ps vs
  | .dic ks ps, v => ∃ a vs, v = .ref a ∧ Rd H a (.dK (ks.zip vs)) ∧ ks.length = vs.length ∧ ks.all keyOk = true ∧ Iss K H W ps vs
  | p, v => Is K H W p v
theorem Is.lk {W : Addr → Prop} {p : PV} (h : Is K H W p v) : Lk K H W p v := by
  cases p with
  | lst ps => obtain ⟨a, vs, e, _, q⟩ := h; exact ⟨a, vs, e, q⟩
  | dic ks ps => obtain ⟨a, vs, e, _, q⟩ := h; exact ⟨a, vs, e, q⟩
  | _ => exact h
theorem OwnO.lk {W : Addr → Prop} {p : PV} {o : HO} {a : Addr} (h : OwnO K H W p o) (e : H a = some o) : Lk K H W p (.ref a) := by
  cases p <;> cases o <;> first
    | exact h.elim
    | exact ⟨a, _, rfl, e, h⟩
    | (obtain ⟨vs, e1, l, kk, q⟩ := h; subst e1; exact ⟨a, vs, rfl, .inl e, l, kk, q⟩)
theorem ArgR.lk {p : PV} (R1 : RE K G H σ ρ pd) (h : ArgR σ pd r v) (l : r.look ρ = some p) : Lk K H (WS G σ ρ) p v := by
  cases r with
  | pv q => cases l; exact (R1.pd _ h).lk
  | fr q => exact h.elim
  | sl i =>
    simp only [R.look] at l
    cases e : ρ[i]? with
    | none => rw [e] at l; cases l
    | some s =>
      rw [e] at l
      cases s with
      | un => cases l
      | val q => cases l
      | own b q =>
        cases l
        obtain ⟨a, e1, _, o, e2, q1⟩ := R1.own i b _ e
        have e3 : σ[i]? = some (some v) := h
        rw [e3] at e1; cases e1
        exact q1.lk e2
end

abbrev PK1 := R → En → Prop
/-- keeps simp out of what it is of -/
inductive Dum {α : Type} (a : α) : Type where | mk
abbrev QT := En → PK1 → Prop
/-- the reading te does what t says -/
def Rz (K : PySem.W.Frag) (te : TE) (t : QT) : Prop := ∀ (G : Gd) (H : Hp) (σ : L2.St) (ρ : En) (pd : Pds) (Q : PK1) (F : VK), RE K G H σ ρ pd → t ρ Q → (∀ r ρ' v H', Res K G H' σ ρ' pd r v → Q r ρ' → F v H') → te σ H F
structure QE (X : Cx) (e : Expr) (t : QT) : Prop where
  ex : ∃ te, PE X e te ∧ Rz X.K te t
abbrev QTT := En → (Bool → En → Prop) → Prop
def RzT (K : PySem.W.Frag) (tt : TT) (t : QTT) : Prop := ∀ (G : Gd) (H : Hp) (σ : L2.St) (ρ : En) (pd : Pds) (Q : Bool → En → Prop) (F : Bool → Hp → Prop), RE K G H σ ρ pd → t ρ Q → (∀ b ρ' H', RE K G H' σ ρ' pd → Q b ρ' → F b H') → tt σ H F
structure QC (X : Cx) (e : Expr) (t : QTT) : Prop where
  ex : ∃ tt, PT X e tt ∧ RzT X.K tt t
structure QW (X : Cx) (e : Expr) (t : QTT) : Prop where
  ex : ∃ tt, PW X e tt ∧ RzT X.K tt t
/-- arguments -/
abbrev QTA := En → (List R → En → Prop) → Prop
inductive ArgsR (σ : L2.St) (pd : Pds) : List R → List V → Prop where
  | nil : ArgsR σ pd [] []
  | cons {r : R} {v : V} {rs : List R} {vs : List V} (h : ArgR σ pd r v) (t : ArgsR σ pd rs vs) : ArgsR σ pd (r :: rs) (v :: vs)
theorem ArgsR.mono {σ : L2.St} {pd pd' : Pds} {rs : List R} {vs : List V} (s : ∀ x ∈ pd, x ∈ pd') (h : ArgsR σ pd rs vs) : ArgsR σ pd' rs vs := by
  induction h with
  | nil => exact .nil
  | cons h _ ih => exact .cons (h.mono s) ih
def RzA (K : PySem.W.Frag) (ta : TA) (t : QTA) : Prop := ∀ (G : Gd) (H : Hp) (σ : L2.St) (ρ : En) (pd : Pds) (Q : List R → En → Prop) (F : List V → Hp → Prop), RE K G H σ ρ pd → t ρ Q →
  (∀ rs ρ' pd' vs H', (∀ x ∈ pd, x ∈ pd') → RE K G H' σ ρ' pd' → ArgsR σ pd' rs vs → Q rs ρ' → F vs H') → ta σ H F
structure QA (X : Cx) (es : List Expr) (t : QTA) : Prop where
  ex : ∃ ta, PA X es ta ∧ RzA X.K ta t
def looks (ρ : En) : List R → Option (List PV)
  | [] => some []
  | r :: rs => match r.look ρ, looks ρ rs with
    | some p, some ps => some (p :: ps)
    | _, _ => none
inductive Lks (K : PySem.W.Frag) (H : Hp) (W : Addr → Prop) : List PV → List V → Prop where
  | nil : Lks K H W [] []
  | cons {p : PV} {v : V} {ps : List PV} {vs : List V} (h : Lk K H W p v) (t : Lks K H W ps vs) : Lks K H W (p :: ps) (v :: vs)
theorem ArgsR.lks {K : PySem.W.Frag} {G : Gd} {H : Hp} {σ : L2.St} {ρ : En} {pd : Pds} (R1 : RE K G H σ ρ pd) : ∀ {rs : List R} {vs : List V} {ps : List PV}, ArgsR σ pd rs vs → looks ρ rs = some ps → Lks K H (WS G σ ρ) ps vs
  | _, _, _, .nil, l => by cases l; exact .nil
  | r :: rs, _, _, .cons h t, l => by
    unfold looks at l
    cases e1 : r.look ρ with
    | none => rw [e1] at l; simp at l
    | some p =>
      cases e2 : looks ρ rs with
      | none => rw [e1, e2] at l; simp at l
      | some qs =>
        rw [e1, e2] at l
        cases l
        exact .cons (h.lk R1 e1) (ArgsR.lks R1 t e2)

/-! ### operations by values -/
def ResV (K : PySem.W.Frag) (H : Hp) (W : Addr → Prop) (H' : Hp) : R → V → Prop
  | .pv z, v => Is K H' W z v
  | .fr z, v => ∃ a o, v = .ref a ∧ H a = none ∧ H' a = some o ∧ OwnO K H' (fun b => b = a ∨ W b) z o
  | .sl _, _ => False
theorem res_of {K : PySem.W.Frag} {G : Gd} {H H' : Hp} {σ : L2.St} {ρ : En} {pd : Pds} {z : R} {v : V} (R1 : RE K G H σ ρ pd) (s : Same H H') (h : ResV K H (WS G σ ρ) H' z v) : Res K G H' σ ρ pd z v := by
  cases z with
  | pv z => exact (R1.same s).push h
  | sl i => exact h.elim
  | fr z =>
    obtain ⟨a, o, rfl, n, e, w⟩ := h
    have kn : G.keep a = none := by
      cases q : G.keep a with
      | none => rfl
      | some u => rw [R1.keep a u q] at n; cases n
    exact ⟨a, o, rfl, kn, R1.exk, R1.add n s e w.mut, w.anti fun b w => by rcases w with (w | w) | w; exact .inl w; exact .inr (.inl w); exact .inr (.inr w)⟩
abbrev G2 := PV → PV → (R → Prop) → Prop
def Real2 (K : PySem.W.Frag) (r : R2) (g : G2) : Prop := ∀ (H : Hp) (W : Addr → Prop) (p q : PV) (x y : V) (Q : R → Prop) (F : VK), MutT H W → Lk K H W p x → Lk K H W q y → g p q Q → (∀ v H' z, Same H H' → ResV K H W H' z v → Q z → F v H') → r x y H F
abbrev GL := List PV → (R → Prop) → Prop
def RealL (K : PySem.W.Frag) (r : List V → Hp → VK → Prop) (g : GL) : Prop := ∀ (H : Hp) (W : Addr → Prop) (ps : List PV) (xs : List V) (Q : R → Prop) (F : VK), MutT H W → Lks K H W ps xs → g ps Q → (∀ v H' z, Same H H' → ResV K H W H' z v → Q z → F v H') → r xs H F
theorem Real2.or {K : PySem.W.Frag} {r r' : R2} {g g' : G2} (h : Real2 K r g) (h' : Real2 K r' g') : Real2 K (fun x y H Q => r x y H Q ∨ r' x y H Q) (fun p q Q => g p q Q ∨ g' p q Q) := fun H W p q x y Q F m l1 l2 z f => z.elim (fun z => .inl (h H W p q x y Q F m l1 l2 z f)) (fun z => .inr (h' H W p q x y Q F m l1 l2 z f))
def OpP (X : Cx) (f : Value → Value → Sem Value) (g : G2) : Prop := ∃ r, OpR X f r ∧ Real2 X.K r g
def CallP (X : Cx) (f : Value) (g : GL) : Prop := ∃ r, CallR X f r ∧ RealL X.K r g
def IxP (X : Cx) (g : G2) : Prop := ∃ r, IxR X r ∧ Real2 X.K r g

def qOp2 (g : G2) (ta tb : QT) (ρ : En) (Q : PK1) : Prop := ta ρ fun r1 ρ1 => tb ρ1 fun r2 ρ2 => match r1.look ρ2, r2.look ρ2 with
  | some p, some q => g p q fun z => Q z ρ2
  | _, _ => False
theorem rz_op2 {K : PySem.W.Frag} {r : R2} {g : G2} {ta tb : TE} {qa qb : QT} (hr : Real2 K r g) (ha : Rz K ta qa) (hb : Rz K tb qb) : Rz K (tOp r ta tb) (qOp2 g qa qb) := by
  intro G H σ ρ pd Q F R1 h f
  refine ha G H σ ρ pd _ _ R1 h fun r1 ρ1 x H1 s1 h1 => ?_
  obtain ⟨pd1, sb1, R2, a1⟩ := s1.arg
  refine hb G H1 σ ρ1 pd1 _ _ R2 h1 fun r2 ρ2 y H2 s2 h2 => ?_
  obtain ⟨pd2, sb2, R3, a2⟩ := s2.arg
  cases e1 : r1.look ρ2 with
  | none => rw [e1] at h2; exact h2.elim
  | some p =>
    cases e2 : r2.look ρ2 with
    | none => rw [e1, e2] at h2; exact h2.elim
    | some q =>
      rw [e1, e2] at h2
      refine hr H2 _ p q x y _ F R3.mut ((a1.mono sb2).lk R3 (by rw [look_wk]; exact e1)) (a2.lk R3 (by rw [look_wk]; exact e2)) h2 fun v H' z sm rv hq => ?_
      refine f z ρ2 v H' ?_ hq
      exact res_of (R3.pds fun x hx => sb2 x (sb1 x hx)) sm rv

section
variable {X : Cx} {a b c e : Expr} {es : List Expr} {ta tb tc te : QT} {tt tu : QTT} {tr : QTA} {pos : Pos}
theorem qe_op {op : Operator} {g : G2} (ho : OpP X (binaryOp op) g) (ha : QE X a ta) (hb : QE X b tb) : QE X (.BinOp a op b pos) (qOp2 g ta tb) := by
  obtain ⟨r, h1, h2⟩ := ho
  obtain ⟨t1, p1, q1⟩ := ha.ex
  obtain ⟨t2, p2, q2⟩ := hb.ex
  exact ⟨_, pe_op h1 p1 p2, rz_op2 h2 q1 q2⟩
theorem qe_cmp {op : CmpOp} {g : G2} (ho : OpP X (compareOp op) g) (ha : QE X a ta) (hb : QE X b tb) (hm : behindInMarks op b = false := by first | exact nomark _ (by decide) (by decide) | rfl) : QE X (.Compare a [op] [b] pos) (qOp2 g ta tb) := by
  obtain ⟨r, h1, h2⟩ := ho
  obtain ⟨t1, p1, q1⟩ := ha.ex
  obtain ⟨t2, p2, q2⟩ := hb.ex
  exact ⟨_, pe_cmpR h1 p1 p2 hm, rz_op2 h2 q1 q2⟩
theorem qe_ix {g : G2} (ho : IxP X g) (ha : QE X a ta) (hb : QE X b tb) (hs : PlainIx b := by intro _ _; rfl) : QE X (.Subscript a b pos) (qOp2 g ta tb) := by
  obtain ⟨r, h1, h2⟩ := ho
  obtain ⟨t1, p1, q1⟩ := ha.ex
  obtain ⟨t2, p2, q2⟩ := hb.ex
  exact ⟨_, pe_ix h1 p1 p2 hs, rz_op2 h2 q1 q2⟩
/-- a test that is a comparison -/
def qB (t : QT) (ρ : En) (Q : Bool → En → Prop) : Prop := t ρ fun r ρ1 => match r with
  | .pv (.bl k) => Q k ρ1
  | _ => False
theorem qc_cmp {op : CmpOp} {g : G2} (ho : OpP X (compareOp op) g) (ha : QE X a ta) (hb : QE X b tb) (hm : behindInMarks op b = false := by first | exact nomark _ (by decide) (by decide) | rfl) : QC X (.Compare a [op] [b] pos) (qB (qOp2 g ta tb)) := by
  obtain ⟨r, h1, h2⟩ := ho
  obtain ⟨t1, p1, q1⟩ := ha.ex
  obtain ⟨t2, p2, q2⟩ := hb.ex
  refine ⟨_, pt_cmpR h1 p1 p2 hm, fun G H σ ρ pd Q F R1 h f => ?_⟩
  refine rz_op2 h2 q1 q2 G H σ ρ pd _ _ R1 h fun r ρ' v H' s hq => ?_
  cases r with
  | pv p =>
    cases p with
    | bl k =>
      have e : v = .bl k := s.pd (.bl k, v) List.mem_cons_self
      exact ⟨k, e, f k ρ' H' s.tl hq⟩
    | _ => exact hq.elim
  | _ => exact hq.elim

/-! ### names, constants -/
def qVar (i : Nat) (ρ : En) (Q : PK1) : Prop := match ρ[i]? with
  | some (.val p) => Q (.pv p) ρ
  | some (.own _ _) => Q (.sl i) ρ
  | _ => False
theorem rz_var {K : PySem.W.Frag} {i : Nat} : Rz K (tVar i) (qVar i) := by
  intro G H σ ρ pd Q F R1 h f
  unfold qVar at h
  cases e : ρ[i]? with
  | none => rw [e] at h; exact h.elim
  | some s =>
    rw [e] at h
    cases s with
    | un => exact h.elim
    | val p =>
      obtain ⟨v, e1, q⟩ := R1.val i p e
      exact ⟨v, e1, f (.pv p) ρ v H (R1.push q) h⟩
    | own b p =>
      obtain ⟨a, e1, _⟩ := R1.own i b p e
      exact ⟨.ref a, e1, f (.sl i) ρ (.ref a) H ⟨R1, e1, b, p, e⟩ h⟩
theorem qv (i : Nat) {x : Str} {pos : Pos} (hN : X.N[i]? = some x := by rfl) (hv : Vis X.env.scope x := by first | exact Or.inl rfl | exact Or.inr (Or.inl rfl) | exact Or.inr (Or.inr rfl)) (hd : (x == ("__debug__" : Str)) = false := by decide)
    (hcd : (x == ("__classdict__" : Str)) = false := by decide) : QE X (.Name x pos) (qVar i) := ⟨_, pe_var hN hv hd hcd, rz_var⟩
def qK (p : PV) (ρ : En) (Q : PK1) : Prop := Q (.pv p) ρ
theorem rz_c {K : PySem.W.Frag} {p : PV} {v : V} (h : ∀ H W, Is K H W p v) : Rz K (tC v) (qK p) := by
  intro G H σ ρ pd Q F R1 hq f
  exact f (.pv p) ρ v H (R1.push (h _ _)) hq
theorem qe_int {i : Int} {j : Nat} : QE X (.Constant (.int i) j pos) (qK (.int i)) := ⟨_, pe_int, rz_c fun _ _ => rfl⟩
theorem qe_bl {i : Bool} {j : Nat} : QE X (.Constant (.bool i) j pos) (qK (.bl i)) := ⟨_, pe_bl, rz_c fun _ _ => rfl⟩
theorem qe_non {j : Nat} : QE X (.Constant .none j pos) (qK .non) := ⟨_, pe_non, rz_c fun _ _ => rfl⟩
theorem qe_str {s : Str} {j : Nat} (h : sOk s = true := by decide +kernel) : QE X (.Constant (.str s) j pos) (qK (.str s)) := ⟨_, pe_str, rz_c fun _ _ => ⟨rfl, h⟩⟩

/-! ### arguments, displays -/
def qNil (ρ : En) (Q : List R → En → Prop) : Prop := Q [] ρ
def qCons (t : QT) (r : QTA) (ρ : En) (Q : List R → En → Prop) : Prop := t ρ fun x ρ1 => r ρ1 fun xs ρ2 => Q (x.wk :: xs) ρ2
theorem qa_nil : QA X [] qNil := ⟨_, pa_nil, fun G H σ ρ pd Q F R1 h f => f [] ρ pd [] H (fun _ h => h) R1 .nil h⟩
theorem rz_cons {K : PySem.W.Frag} {t : TE} {ts : TA} {q : QT} {qs : QTA} (h1 : Rz K t q) (h2 : RzA K ts qs) : RzA K (tCons t ts) (qCons q qs) := by
  intro G H σ ρ pd Q F R1 h f
  refine h1 G H σ ρ pd _ _ R1 h fun r1 ρ1 x H1 s1 g1 => ?_
  obtain ⟨pd1, sb1, R2, a1⟩ := s1.arg
  refine h2 G H1 σ ρ1 pd1 _ _ R2 g1 fun rs ρ2 pd2 vs H2 sb2 R3 a2 g2 => ?_
  exact f _ ρ2 pd2 _ H2 (fun x hx => sb2 x (sb1 x hx)) R3 (.cons (a1.mono sb2) a2) g2
theorem qa_cons (ha : QE X e te) (hr : QA X es tr) (hs : starEach (e :: es) X.env = (false, eval e X.env) :: starEach es X.env := by rfl) : QA X (e :: es) (qCons te tr) := by
  obtain ⟨t1, p1, q1⟩ := ha.ex
  obtain ⟨t2, p2, q2⟩ := hr.ex
  exact ⟨_, pa_cons p1 p2 hs, rz_cons q1 q2⟩
/-- all of them values -/
def vals : List R → Option (List PV)
  | [] => some []
  | .pv p :: rs => (vals rs).map (p :: ·)
  | _ :: _ => none
theorem vals_iss {K : PySem.W.Frag} {G : Gd} {H : Hp} {σ : L2.St} {ρ : En} {pd : Pds} (R1 : RE K G H σ ρ pd) : ∀ {rs : List R} {vs : List V} {ps : List PV}, ArgsR σ pd rs vs → vals rs = some ps → Iss K H (WS G σ ρ) ps vs
  | _, _, _, .nil, l => by cases l; exact rfl
  | r :: rs, v :: vs, ps, .cons h t, l => by
    cases r with
    | sl i => cases l
    | fr p => cases l
    | pv p =>
      have l' : (vals rs).map (p :: ·) = some ps := l
      cases e : vals rs with
      | none => rw [e] at l'; cases l'
      | some qs =>
        rw [e] at l'
        cases l'
        exact ⟨v, vs, rfl, R1.pd _ h, vals_iss R1 t e⟩
def small (n : Nat) : Prop := n ≤ sizeLine
theorem small_le {n : Nat} (h : small n) : n ≤ sizeLine := h
theorem small_lt {n : Nat} (h : small (n + 1)) : n < sizeLine := Nat.lt_of_succ_le h
theorem small_of {n : Nat} (h : n ≤ 1000000) : small n := Nat.le_trans h (by decide)
def qTup (t : QTA) (ρ : En) (Q : PK1) : Prop := t ρ fun rs ρ1 => match vals rs with
  | some ps => small ps.length ∧ Q (.pv (.tup ps)) ρ1
  | none => False
def qLst (t : QTA) (ρ : En) (Q : PK1) : Prop := t ρ fun rs ρ1 => match vals rs with
  | some ps => small ps.length ∧ Q (.fr (.lst ps)) ρ1
  | none => False
theorem same_new {H : Hp} {a : Addr} {o : HO} (h : H a = none) : Same H (upd H a o) := fun b u q => by rw [upd_ne (ne_of_none q h)]; exact q
theorem issNew {K : PySem.W.Frag} {H : Hp} {W : Addr → Prop} {a : Addr} {o : HO} {ps : List PV} {vs : List V} (m : MutT H W) (h : Iss K H W ps vs) (n : H a = none) : Iss K (upd H a o) (fun b => b = a ∨ W b) ps vs :=
  Iss.move (fun b o e _ => same_new n b o e) m (fun b t w => by
    rcases w with w | w
    · obtain ⟨u, t⟩ := t; rw [w, n] at t; cases t
    · exact w) ps vs h
theorem isNew {K : PySem.W.Frag} {H : Hp} {W : Addr → Prop} {a : Addr} {o : HO} {p : PV} {v : V} (m : MutT H W) (h : Is K H W p v) (n : H a = none) : Is K (upd H a o) W p v :=
  Is.move (fun b o e _ => same_new n b o e) m (fun b t w => w) p v h
theorem issNew' {K : PySem.W.Frag} {H : Hp} {W : Addr → Prop} {a : Addr} {o : HO} {ps : List PV} {vs : List V} (m : MutT H W) (h : Iss K H W ps vs) (n : H a = none) : Iss K (upd H a o) W ps vs :=
  Iss.move (fun b o e _ => same_new n b o e) m (fun b t w => w) ps vs h
theorem resLst {K : PySem.W.Frag} {H : Hp} {W : Addr → Prop} {a : Addr} {ps : List PV} {vs : List V} (m : MutT H W) (h : Iss K H W ps vs) (n : H a = none) : ResV K H W (upd H a (.lst vs)) (.fr (.lst ps)) (.ref a) :=
  ⟨a, _, rfl, n, upd_same, issNew m h n⟩
theorem resTup {K : PySem.W.Frag} {H : Hp} {W : Addr → Prop} {a : Addr} {ps : List PV} {vs : List V} (m : MutT H W) (h : Iss K H W ps vs) (n : H a = none) : ResV K H W (upd H a (.tup vs)) (.pv (.tup ps)) (.ref a) :=
  ⟨a, vs, rfl, upd_same, issNew' m h n⟩
theorem qe_tup {k : Nat} (h : QA X es tr) : QE X (.Tuple es k pos) (qTup tr) := by
  obtain ⟨t, p, q⟩ := h.ex
  refine ⟨_, pe_tup p, fun G H σ ρ pd Q F R1 hw f => ?_⟩
  refine q G H σ ρ pd _ _ R1 hw fun rs ρ1 pd1 vs H1 sb R2 a g => ?_
  cases e : vals rs with
  | none => rw [e] at g; exact g.elim
  | some ps =>
    rw [e] at g
    have hi := vals_iss R2 a e
    exact ⟨by rw [← hi.length]; exact g.1, fun p hp => f _ ρ1 _ _ (res_of (R2.pds sb) (same_new hp) (resTup R2.mut hi hp)) g.2⟩
theorem qe_lst (h : QA X es tr) : QE X (.List es pos) (qLst tr) := by
  obtain ⟨t, p, q⟩ := h.ex
  refine ⟨_, pe_lst p, fun G H σ ρ pd Q F R1 hw f => ?_⟩
  refine q G H σ ρ pd _ _ R1 hw fun rs ρ1 pd1 vs H1 sb R2 a g => ?_
  cases e : vals rs with
  | none => rw [e] at g; exact g.elim
  | some ps =>
    rw [e] at g
    have hi := vals_iss R2 a e
    exact ⟨by rw [← hi.length]; exact g.1, fun p hp => f _ ρ1 _ _ (res_of (R2.pds sb) (same_new hp) (resLst R2.mut hi hp)) g.2⟩

/-! ### calls of built-ins -/
def qCB (g : GL) (t : QTA) (ρ : En) (Q : PK1) : Prop := t ρ fun rs ρ1 => match looks ρ1 rs with
  | some ps => g ps fun z => Q z ρ1
  | none => False
theorem rz_cb {K : PySem.W.Frag} {r : List V → Hp → VK → Prop} {g : GL} {t : TA} {q : QTA} (hr : RealL K r g) (h : RzA K t q) : Rz K (tCB r t) (qCB g q) := by
  intro G H σ ρ pd Q F R1 hw f
  refine h G H σ ρ pd _ _ R1 hw fun rs ρ1 pd1 vs H1 sb R2 a g1 => ?_
  cases e : looks ρ1 rs with
  | none => rw [e] at g1; exact g1.elim
  | some ps =>
    rw [e] at g1
    exact hr H1 _ ps vs _ F R2.mut (a.lks R2 e) g1 fun v H' z sm rv hq => f z ρ1 v H' (res_of (R2.pds sb) sm rv) hq
theorem qe_callB {id : String} {x : Str} {p : Pos} {g : GL} (hc : CallP X (.builtin id) g) (hm : X.mg x = none) (ha : QA X (e :: es) tr) (hg : Gl X x := by rfl) (hv : bootBuiltins x = some (.builtin id) := by decide +kernel) (hn : x ≠ "__name__" := by decide) (hdb : (x == ("__debug__" : Str)) = false := by decide)
    (he : starEach (e :: es) X.env = (false, eval e X.env) :: starEach es X.env := by rfl) (hpl : (backTo pos (starEach es X.env)).any (·.1) = false := by rfl) : QE X (.Call (.Name x p) (e :: es) [] pos) (qCB g tr) := by
  obtain ⟨r, h1, h2⟩ := hc
  obtain ⟨t, p1, q⟩ := ha.ex
  exact ⟨_, pe_callB h1 hg hm hv p1 hn hdb he hpl, rz_cb h2 q⟩
theorem qe_callTy {T : String} {x : Str} {p : Pos} {g : GL} (hc : CallP X (.type T) g) (hm : X.mg x = none) (ha : QA X (e :: es) tr) (hg : Gl X x := by rfl) (hv : bootBuiltins x = some (.type T) := by decide +kernel) (hn : x ≠ "__name__" := by decide) (hdb : (x == ("__debug__" : Str)) = false := by decide)
    (he : starEach (e :: es) X.env = (false, eval e X.env) :: starEach es X.env := by rfl) (hpl : (backTo pos (starEach es X.env)).any (·.1) = false := by rfl) : QE X (.Call (.Name x p) (e :: es) [] pos) (qCB g tr) := by
  obtain ⟨r, h1, h2⟩ := hc
  obtain ⟨t, p1, q⟩ := ha.ex
  exact ⟨_, pe_callTy h1 hg hm hv p1 hn hdb he hpl, rz_cb h2 q⟩
end
end Px
namespace Px
open PySem L2

/-! ### tests -/
/-- both ways -/
def Br (c : Bool) (A B : Prop) : Prop := (c = true → A) ∧ (c = false → B)
theorem br_t {A B : Prop} : Br true A B ↔ A := ⟨fun h => h.1 rfl, fun h => ⟨fun _ => h, fun z => nomatch z⟩⟩
theorem br_f {A B : Prop} : Br false A B ↔ B := ⟨fun h => h.2 rfl, fun h => ⟨fun z => (nomatch z), fun _ => h⟩⟩
theorem Br.go {c : Bool} {A B C D : Prop} (h : Br c A B) (f : A → C) (g : B → D) : Br c C D := ⟨fun e => f (h.1 e), fun e => g (h.2 e)⟩
def truG : PV → (Bool → Prop) → Prop
  | .non, Q => Q false
  | .bl b, Q => Q b
  | .int i, Q => Q (i != 0)
  | .str s, Q => small s.length ∧ Q ((s.length : Int) != 0)
  | .tup ps, Q => Q (!ps.isEmpty)
  | .lst ps, Q => Q (!ps.isEmpty)
  | _, _ => False
theorem iss_empty {K : PySem.W.Frag} {H : Hp} {W : Addr → Prop} {ps : List PV} {vs : List V} (h : Iss K H W ps vs) : vs.isEmpty = ps.isEmpty := by
  cases ps with
  | nil => cases (show vs = [] from h); rfl
  | cons p ps => obtain ⟨v, r, e, _⟩ := h; subst e; rfl
theorem tru_of {K : PySem.W.Frag} {H : Hp} {W : Addr → Prop} {p : PV} {v : V} {Q : Bool → Prop} (h : Lk K H W p v) (q : truG p Q) : ∃ k, TruV K v H k ∧ Q k := by
  cases p with
  | non => cases (show v = .non from h); exact ⟨false, rfl, q⟩
  | bl b => cases (show v = .bl b from h); exact ⟨b, rfl, q⟩
  | int i => cases (show v = .int i from h); exact ⟨_, rfl, q⟩
  | str s =>
    obtain ⟨e, _⟩ : v = .str s ∧ sOk s = true := h
    subst e
    exact ⟨_, ⟨q.1, rfl⟩, q.2⟩
  | tup ps =>
    obtain ⟨a, vs, e, r, i⟩ : ∃ a vs, v = .ref a ∧ H a = some (.tup vs) ∧ Iss K H W ps vs := h
    subst e
    exact ⟨_, .inr (.inl ⟨vs, .inl (.inl r), rfl⟩), by rw [iss_empty i]; exact q⟩
  | lst ps =>
    obtain ⟨a, vs, e, r, i⟩ := h
    subst e
    exact ⟨_, .inl ⟨vs, .inl (.inl r), rfl⟩, by rw [iss_empty i]; exact q⟩
  | dic ks ps => exact q.elim
  | scr ns => exact q.elim
  | ty n => exact q.elim
def qTru (t : QT) (ρ : En) (Q : Bool → En → Prop) : Prop := t ρ fun r ρ1 => match r.look ρ1 with
  | some p => truG p fun b => Q b ρ1
  | none => False
section
variable {X : Cx} {a b c e : Expr} {es rest : List Expr} {ta tb tc te : QT} {tt tu : QTT} {tr : QTA} {pos : Pos}
/-- r.look, kept -/
theorem Res.lk {K : PySem.W.Frag} {G : Gd} {H : Hp} {σ : L2.St} {ρ : En} {pd : Pds} {r : R} {v : V} {p : PV} (h : Res K G H σ ρ pd r v) (l : r.look ρ = some p) : Lk K H (WS G σ ρ) p v := by
  obtain ⟨pd', _, R1, a⟩ := h.arg
  exact a.lk R1 (by rw [look_wk]; exact l)
theorem Res.re {K : PySem.W.Frag} {G : Gd} {H : Hp} {σ : L2.St} {ρ : En} {pd : Pds} {r : R} {v : V} (h : Res K G H σ ρ pd r v) : RE K G H σ ρ pd := by
  obtain ⟨pd', s, R1, a⟩ := h.arg
  exact R1.pds s
theorem qc_tru (ha : QE X a ta) (he : ∀ whole, isTrue a X.env whole = (do let v ← whole; standAt a.pos; holding [v] (truthy v)) := by intro _; rfl) : QC X a (qTru ta) := by
  obtain ⟨t1, p1, q1⟩ := ha.ex
  refine ⟨_, pt_truth p1 he, fun G H σ ρ pd Q F R1 h f => ?_⟩
  refine q1 G H σ ρ pd _ _ R1 h fun r ρ' v H' s hq => ?_
  cases e : r.look ρ' with
  | none => rw [e] at hq; exact hq.elim
  | some p =>
    rw [e] at hq
    obtain ⟨k, t, q⟩ := tru_of (s.lk e) hq
    exact ⟨k, t, f k ρ' H' s.re q⟩
def qAnd (t u : QTT) (ρ : En) (Q : Bool → En → Prop) : Prop := t ρ fun c ρ1 => Br c (u ρ1 Q) (Q false ρ1)
def qOr (t u : QTT) (ρ : En) (Q : Bool → En → Prop) : Prop := t ρ fun c ρ1 => Br c (Q true ρ1) (u ρ1 Q)
def qNot (t : QTT) (ρ : En) (Q : Bool → En → Prop) : Prop := t ρ fun c ρ1 => Q (!c) ρ1
theorem QW.qc (h : QW X e tt) : QC X e tt := by
  obtain ⟨t, p, q⟩ := h.ex
  exact ⟨t, p.pt, q⟩
theorem qw_and1 (ha : QC X a tt) : QW X (.BoolOp .And [a] pos) tt := by
  obtain ⟨t, p, q⟩ := ha.ex
  exact ⟨t, pw_and1 p, q⟩
theorem qw_or1 (ha : QC X a tt) : QW X (.BoolOp .Or [a] pos) tt := by
  obtain ⟨t, p, q⟩ := ha.ex
  exact ⟨t, pw_or1 p, q⟩
theorem qw_and (ha : QC X a tt) (hb : QW X (.BoolOp .And (b :: rest) pos) tu) : QW X (.BoolOp .And (a :: b :: rest) pos) (qAnd tt tu) := by
  obtain ⟨t1, p1, q1⟩ := ha.ex
  obtain ⟨t2, p2, q2⟩ := hb.ex
  refine ⟨_, pw_and p1 p2, fun G H σ ρ pd Q F R1 h f => ?_⟩
  refine q1 G H σ ρ pd _ _ R1 h fun c ρ1 H1 R2 g => ?_
  cases c with
  | true => exact (q2 G H1 σ ρ1 pd Q F R2 (g.1 rfl) f : _)
  | false => exact f false ρ1 H1 R2 (g.2 rfl)
theorem qw_or (ha : QC X a tt) (hb : QW X (.BoolOp .Or (b :: rest) pos) tu) : QW X (.BoolOp .Or (a :: b :: rest) pos) (qOr tt tu) := by
  obtain ⟨t1, p1, q1⟩ := ha.ex
  obtain ⟨t2, p2, q2⟩ := hb.ex
  refine ⟨_, pw_or p1 p2, fun G H σ ρ pd Q F R1 h f => ?_⟩
  refine q1 G H σ ρ pd _ _ R1 h fun c ρ1 H1 R2 g => ?_
  cases c with
  | true => exact f true ρ1 H1 R2 (g.1 rfl)
  | false => exact (q2 G H1 σ ρ1 pd Q F R2 (g.2 rfl) f : _)
theorem qc_not (ha : QC X a tt) : QC X (.UnaryOp .Not a pos) (qNot tt) := by
  obtain ⟨t, p, q⟩ := ha.ex
  exact ⟨_, pt_not p, fun G H σ ρ pd Q F R1 h f => q G H σ ρ pd _ _ R1 h fun c ρ1 H1 R2 g => f (!c) ρ1 H1 R2 g⟩
/-- x and y, x or y, not x as values -/
def qAndV (t u : QT) (ρ : En) (Q : PK1) : Prop := t ρ fun r ρ1 => match r.look ρ1 with
  | some p => truG p fun c => Br c (u ρ1 Q) (Q r.wk ρ1)
  | none => False
def qOrV (t u : QT) (ρ : En) (Q : PK1) : Prop := t ρ fun r ρ1 => match r.look ρ1 with
  | some p => truG p fun c => Br c (Q r.wk ρ1) (u ρ1 Q)
  | none => False
def qNotV (t : QT) (ρ : En) (Q : PK1) : Prop := t ρ fun r ρ1 => match r.look ρ1 with
  | some p => truG p fun c => Q (.pv (.bl (!c))) ρ1
  | none => False
theorem qe_one {op : BoolOp} (h : QE X a ta) : QE X (.BoolOp op [a] pos) ta := by
  obtain ⟨t, p, q⟩ := h.ex
  exact ⟨t, pe_one p, q⟩
theorem qe_and (ha : QE X a ta) (hb : QE X (.BoolOp .And (b :: rest) pos) tb) : QE X (.BoolOp .And (a :: b :: rest) pos) (qAndV ta tb) := by
  obtain ⟨t1, p1, q1⟩ := ha.ex
  obtain ⟨t2, p2, q2⟩ := hb.ex
  refine ⟨_, pe_andT p1 p2, fun G H σ ρ pd Q F R1 h f => ?_⟩
  refine q1 G H σ ρ pd _ _ R1 h fun r ρ1 v H1 s g => ?_
  cases e : r.look ρ1 with
  | none => rw [e] at g; exact g.elim
  | some p =>
    rw [e] at g
    obtain ⟨k, tk, q⟩ := tru_of (s.lk e) g
    refine ⟨k, tk, ?_⟩
    cases k with
    | true => exact (q2 G H1 σ ρ1 pd Q F s.re (q.1 rfl) f : _)
    | false => exact f _ ρ1 v H1 s.wk (q.2 rfl)
theorem qe_or (ha : QE X a ta) (hb : QE X (.BoolOp .Or (b :: rest) pos) tb) : QE X (.BoolOp .Or (a :: b :: rest) pos) (qOrV ta tb) := by
  obtain ⟨t1, p1, q1⟩ := ha.ex
  obtain ⟨t2, p2, q2⟩ := hb.ex
  refine ⟨_, pe_orT p1 p2, fun G H σ ρ pd Q F R1 h f => ?_⟩
  refine q1 G H σ ρ pd _ _ R1 h fun r ρ1 v H1 s g => ?_
  cases e : r.look ρ1 with
  | none => rw [e] at g; exact g.elim
  | some p =>
    rw [e] at g
    obtain ⟨k, tk, q⟩ := tru_of (s.lk e) g
    refine ⟨k, tk, ?_⟩
    cases k with
    | true => exact f _ ρ1 v H1 s.wk (q.1 rfl)
    | false => exact (q2 G H1 σ ρ1 pd Q F s.re (q.2 rfl) f : _)
theorem qe_not (ha : QE X a ta) : QE X (.UnaryOp .Not a pos) (qNotV ta) := by
  obtain ⟨t1, p1, q1⟩ := ha.ex
  refine ⟨_, pe_notT p1, fun G H σ ρ pd Q F R1 h f => ?_⟩
  refine q1 G H σ ρ pd _ _ R1 h fun r ρ1 v H1 s g => ?_
  cases e : r.look ρ1 with
  | none => rw [e] at g; exact g.elim
  | some p =>
    rw [e] at g
    obtain ⟨k, tk, q⟩ := tru_of (s.lk e) g
    exact ⟨k, tk, f (.pv (.bl (!k))) ρ1 _ H1 (s.re.push rfl) q⟩
def qIfE (t : QTT) (ta tb : QT) (ρ : En) (Q : PK1) : Prop := t ρ fun c ρ1 => Br c (ta ρ1 Q) (tb ρ1 Q)
theorem qe_ifExp (hc : QC X c tt) (ha : QE X a ta) (hb : QE X b tb) : QE X (.IfExp c a b pos) (qIfE tt ta tb) := by
  obtain ⟨t, p, q⟩ := hc.ex
  obtain ⟨t1, p1, q1⟩ := ha.ex
  obtain ⟨t2, p2, q2⟩ := hb.ex
  refine ⟨_, pe_ifExp p p1 p2, fun G H σ ρ pd Q F R1 h f => ?_⟩
  refine q G H σ ρ pd _ _ R1 h fun c ρ1 H1 R2 g => ?_
  cases c with
  | true => exact (q1 G H1 σ ρ1 pd Q F R2 (g.1 rfl) f : _)
  | false => exact (q2 G H1 σ ρ1 pd Q F R2 (g.2 rfl) f : _)

/-! ### slices -/
abbrev QTO := En → (Option Int → En → Prop) → Prop
structure QO (X : Cx) (e : Option Expr) (t : QTO) : Prop where
  ex : ∃ tO, PO X e tO ∧ ∀ (G : Gd) (H : Hp) (σ : L2.St) (ρ : En) (pd : Pds) (Q : Option Int → En → Prop) (F : Option Int → Hp → Prop), RE X.K G H σ ρ pd → t ρ Q → (∀ o ρ' H', RE X.K G H' σ ρ' pd → Q o ρ' → F o H') → tO σ H F
def qNo (ρ : En) (Q : Option Int → En → Prop) : Prop := Q none ρ
def qPart (t : QT) (ρ : En) (Q : Option Int → En → Prop) : Prop := t ρ fun r ρ1 => match r with
  | .pv (.int i) => Q (some i) ρ1
  | _ => False
theorem qo_none : QO X none qNo := ⟨_, po_none, fun G H σ ρ pd Q F R1 h f => f none ρ H R1 h⟩
theorem qo_some (h : QE X e te) : QO X (some e) (qPart te) := by
  obtain ⟨t, p, q⟩ := h.ex
  refine ⟨_, po_some p, fun G H σ ρ pd Q F R1 h f => ?_⟩
  refine q G H σ ρ pd _ _ R1 h fun r ρ1 v H1 s g => ?_
  cases r with
  | pv p =>
    cases p with
    | int i =>
      have e : v = .int i := s.pd (.int i, v) List.mem_cons_self
      exact ⟨i, e, f (some i) ρ1 H1 s.re g⟩
    | _ => exact g.elim
  | _ => exact g.elim
abbrev GS := PV → Option Int → Option Int → (R → Prop) → Prop
def RealS (K : PySem.W.Frag) (r : V → Option Int → Option Int → Hp → VK → Prop) (g : GS) : Prop := ∀ (H : Hp) (W : Addr → Prop) (p : PV) (x : V) (lo hi : Option Int) (Q : R → Prop) (F : VK), MutT H W → Lk K H W p x → g p lo hi Q → (∀ v H' z, Same H H' → ResV K H W H' z v → Q z → F v H') → r x lo hi H F
def SlP (X : Cx) (g : GS) : Prop := ∃ r, SlR X r ∧ RealS X.K r g
def cutP {α : Type} (xs : List α) (lo hi : Option Int) : List α := (xs.drop (HT.sIx xs.length 0 lo)).take (HT.sIx xs.length xs.length hi - HT.sIx xs.length 0 lo)
theorem Iss.cut {K : PySem.W.Frag} {H : Hp} {W : Addr → Prop} {ps : List PV} {vs : List V} (h : Iss K H W ps vs) (lo hi : Option Int) : Iss K H W (cutP ps lo hi) (cutV vs lo hi) := by
  unfold cutP cutV
  rw [h.length]
  exact (h.drop _).take _
def gSl : GS
  | .tup ps, lo, hi, Q => Q (.pv (.tup (cutP ps lo hi)))
  | .lst ps, lo, hi, Q => Q (.fr (.lst (cutP ps lo hi)))
  | _, _, _, _ => False
theorem cut_whole {α : Type} (xs : List α) (lo hi : Option Int) (h : HT.sIx xs.length 0 lo = 0 ∧ HT.sIx xs.length xs.length hi = xs.length) : cutP xs lo hi = xs := by
  unfold cutP
  rw [h.1, h.2]
  simp
theorem sl_seq : SlP X gSl := by
  refine ⟨_, SlR.or sl_tupA sl_list, fun H W p x lo hi Q F m l g f => ?_⟩
  cases p with
  | tup ps =>
    obtain ⟨a, vs, e, r, i⟩ : ∃ a vs, x = .ref a ∧ H a = some (.tup vs) ∧ Iss X.K H W ps vs := l
    subst e
    refine .inl ⟨a, vs, rfl, .inl (.inl r), fun wh => ?_, fun _ p hp => f _ _ _ (same_new hp) (resTup m (i.cut lo hi) hp) g⟩
    refine f _ H (.pv (.tup (cutP ps lo hi))) (Same.refl H) ?_ g
    rw [cut_whole ps lo hi (by rw [i.length]; exact wh)]
    exact ⟨a, vs, rfl, r, i⟩
  | lst ps =>
    obtain ⟨a, vs, e, r, i⟩ := l
    subst e
    exact .inr ⟨a, vs, rfl, .inl (.inl r), fun p hp => f _ _ _ (same_new hp) (resLst m (i.cut lo hi) hp) g⟩
  | _ => exact g.elim
def qSl (g : GS) (t : QT) (tl th : QTO) (ρ : En) (Q : PK1) : Prop := t ρ fun r ρ1 => tl ρ1 fun l ρ2 => th ρ2 fun u ρ3 => match r.look ρ3 with
  | some p => g p l u fun z => Q z ρ3
  | none => False
theorem qe_slice {g : GS} {lo hi : Option Expr} {tl th : QTO} {p2 : Pos} (hr : SlP X g) (he : QE X e te) (hl : QO X lo tl) (hu : QO X hi th) : QE X (.Subscript e (.Slice lo hi none p2) pos) (qSl g te tl th) := by
  obtain ⟨r, h1, h2⟩ := hr
  obtain ⟨t1, p1, q1⟩ := he.ex
  obtain ⟨t3, p3, q3⟩ := hl.ex
  obtain ⟨t4, p4, q4⟩ := hu.ex
  refine ⟨_, pe_slice h1 p1 p3 p4, fun G H σ ρ pd Q F R1 h f => ?_⟩
  refine q1 G H σ ρ pd _ _ R1 h fun r ρ1 v H1 s g1 => ?_
  obtain ⟨pd1, sb, R2, a1⟩ := s.arg
  refine q3 G H1 σ ρ1 pd1 _ _ R2 g1 fun l ρ2 H2 R3 g2 => ?_
  refine q4 G H2 σ ρ2 pd1 _ _ R3 g2 fun u ρ3 H3 R4 g3 => ?_
  cases e : r.look ρ3 with
  | none => rw [e] at g3; exact g3.elim
  | some p =>
    rw [e] at g3
    exact h2 H3 _ p v l u _ F R4.mut (a1.lk R4 (by rw [look_wk]; exact e)) g3 fun v' H' z sm rv hq => f z ρ3 v' H' (res_of (R4.pds sb) sm rv) hq
end
end Px
namespace Px
open PySem L2 PyProof.Rows

theorem Res.pds {K : PySem.W.Frag} {G : Gd} {H : Hp} {σ : L2.St} {ρ : En} {pd pd' : Pds} {r : R} {v : V} (s : ∀ x ∈ pd', x ∈ pd) (h : Res K G H σ ρ pd r v) : Res K G H σ ρ pd' r v := by
  cases r with
  | pv p =>
    refine RE.pds h (fun x hx => ?_)
    rcases List.mem_cons.mp hx with e | hx
    · rw [e]; exact List.mem_cons_self
    · exact List.mem_cons_of_mem _ (s x hx)
  | sl i => exact ⟨h.1.pds s, h.2⟩
  | fr p =>
    obtain ⟨a, o, e, n, kx, R1, q⟩ := h
    exact ⟨a, o, e, n, kx, R1.pds s, q⟩

/-! ### one reading for many contexts -/
theorem QE.all {ι : Type} {X : ι → Cx} {e : Expr} {t : QT} {K : PySem.W.Frag} (hK : ∀ c, (X c).K = K) (h : ∀ c, QE (X c) e t) : ∃ te, (∀ c, PE (X c) e te) ∧ Rz K te t := by
  refine ⟨fun σ H F => ∀ c, (Classical.choose (h c).ex) σ H F, fun c => ⟨fun pins s σ H Q I hw => (Classical.choose_spec (h c).ex).1.run pins s σ H Q I (hw c)⟩, fun G H σ ρ pd Q F R1 hq f c => ?_⟩
  have z : Rz (X c).K (Classical.choose (h c).ex) t := (Classical.choose_spec (h c).ex).2
  exact z G H σ ρ pd Q F (by rw [hK c]; exact R1) hq (by rw [hK c]; exact f)

/-! ### what is walked -/
structure Wk (K : PySem.W.Frag) (J : It) (ps : List PV) (pd1 : Pds) : Prop where
  item : ∀ (G : Gd) (H : Hp) (σ : L2.St) (ρ : En) (pd : Pds) (i : Nat) (p : PV), (∀ x ∈ pd1, x ∈ pd) → RE K G H σ ρ pd → ps[i]? = some p → J.go i H ∧ ∀ x H', J.yld i H x H' → RE K G H' σ ρ ((p, x) :: pd)
  stop : ∀ (G : Gd) (H : Hp) (σ : L2.St) (ρ : En) (pd : Pds) (i : Nat), (∀ x ∈ pd1, x ∈ pd) → RE K G H σ ρ pd → ps.length ≤ i → J.stop i H
abbrev QTI := En → (List PV → En → Prop) → Prop
def RzI (K : PySem.W.Frag) (wi : TI) (t : QTI) : Prop := ∀ (G : Gd) (H : Hp) (σ : L2.St) (ρ : En) (pd : Pds) (Q : List PV → En → Prop) (F : It → Hp → Prop), RE K G H σ ρ pd → t ρ Q →
    (∀ J ps ρ' pd1 H', (∀ x ∈ pd, x ∈ pd1) → RE K G H' σ ρ' pd1 → Wk K J ps pd1 → Q ps ρ' → F J H') → wi σ H F
structure QI (X : Cx) (tg iter : Expr) (t : QTI) : Prop where
  ex : ∃ wi, PI X tg iter wi ∧ RzI X.K wi t
section
variable {X : Cx} {tg e a b : Expr} {es : List Expr} {te : QT} {tr : QTA}
/-- a list, a tuple or a text, whichever comes -/
def iSeq (K : PySem.W.Frag) (te : TE) : TI := fun σ H R => te σ H fun x H1 => (∃ a, x = .ref a ∧ (∃ xs, SqL K H1 a xs) ∧ R (Itl K a) H1) ∨ (∃ a, x = .ref a ∧ (∃ xs, SqT K H1 a xs) ∧ R (Itt K a) H1) ∨ ∃ s, x = .str s ∧ R (Its s) H1
theorem pi_seq {te : TE} (hl : PE X e te) : PI X tg e (iSeq X.K te) := by
  refine ⟨fun pins s σ H R I h => ?_⟩
  refine thn (hl.run pins s σ H _ I h) fun v s1 ⟨x, H1, I1, r1, q1⟩ => ?_
  rcases q1 with q1 | q1 | q1
  · have z : PE X e (fun σ' H' Q => σ' = σ → True) → True := fun _ => trivial
    obtain ⟨a, e, ⟨xs, hq⟩, q⟩ := q1
    subst e
    cases r1
    obtain ⟨its, rv, p, hz⟩ := I1.list hq
    refine wpAny_pyIter_list p.isList ?_
    refine ⟨s1.heap.objs.size, [s1.heap.objs.size], _, _, H1, rfl, I1.kept (t' := s1.toks) fun b o e => Heap.get?_push_of_some _ e, turn_list a _, ⟨_, Heap.get?_push_size _ rfl, rfl, rfl⟩, fun b hb => ?_, q⟩
    have e : b = s1.heap.objs.size := by simpa using hb
    subst e
    exact I1.fpOk (Nat.le_refl _) (I1.hok.fresh (Nat.le_refl _))
  · obtain ⟨a, e, ⟨xs, hq⟩, q⟩ := q1
    subst e
    cases r1
    obtain ⟨its, rv, p, hz⟩ := I1.tuple hq
    refine wpAny_pyIter_tuple (show s1.heap.IsTuple a its.toArray from p) ?_
    refine ⟨s1.heap.objs.size, [s1.heap.objs.size], _, _, H1, rfl, I1.kept (t' := s1.toks) fun b o e => Heap.get?_push_of_some _ e, turn_tuple a _, ⟨_, Heap.get?_push_size _ rfl, rfl, rfl⟩, fun b hb => ?_, q⟩
    have e : b = s1.heap.objs.size := by simpa using hb
    subst e
    exact I1.fpOk (Nat.le_refl _) (I1.hok.fresh (Nat.le_refl _))
  · obtain ⟨y, e, q⟩ := q1
    subst e
    obtain ⟨t, rfl⟩ := r1
    cases ha : y.cps.all (· < 128)
    · exact wpAny_pyIter_wide ha (pi_one (tk := s1.toks) I1 _ (turn_str _ y t "str_iterator" (.inr rfl)) ⟨_, Heap.get?_push_size _ rfl, rfl, rfl⟩ q)
    · exact wpAny_pyIter_ascii ha (pi_one (tk := s1.toks) I1 _ (turn_str _ y t "str_ascii_iterator" (.inl rfl)) ⟨_, Heap.get?_push_size _ rfl, rfl, rfl⟩ q)
def chars (s : Str) : List PV := s.cps.toList.map fun c => PV.str ⟨#[c]⟩
theorem wk_list {K : PySem.W.Frag} {a : Addr} {ps : List PV} {pd : Pds} : Wk K (Itl K a) ps ((.lst ps, .ref a) :: pd) := by
  constructor
  · intro G H σ ρ pd' i p s R1 hp
    obtain ⟨b, vs, e, n, h, q⟩ : ∃ b vs, V.ref a = .ref b ∧ ¬ WS G σ ρ b ∧ H b = some (.lst vs) ∧ Iss K H (WS G σ ρ) ps vs := R1.pd _ (s _ List.mem_cons_self)
    cases e
    obtain ⟨v, hv, hi⟩ := q.getP hp
    refine ⟨⟨vs, v, .inl (.inl h), hv⟩, fun x H' y => ?_⟩
    obtain ⟨rfl, y⟩ := y
    have z := y vs (.inl (.inl h))
    rw [hv] at z; cases z
    exact R1.push hi
  · intro G H σ ρ pd' i s R1 hp
    obtain ⟨b, vs, e, n, h, q⟩ : ∃ b vs, V.ref a = .ref b ∧ ¬ WS G σ ρ b ∧ H b = some (.lst vs) ∧ Iss K H (WS G σ ρ) ps vs := R1.pd _ (s _ List.mem_cons_self)
    cases e
    exact ⟨vs, .inl (.inl h), by rw [← q.length]; exact hp⟩
theorem wk_tup {K : PySem.W.Frag} {a : Addr} {ps : List PV} {pd : Pds} : Wk K (Itt K a) ps ((.tup ps, .ref a) :: pd) := by
  constructor
  · intro G H σ ρ pd' i p s R1 hp
    obtain ⟨b, vs, e, h, q⟩ : ∃ b vs, V.ref a = .ref b ∧ H b = some (.tup vs) ∧ Iss K H (WS G σ ρ) ps vs := R1.pd _ (s _ List.mem_cons_self)
    cases e
    obtain ⟨v, hv, hi⟩ := q.getP hp
    refine ⟨⟨vs, v, .inl (.inl h), hv⟩, fun x H' y => ?_⟩
    obtain ⟨rfl, y⟩ := y
    have z := y vs (.inl (.inl h))
    rw [hv] at z; cases z
    exact R1.push hi
  · intro G H σ ρ pd' i s R1 hp
    obtain ⟨b, vs, e, h, q⟩ : ∃ b vs, V.ref a = .ref b ∧ H b = some (.tup vs) ∧ Iss K H (WS G σ ρ) ps vs := R1.pd _ (s _ List.mem_cons_self)
    cases e
    exact ⟨vs, .inl (.inl h), by rw [← q.length]; exact hp⟩
theorem sOk_one {s : Str} (h : sOk s = true) {i : Nat} {c : Nat} (e : s.cps[i]? = some c) : sOk ⟨#[c]⟩ = true := by
  have h1 : s.cps.all (· < 0x110000) = true := h
  have h2 : c < 0x110000 := by
    have := Array.all_eq_true.mp h1 i (by exact (Array.getElem?_eq_some_iff.mp e).1)
    rw [(Array.getElem?_eq_some_iff.mp e).2] at this
    simpa using this
  show (#[c] : Array Nat).all (· < 0x110000) = true
  simpa using h2
theorem wk_str {K : PySem.W.Frag} {s : Str} {pd : Pds} (hs : sOk s = true) : Wk K (Its s) (chars s) pd := by
  constructor
  · intro G H σ ρ pd' i p sb R1 hp
    unfold chars at hp
    rw [List.getElem?_map] at hp
    cases e : s.cps.toList[i]? with
    | none => rw [e] at hp; cases hp
    | some c =>
      rw [e] at hp; cases hp
      have e' : s.cps[i]? = some c := by rw [← e]; simp
      refine ⟨(Array.getElem?_eq_some_iff.mp e').1, fun x H' y => ?_⟩
      obtain ⟨rfl, d, y1, y2⟩ := y
      rw [e'] at y1; cases y1
      subst y2
      exact R1.push ⟨rfl, sOk_one hs e'⟩
  · intro G H σ ρ pd' i sb R1 hp
    unfold chars at hp
    show s.cps.size ≤ i
    simpa using hp
def qIt (t : QT) (ρ : En) (Q : List PV → En → Prop) : Prop := t ρ fun r ρ1 => match r.wk with
  | .pv (.lst ps) => Q ps ρ1
  | .pv (.tup ps) => Q ps ρ1
  | .pv (.str s) => Q (chars s) ρ1
  | _ => False
theorem qi_seq (h : QE X e te) : QI X tg e (qIt te) := by
  obtain ⟨t, p, q⟩ := h.ex
  refine ⟨_, pi_seq p, fun G H σ ρ pd Q F R1 hw f => ?_⟩
  refine q G H σ ρ pd _ _ R1 hw fun r ρ1 v H1 s g => ?_
  have s' := s.wk
  cases e1 : r.wk with
  | pv p =>
    rw [e1] at s' g
    have R2 : RE X.K G H1 σ ρ1 ((p, v) :: pd) := s'
    have hI := R2.pd (p, v) List.mem_cons_self
    cases p with
    | lst ps =>
      obtain ⟨a, vs, e2, n, h, i⟩ : ∃ a vs, v = .ref a ∧ ¬ WS G σ ρ1 a ∧ H1 a = some (.lst vs) ∧ Iss X.K H1 (WS G σ ρ1) ps vs := hI
      subst e2
      exact .inl ⟨a, rfl, ⟨vs, .inl (.inl h)⟩, f _ ps ρ1 _ H1 (fun x hx => List.mem_cons_of_mem _ hx) R2 wk_list g⟩
    | tup ps =>
      obtain ⟨a, vs, e2, h, i⟩ : ∃ a vs, v = .ref a ∧ H1 a = some (.tup vs) ∧ Iss X.K H1 (WS G σ ρ1) ps vs := hI
      subst e2
      exact .inr (.inl ⟨a, rfl, ⟨vs, .inl (.inl h)⟩, f _ ps ρ1 _ H1 (fun x hx => List.mem_cons_of_mem _ hx) R2 wk_tup g⟩)
    | str s =>
      obtain ⟨e2, ok⟩ : v = .str s ∧ sOk s = true := hI
      exact .inr (.inr ⟨s, e2, f _ (chars s) ρ1 pd H1 (fun x hx => hx) R2.tl (wk_str ok) g⟩)
    | _ => exact g.elim
  | sl i => rw [e1] at g; exact g.elim
  | fr p => rw [e1] at g; exact g.elim
/-- range(n), range(a, b) -/
def rng (lo : Int) (n : Nat) : List PV := (List.range n).map fun k => PV.int (lo + (k : Nat))
theorem wk_rng {K : PySem.W.Frag} {lo : Int} {n : Nat} {pd : Pds} : Wk K (Itr lo n) (rng lo n) pd := by
  constructor
  · intro G H σ ρ pd' i p sb R1 hp
    unfold rng at hp
    rw [List.getElem?_map] at hp
    cases e : (List.range n)[i]? with
    | none => rw [e] at hp; cases hp
    | some c =>
      rw [e] at hp; cases hp
      have l : i < n := by have := (List.getElem?_eq_some_iff.mp e).1; simpa using this
      have ec : c = i := by rw [List.getElem?_range l] at e; cases e; rfl
      subst ec
      refine ⟨l, fun x H' y => ?_⟩
      obtain ⟨rfl, y⟩ := y
      subst y
      exact R1.push rfl
  · intro G H σ ρ pd' i sb R1 hp
    unfold rng at hp
    show n ≤ i
    simpa using hp
def rngOk (i : Int) : Prop := -(2 ^ 62) ≤ i ∧ i < 2 ^ 62
def qRng1 (t : QTA) (ρ : En) (Q : List PV → En → Prop) : Prop := t ρ fun rs ρ1 => match rs with
  | [.pv (.int n)] => rngOk n ∧ Q (rng 0 n.toNat) ρ1
  | _ => False
def qRng2 (t : QTA) (ρ : En) (Q : List PV → En → Prop) : Prop := t ρ fun rs ρ1 => match rs with
  | [.pv (.int a), .pv (.int b)] => (rngOk a ∧ rngOk b) ∧ Q (rng a (b - a).toNat) ρ1
  | _ => False
theorem qi_range1 {p pos : Pos} (hm : X.mg "range" = none) (ha : QA X [a] tr) (hg : Gl X "range" := by rfl) (hs : starEach [a] X.env = [(false, eval a X.env)] := by rfl) : QI X tg (.Call (.Name "range" p) [a] [] pos) (qRng1 tr) := by
  obtain ⟨t, p, q⟩ := ha.ex
  refine ⟨_, pi_range1 hg hm p hs, fun G H σ ρ pd Q F R1 hw f => ?_⟩
  refine q G H σ ρ pd _ _ R1 hw fun rs ρ1 pd1 vs H1 sb R2 ar g => ?_
  cases ar with
  | nil => exact g.elim
  | @cons r v rs vs h1 t1 =>
    cases t1 with
    | cons _ _ => cases r with
      | pv p => cases p <;> exact g.elim
      | _ => exact g.elim
    | nil =>
      cases r with
      | pv p =>
        cases p with
        | int n =>
          have e : v = .int n := R2.pd _ h1
          subst e
          exact ⟨n, rfl, g.1.1, g.1.2, f _ _ ρ1 pd1 H1 sb R2 wk_rng g.2⟩
        | _ => exact g.elim
      | _ => exact g.elim
theorem qi_range2 {p pos : Pos} (hm : X.mg "range" = none) (ha : QA X [a, b] tr) (hg : Gl X "range" := by rfl) (hs : starEach [a, b] X.env = [(false, eval a X.env), (false, eval b X.env)] := by rfl) (hs2 : starEach [b] X.env = [(false, eval b X.env)] := by rfl) :
    QI X tg (.Call (.Name "range" p) [a, b] [] pos) (qRng2 tr) := by
  obtain ⟨t, p, q⟩ := ha.ex
  refine ⟨_, pi_range2 hg hm p hs hs2, fun G H σ ρ pd Q F R1 hw f => ?_⟩
  refine q G H σ ρ pd _ _ R1 hw fun rs ρ1 pd1 vs H1 sb R2 ar g => ?_
  match rs, vs, ar, g with
  | [.pv (.int m), .pv (.int n)], [v, w], .cons h1 (.cons h2 .nil), g =>
    have e : v = .int m := R2.pd _ h1
    have e' : w = .int n := R2.pd _ h2
    subst e e'
    exact ⟨m, n, rfl, ⟨g.1.1.1, g.1.1.2, g.1.2.1, g.1.2.2⟩, f _ _ ρ1 pd1 H1 sb R2 wk_rng g.2⟩

/-! ### targets -/
abbrev QTG := PV → En → (En → Prop) → Prop
def RzG (K : PySem.W.Frag) (g : TG) (sl : List Nat) (t : QTG) : Prop := ∀ (G : Gd) (H : Hp) (σ : L2.St) (ρ : En) (pd : Pds) (p : PV) (v : V) (Q : En → Prop) (F : L2.St → Hp → Prop), RE K G H σ ρ ((p, v) :: pd) → t p ρ Q →
  (∀ σ' ρ' H', σ'.length = σ.length → (∀ i : Nat, i ∉ sl → σ'[i]? = σ[i]?) → RE K G H' σ' ρ' pd → Q ρ' → F σ' H') → g v σ H F
structure QG (X : Cx) (tg : Expr) (sl : List Nat) (t : QTG) : Prop where
  ex : ∃ g, PG X tg g ∧ RzG X.K g sl t
theorem QG.all {ι : Type} {X : ι → Cx} {e : Expr} {sl : List Nat} {t : QTG} {K : PySem.W.Frag} (hK : ∀ c, (X c).K = K) (h : ∀ c, QG (X c) e sl t) : ∃ g, (∀ c, PG (X c) e g) ∧ RzG K g sl t := by
  refine ⟨fun v σ H F => ∀ c, (Classical.choose (h c).ex) v σ H F, fun c => ⟨fun pins s σ H v u Q I r hw => (Classical.choose_spec (h c).ex).1.run pins s σ H v u Q I r (hw c)⟩, fun G H σ ρ pd p v Q F R1 hq f c => ?_⟩
  have z : RzG (X c).K (Classical.choose (h c).ex) sl t := (Classical.choose_spec (h c).ex).2
  exact z G H σ ρ pd p v Q F (by rw [hK c]; exact R1) hq (by rw [hK c]; exact f)
abbrev QTGs := List PV → En → (En → Prop) → Prop
def RzGs (K : PySem.W.Frag) (g : TGs) (sl : List Nat) (t : QTGs) : Prop := ∀ (G : Gd) (H : Hp) (σ : L2.St) (ρ : En) (pd : Pds) (ps : List PV) (vs : List V) (Q : En → Prop) (F : L2.St → Hp → Prop), RE K G H σ ρ pd → ArgsR σ pd (ps.map R.pv) vs → t ps ρ Q →
  (∀ σ' ρ' H', σ'.length = σ.length → (∀ i : Nat, i ∉ sl → σ'[i]? = σ[i]?) → RE K G H' σ' ρ' pd → Q ρ' → F σ' H') → g vs σ H F
structure QGs (X : Cx) (tg : List Expr) (sl : List Nat) (t : QTGs) : Prop where
  ex : ∃ g, PGs X tg g ∧ RzGs X.K g sl t
def qgN (i : Nat) (p : PV) (ρ : En) (Q : En → Prop) : Prop := notIo ρ i = true ∧ Q (ρ.set i (.val p))
theorem rz_gname {K : PySem.W.Frag} {i : Nat} : RzG K (gName i) [i] (qgN i) := fun G H σ ρ pd p v Q F R1 h f =>
  f _ _ H (by simp) (fun j hj => ix_ne (fun z => hj (by simp [z]))) (R1.set h.1) h.2
theorem qg_name (i : Nat) {x : Str} {pos : Pos} (hN : X.N.Nodup) (hi : X.N[i]? = some x := by rfl) (hx : Loc X.env.scope x := by first | exact Or.inl rfl | exact Or.inr rfl) (hf : X.fn x = true ∨ X.env.scope.names.lookup x = some .local := by first | exact .inl rfl | exact .inr rfl) : QG X (.Name x pos) [i] (qgN i) :=
  ⟨_, pg_name hN hi hx hf, rz_gname⟩
def qgNil (ps : List PV) (ρ : En) (Q : En → Prop) : Prop := match ps with
  | [] => Q ρ
  | _ => False
def qgCons (t : QTG) (u : QTGs) (ps : List PV) (ρ : En) (Q : En → Prop) : Prop := match ps with
  | p :: ps => t p ρ fun ρ1 => u ps ρ1 Q
  | [] => False
theorem qgs_nil : QGs X [] [] qgNil := ⟨_, pgs_nil, fun G H σ ρ pd ps vs Q F R1 a h f => by
  cases ps with
  | nil =>
    cases a
    exact ⟨rfl, f σ ρ H rfl (fun _ _ => rfl) R1 h⟩
  | cons _ _ => exact h.elim⟩
theorem argsP {σ σ' : L2.St} {pd : Pds} : ∀ {ps : List PV} {vs : List V}, ArgsR σ pd (ps.map R.pv) vs → ArgsR σ' pd (ps.map R.pv) vs
  | [], _, h => by cases h; exact .nil
  | p :: ps, _, h => by
    cases h with
    | cons h t => exact .cons h (argsP t)
theorem qgs_cons {e : Expr} {es : List Expr} {s1 s2 : List Nat} {t : QTG} {u : QTGs} (h1 : QG X e s1 t) (h2 : QGs X es s2 u) (hs : (assignEach (e :: es) X.env).map (·.2) = assign e X.env :: (assignEach es X.env).map (·.2) := by rfl) : QGs X (e :: es) (s1 ++ s2) (qgCons t u) := by
  obtain ⟨g1, p1, q1⟩ := h1.ex
  obtain ⟨g2, p2, q2⟩ := h2.ex
  refine ⟨_, pgs_cons p1 p2 hs, fun G H σ ρ pd ps vs Q F R1 a h f => ?_⟩
  cases ps with
  | nil => exact h.elim
  | cons p ps =>
    cases a with
    | @cons _ v _ vs hv ta =>
      refine ⟨v, vs, rfl, q1 G H σ ρ pd p v _ _ (R1.push (R1.pd _ hv)) h fun σ1 ρ1 H1 l1 k1 R2 g => ?_⟩
      refine q2 G H1 σ1 ρ1 pd ps vs _ _ R2 (argsP ta) g fun σ2 ρ2 H2 l2 k2 R3 g2 => ?_
      exact f σ2 ρ2 H2 (l2.trans l1) (fun i hi => (k2 i (fun z => hi (List.mem_append_right _ z))).trans (k1 i (fun z => hi (List.mem_append_left _ z)))) R3 g2
def qgT (n : Nat) (t : QTGs) (p : PV) (ρ : En) (Q : En → Prop) : Prop := match p with
  | .tup ps => ps.length = n ∧ t ps ρ Q
  | _ => False
theorem iss_args {K : PySem.W.Frag} {H : Hp} {W : Addr → Prop} {σ : L2.St} : ∀ {ps : List PV} {vs : List V}, Iss K H W ps vs → ArgsR σ (ps.zip vs) (ps.map R.pv) vs
  | [], _, h => by cases (show _ = [] from h); exact .nil
  | p :: ps, _, h => by
    obtain ⟨v, r, e, h1, h2⟩ := h
    subst e
    exact .cons List.mem_cons_self ((iss_args h2).mono fun x hx => List.mem_cons_of_mem _ hx)
theorem iss_mem {K : PySem.W.Frag} {H : Hp} {W : Addr → Prop} : ∀ {ps : List PV} {vs : List V}, Iss K H W ps vs → ∀ x ∈ ps.zip vs, Is K H W x.1 x.2
  | [], _, h, x, hx => by simp at hx
  | p :: ps, _, h, x, hx => by
    obtain ⟨v, r, e, h1, h2⟩ := h
    subst e
    rcases List.mem_cons.mp hx with e | hx
    · rw [e]; exact h1
    · exact iss_mem h2 x hx
theorem qg_tup {es : List Expr} {k : Nat} {t : QTGs} {sl : List Nat} {n : Nat} {pos : Pos} (hc : X.calm = true) (h : QGs X es sl t) (hn : (assignEach es X.env).length = n := by rfl) (hst : (assignEach es X.env).findIdx? (·.1) = none := by rfl) : QG X (.Tuple es k pos) sl (qgT n t) := by
  obtain ⟨g, p, q⟩ := h.ex
  refine ⟨_, pg_tup hc p hn hst, fun G H σ ρ pd p v Q F R1 hw f => ?_⟩
  cases p with
  | tup ps =>
    obtain ⟨a, vs, e, r, i⟩ : ∃ a vs, v = .ref a ∧ H a = some (.tup vs) ∧ Iss X.K H (WS G σ ρ) ps vs := R1.pd (.tup ps, v) List.mem_cons_self
    refine ⟨a, vs, e, .inl (.inl r), by rw [← i.length]; exact hw.1, ?_⟩
    have R2 : RE X.K G H σ ρ (ps.zip vs ++ pd) := R1.tl.pushs (iss_mem i)
    exact q G H σ ρ _ ps vs _ _ R2 ((iss_args i).mono fun x hx => List.mem_append_left _ hx) hw.2 fun σ' ρ' H' l k R3 g => f σ' ρ' H' l k (R3.pds fun x hx => List.mem_append_right _ hx) g
  | _ => exact hw.elim
end
end Px
namespace Px
open PySem L2 PyProof.Rows

/-! ### list comprehensions -/
def wipeE (ρ : En) : List Nat → En
  | [] => ρ
  | v :: vs => (wipeE ρ vs).set v Sl.un
def notIos (ρ : En) (vs : List Nat) : Prop := ∀ v ∈ vs, notIo ρ v = true
theorem notIo_set {ρ : En} {i j : Nat} (h : notIo ρ j = true) : notIo (ρ.set i Sl.un) j = true := by
  by_cases e : i = j
  · subst e
    unfold notIo
    by_cases l : i < ρ.length
    · rw [List.getElem?_set_self l]
    · rw [List.getElem?_eq_none (by simp; omega)]
  · unfold notIo at h ⊢
    rw [ix_ne e]
    exact h
theorem notIo_wipe {ρ : En} {j : Nat} (h : notIo ρ j = true) : ∀ vs : List Nat, notIo (wipeE ρ vs) j = true
  | [] => h
  | v :: vs => notIo_set (notIo_wipe h vs)
theorem RE.wipe {K : PySem.W.Frag} {G : Gd} {H : Hp} {σ : L2.St} {ρ : En} {pd : Pds} (R1 : RE K G H σ ρ pd) : ∀ (vs : List Nat), notIos ρ vs → RE K G H (L2.wipe σ vs) (wipeE ρ vs) pd
  | [], _ => R1
  | v :: vs, n => (RE.wipe R1 vs fun w hw => n w (List.mem_cons_of_mem _ hw)).clear (notIo_wipe (n v List.mem_cons_self) vs)
theorem wipeE_length (ρ : En) : ∀ vs : List Nat, (wipeE ρ vs).length = ρ.length
  | [] => rfl
  | v :: vs => by unfold wipeE; rw [List.length_set, wipeE_length ρ vs]
theorem wipeE_in {ρ : En} {i : Nat} : ∀ {vs : List Nat}, i ∈ vs → (wipeE ρ vs)[i]? = if i < ρ.length then some Sl.un else none
  | v :: vs, h => by
    unfold wipeE
    rw [List.getElem?_set, wipeE_length]
    by_cases e : v = i
    · subst e; simp
    · rcases List.mem_cons.mp h with z | z
      · exact absurd z.symm e
      · simp [e, wipeE_in z]
theorem wipe_in {σ : L2.St} {i : Nat} : ∀ {vs : List Nat}, i ∈ vs → (L2.wipe σ vs)[i]? = if i < σ.length then some none else none
  | v :: vs, h => by
    unfold L2.wipe
    rw [List.getElem?_set, wipe_length]
    by_cases e : v = i
    · subst e; simp
    · rcases List.mem_cons.mp h with z | z
      · exact absurd z.symm e
      · simp [e, wipe_in z]
/-- other slots' values at the slots that the env does not know -/
theorem RE.sig {K : PySem.W.Frag} {G : Gd} {H : Hp} {σ σ' : L2.St} {ρ : En} {pd : Pds} (R1 : RE K G H σ ρ pd) (l : σ'.length = σ.length) (k : ∀ i : Nat, (∀ s, ρ[i]? = some s → s ≠ Sl.un → σ'[i]? = σ[i]?)) : RE K G H σ' ρ pd := by
  have ke : ∀ {i : Nat} {s : Sl}, ρ[i]? = some s → s ≠ Sl.un → σ'[i]? = σ[i]? := fun {i s} e n => k i s e n
  have we : ∀ a, WS G σ' ρ a ↔ WS G σ ρ a := fun a => by
    constructor
    · rintro (w | ⟨i, b, p, e1, e2⟩)
      · exact .inl w
      · exact .inr ⟨i, b, p, e1, by rw [← ke e1 (by simp)]; exact e2⟩
    · rintro (w | ⟨i, b, p, e1, e2⟩)
      · exact .inl w
      · exact .inr ⟨i, b, p, e1, by rw [ke e1 (by simp)]; exact e2⟩
  have sub : ∀ a, WS G σ' ρ a → WS G σ ρ a := fun a => (we a).1
  refine ⟨R1.len.trans l.symm, fun i p e => ?_, fun i b p e => ?_, fun i j b c p q a e1 e2 e3 e4 => ?_, fun i a h => ?_, R1.keep, R1.exk, fun x hx => Is.anti sub _ _ (R1.pd x hx)⟩
  · obtain ⟨v, e1, h⟩ := R1.val i p e
    exact ⟨v, by rw [ke e (by simp)]; exact e1, Is.anti sub _ _ h⟩
  · obtain ⟨a, e1, n, o, e2, h⟩ := R1.own i b p e
    exact ⟨a, by rw [ke e (by simp)]; exact e1, n, o, e2, h.anti sub⟩
  · rw [ke e1 (by simp)] at e3
    rw [ke e2 (by simp)] at e4
    exact R1.inj i j b c p q a e1 e2 e3 e4
  · obtain ⟨e, p, e1⟩ := R1.io i a h
    exact ⟨by rw [ke e1 (by simp)]; exact e, p, e1⟩
theorem RE.unwipe {K : PySem.W.Frag} {G : Gd} {H : Hp} {σ : L2.St} {ρ : En} {pd : Pds} {vs : List Nat} (R1 : RE K G H (L2.wipe σ vs) (wipeE ρ vs) pd) : RE K G H σ (wipeE ρ vs) pd := by
  refine R1.sig (wipe_length σ vs).symm fun i s e n => ?_
  by_cases h : i ∈ vs
  · rw [wipeE_in h] at e
    split at e
    · cases e; exact absurd rfl n
    · cases e
  · exact (wipe_out h).symm
theorem wipe_agree {σ σ' : L2.St} {vs : List Nat} (l : σ'.length = σ.length) (k : ∀ i : Nat, i ∉ vs → σ'[i]? = σ[i]?) : L2.wipe σ' vs = L2.wipe σ vs := by
  refine List.ext_getElem? fun i => ?_
  by_cases h : i ∈ vs
  · rw [wipe_in h, wipe_in h, l]
  · rw [wipe_out h, wipe_out h, k i h]
theorem wipe_wipe (σ : L2.St) (vs : List Nat) : L2.wipe (L2.wipe σ vs) vs = L2.wipe σ vs := by
  refine List.ext_getElem? fun i => ?_
  by_cases h : i ∈ vs
  · rw [wipe_in h, wipe_in h, wipe_length]
  · rw [wipe_out h]
/-- the private object changed -/
theorem RE.readd {K : PySem.W.Frag} {G : Gd} {H : Hp} {σ : L2.St} {ρ : En} {pd : Pds} {a : Addr} {o o' : HO} (R1 : RE K (G.add a o) H σ ρ pd) (m : Mut (some o')) : RE K (G.add a o') (upd H a o') σ ρ pd := by
  have we : ∀ b, WS (G.add a o') σ ρ b ↔ WS (G.add a o) σ ρ b := fun b => Iff.rfl
  have Wa : WS (G.add a o) σ ρ a := .inl (.inl rfl)
  have kp : ∀ b u, H b = some u → ¬ WS (G.add a o) σ ρ b → upd H a o' b = some u := fun b u e n => by
    have ne : b ≠ a := fun z => n (by rw [z]; exact Wa)
    rw [upd_ne ne]; exact e
  have mv := fun p v h => Is.move (K := K) kp R1.mut (W' := WS (G.add a o') σ ρ) (fun _ _ w => w) p v h
  have kne : ∀ c, (G.add a o).keep c = none → c ≠ a ∧ G.keep c = none := fun c e => by
    have e' : upd G.keep a o c = none := e
    by_cases z : c = a
    · rw [z, upd_same] at e'; cases e'
    · rw [upd_ne z] at e'; exact ⟨z, e'⟩
  refine ⟨R1.len, fun i p e => ?_, fun i b p e => ?_, R1.inj, R1.io, fun b u e => ?_, fun b w => ?_, fun x hx => mv _ _ (R1.pd x hx)⟩
  · obtain ⟨v, e1, h⟩ := R1.val i p e
    exact ⟨v, e1, mv _ _ h⟩
  · obtain ⟨c, e1, n, u, e2, h⟩ := R1.own i b p e
    obtain ⟨ne, n'⟩ := kne c n
    exact ⟨c, e1, by show upd G.keep a o' c = none; rw [upd_ne ne]; exact n', u, by rw [upd_ne ne]; exact e2, h.move kp R1.mut fun _ _ w => w⟩
  · have e' : upd G.keep a o' b = some u := e
    by_cases z : b = a
    · rw [z] at e' ⊢; rw [upd_same] at e' ⊢; exact e'
    · rw [upd_ne z] at e' ⊢
      exact R1.keep b u (by show upd G.keep a o b = some u; rw [upd_ne z]; exact e')
  · rcases w with w | w
    · rw [w]; exact ⟨o', upd_same, m⟩
    · obtain ⟨u, e1, m1⟩ := R1.exk b (.inr w)
      have e2 : upd G.keep a o b = some u := e1
      by_cases z : b = a
      · rw [z]; exact ⟨o', upd_same, m⟩
      · rw [upd_ne z] at e2
        exact ⟨u, by show upd G.keep a o' b = some u; rw [upd_ne z]; exact e2, m1⟩
/-- tests of a comprehension -/
structure QCs (X : Cx) (es : List Expr) (t : QTT) : Prop where
  ex : ∃ tt, PTs X es tt ∧ RzT X.K tt t
def qYes (ρ : En) (Q : Bool → En → Prop) : Prop := Q true ρ
theorem qcs_nil {X : Cx} : QCs X [] qYes := ⟨_, pts_nil, fun G H σ ρ pd Q F R1 h f => f true ρ H R1 h⟩
theorem qcs_one {X : Cx} {e : Expr} {t : QTT} (h : QC X e t) : QCs X [e] t := by
  obtain ⟨t1, p, q⟩ := h.ex
  exact ⟨_, pts_one p, q⟩
theorem QCs.all {ι : Type} {X : ι → Cx} {es : List Expr} {t : QTT} {K : PySem.W.Frag} (hK : ∀ c, (X c).K = K) (h : ∀ c, QCs (X c) es t) : ∃ tt, (∀ c, PTs (X c) es tt) ∧ RzT K tt t := by
  refine ⟨fun σ H F => ∀ c, (Classical.choose (h c).ex) σ H F, fun c => ⟨fun pins s σ H Q I hw => (Classical.choose_spec (h c).ex).1.run pins s σ H Q I (hw c)⟩, fun G H σ ρ pd Q F R1 hq f c => ?_⟩
  have z : RzT (X c).K (Classical.choose (h c).ex) t := (Classical.choose_spec (h c).ex).2
  exact z G H σ ρ pd Q F (by rw [hK c]; exact R1) hq (by rw [hK c]; exact f)
def lcGo (g : QTG) (tt : QTT) (te : QT) (vs : List Nat) (Q : List PV → En → Prop) : List PV → List PV → En → Prop
  | [], acc, ρ => Q acc ρ
  | p :: ps, acc, ρ => g p ρ fun ρ1 => tt ρ1 fun b ρ2 => Br b (te ρ2 fun r ρ3 => match r.wk with
      | .pv q => small (acc.length + 1) ∧ notIos ρ3 vs ∧ lcGo g tt te vs Q ps (acc ++ [q]) (wipeE ρ3 vs)
      | _ => False) (notIos ρ2 vs ∧ lcGo g tt te vs Q ps acc (wipeE ρ2 vs))
def lcR (g : QTG) (tt : QTT) (te : QT) (vs : List Nat) (ps : List PV) (ρ : En) (Q : PK1) (_ : Dum Q) : Prop := lcGo g tt te vs (fun acc ρ' => Q (.fr (.lst acc)) ρ') ps [] ρ
def qLc (ti : QTI) (g : QTG) (tt : QTT) (te : QT) (vs : List Nat) (ρ : En) (Q : PK1) : Prop := ti ρ fun ps ρ1 => notIos ρ1 vs ∧ lcR g tt te vs ps (wipeE ρ1 vs) Q .mk
abbrev BlkI (X : Cx) := Shared × Hp × Addr × List (Str × Addr) × List Addr
abbrev blkX (X : Cx) (scope : Scope) (c : BlkI X) : Cx := X.blk c.1 c.2.1 scope (compEnvC scope c.2.2.2.1 c.2.2.1 X.env) c.2.2.2.2
theorem rz_lc {K : PySem.W.Frag} {wi : TI} {g : TG} {tt : TT} {te : TE} {vs sl : List Nat} {ti : QTI} {qg : QTG} {qt : QTT} {qe : QT} (h1 : RzI K wi ti) (h2 : RzG K g sl qg) (h3 : RzT K tt qt) (h4 : Rz K te qe) (hs : ∀ i ∈ sl, i ∈ vs) : Rz K (tLc wi g tt te vs) (qLc ti qg qt qe vs) := by
  intro G H σ ρ pd Q F R1 hw f
  refine h1 G H σ ρ pd _ _ R1 hw fun J ps ρ1 pd1 H1 sb R2 wk ⟨nio, go⟩ => ?_
  intro D hD
  have kx := R2.exk
  have kD : G.keep D = none := by
    cases q : G.keep D with
    | none => rfl
    | some u => rw [R2.keep D u q] at hD; cases hD
  let W : Nat → Nat → Hp → Prop := fun i m H => m = ps.length - i ∧ i ≤ ps.length ∧ ∃ (ρ' : En) (acc : List PV) (av : List V), RE K (G.add D (.lst av)) H (L2.wipe σ vs) (wipeE ρ' vs) (acc.zip av ++ pd1) ∧ acc.length = av.length ∧ lcGo qg qt qe vs (fun acc ρ' => Q (.fr (.lst acc)) ρ') (ps.drop i) acc (wipeE ρ' vs)
  refine ⟨W, ⟨ps.length, by simp, Nat.zero_le _, ρ1, [], [], ?_, rfl, go⟩, ?_⟩
  · exact (R2.wipe vs nio).add (o := .lst []) hD (same_new hD) upd_same trivial
  rintro i m H2 ⟨rfl, hi, ρ', acc, av, R3, la, g1⟩
  by_cases lt : i < ps.length
  · have ep : ps[i]? = some ps[i] := List.getElem?_eq_getElem lt
    obtain ⟨jg, jy⟩ := wk.item _ H2 _ _ _ i _ (fun x hx => List.mem_append_right _ hx) R3 ep
    refine .inr ⟨jg, fun H' => W (i + 1) (ps.length - (i + 1)) H', fun H' w => ⟨_, by omega, w⟩, fun x H3 y => ?_⟩
    have R4 := jy x H3 y
    rw [List.drop_eq_getElem_cons lt] at g1
    refine h2 _ H3 _ _ _ _ x _ _ R4 g1 fun σ2 ρ2 H4 l2 k2 R5 g2 => ?_
    have wa : L2.wipe σ2 vs = L2.wipe σ vs := by
      rw [← wipe_wipe σ vs]
      exact wipe_agree l2 fun j hj => k2 j fun z => hj (hs j z)
    refine ⟨wa, h3 _ H4 σ2 ρ2 _ _ _ R5 g2 fun b ρ3 H5 R6 g3 => ?_⟩
    cases b with
    | false =>
      obtain ⟨n3, g4⟩ := g3.2 rfl
      refine ⟨rfl, lt, ρ3, acc, av, ?_, la, g4⟩
      have R7 := R6.wipe vs n3
      rw [wa] at R7
      exact R7
    | true =>
      have g4 := g3.1 rfl
      show te σ2 H5 _
      refine h4 _ H5 σ2 ρ3 _ _ _ R6 g4 fun r ρ4 v H6 s g5 => ?_
      have s' := s.wk
      cases er : r.wk with
      | pv q =>
        rw [er] at s' g5
        obtain ⟨sm, n5, g6⟩ := g5
        have R7 : RE K (G.add D (.lst av)) H6 σ2 ρ4 ((q, v) :: (acc.zip av ++ pd1)) := s'
        refine ⟨av, R7.keep D _ upd_same, by rw [← la]; exact sm, rfl, lt, ρ4, acc ++ [q], av ++ [v], ?_, by simp [la], g6⟩
        have R8 := (R7.wipe vs n5).readd (o' := .lst (av ++ [v])) trivial
        rw [wa] at R8
        refine R8.pds fun x hx => ?_
        rw [List.zip_append la] at hx
        rcases List.mem_append.mp hx with hx | hx
        · rcases List.mem_append.mp hx with hx | hx
          · exact List.mem_cons_of_mem _ (List.mem_append_left _ hx)
          · have : x = (q, v) := by simpa using hx
            rw [this]; exact List.mem_cons_self
        · exact List.mem_cons_of_mem _ (List.mem_append_right _ hx)
      | sl j => rw [er] at g5; exact g5.elim
      | fr q => rw [er] at g5; exact g5.elim
  · have e : i = ps.length := by omega
    subst e
    refine .inl ⟨wk.stop _ H2 _ _ _ _ (fun x hx => List.mem_append_right _ hx) R3 (Nat.le_refl _), ?_⟩
    rw [List.drop_length] at g1
    have R4 := R3.unwipe
    refine f (.fr (.lst acc)) (wipeE ρ' vs) (.ref D) H2 ⟨D, .lst av, rfl, kD, kx, R4.pds fun x hx => List.mem_append_right _ (sb x hx), ?_⟩ g1
    show Iss K H2 (WS (G.add D (.lst av)) σ (wipeE ρ' vs)) acc av
    have hall : ∀ x ∈ acc.zip av, Is K H2 (WS (G.add D (.lst av)) σ (wipeE ρ' vs)) x.1 x.2 := fun x hx => R4.pd x (List.mem_append_left _ hx)
    clear g1 R3 R4
    revert la hall
    generalize WS (G.add D (.lst av)) σ (wipeE ρ' vs) = W'
    intro la hall
    clear W f go
    induction acc generalizing av with
    | nil => cases av with
      | nil => rfl
      | cons _ _ => simp at la
    | cons p acc ih =>
      cases av with
      | nil => simp at la
      | cons v av => exact ⟨v, av, rfl, hall (p, v) List.mem_cons_self, ih av (by simpa using la) fun x hx => hall x (List.mem_cons_of_mem _ hx)⟩
section
variable {X : Cx} {elt tg iter : Expr} {ifs : List Expr} {scope : Scope} {own : List (Str × Nat)} {pos : Pos} {ti : QTI} {g : QTG} {tt : QTT} {te : QT} {sl : List Nat}
theorem qe_lc (hc : X.calm = true) (hN : X.N.Nodup) (ok : BlkOk X.N X.env.scope scope own) (hi : QI X tg iter ti) (hg : ∀ c, QG (blkX X scope c) tg sl g) (ht : ∀ c, QCs (blkX X scope c) ifs tt) (he : ∀ c, QE (blkX X scope c) elt te)
    (hs : ∀ i ∈ sl, i ∈ own.map (·.2) := by decide) (hf : ∀ x, foldedSetIterable iter X.env x = pure x := by intro _; rfl) {vs : List Nat} (hv : vs = own.map (·.2) := by rfl) : QE X (.ListComp elt [⟨tg, iter, ifs, 0⟩] scope pos) (qLc ti g tt te vs) := by
  subst hv
  obtain ⟨wi, p1, q1⟩ := hi.ex
  obtain ⟨g1, p2, q2⟩ := QG.all (X := blkX X scope) (K := X.K) (fun _ => rfl) hg
  obtain ⟨t1, p3, q3⟩ := QCs.all (X := blkX X scope) (K := X.K) (fun _ => rfl) ht
  obtain ⟨e1, p4, q4⟩ := QE.all (X := blkX X scope) (K := X.K) (fun _ => rfl) he
  exact ⟨_, pe_lc hc hN p1 ok (fun s H C cl fp => p2 (s, H, C, cl, fp)) (fun s H C cl fp => p3 (s, H, C, cl, fp)) (fun s H C cl fp => p4 (s, H, C, cl, fp)) hf, rz_lc q1 q2 q3 q4 hs⟩
end
end Px
namespace Px
open PySem L2 PyProof.Rows

/-! ### statements -/
structure PEnds where
  nx : En → Prop
  rt : R → En → Prop
  bk : En → Prop := fun _ => False
  ct : En → Prop := fun _ => False
abbrev QTS := PEnds → En → Prop
structure EndsOk (K : PySem.W.Frag) (G : Gd) (pd : Pds) (D' : PEnds) (D : Ends) : Prop where
  nx : ∀ σ ρ H, RE K G H σ ρ pd → D'.nx ρ → D.nx σ H
  rt : ∀ r v σ ρ H, Res K G H σ ρ pd r v → D'.rt r ρ → D.rt v H
  bk : ∀ σ ρ H, RE K G H σ ρ pd → D'.bk ρ → D.bk σ H
  ct : ∀ σ ρ H, RE K G H σ ρ pd → D'.ct ρ → D.ct σ H
def RzS (K : PySem.W.Frag) (ts : TS) (t : QTS) : Prop := ∀ (G : Gd) (H : Hp) (σ : L2.St) (ρ : En) (pd : Pds) (D' : PEnds) (D : Ends), RE K G H σ ρ pd → t D' ρ → EndsOk K G pd D' D → ts D σ H
structure QS (X : Cx) (st : Stmt) (t : QTS) : Prop where
  ex : ∃ ts, PS X st ts ∧ RzS X.K ts t
structure QSs (X : Cx) (st : List Stmt) (t : QTS) : Prop where
  ex : ∃ ts, PSs X st ts ∧ RzS X.K ts t
theorem EndsOk.more {K : PySem.W.Frag} {G : Gd} {pd pd' : Pds} {D' : PEnds} {D : Ends} (e : EndsOk K G pd D' D) (s : ∀ x ∈ pd, x ∈ pd') : EndsOk K G pd' D' D :=
  ⟨fun σ ρ H R h => e.nx σ ρ H (R.pds s) h, fun r v σ ρ H R h => e.rt r v σ ρ H (R.pds s) h, fun σ ρ H R h => e.bk σ ρ H (R.pds s) h, fun σ ρ H R h => e.ct σ ρ H (R.pds s) h⟩
section
variable {X : Cx} {st : Stmt} {rest a b body : List Stmt} {t u : QTS} {c e tg iter : Expr} {te : QT} {tc : QTT} {g : QTG} {ti : QTI} {sl : List Nat} {pos : Pos}
def qNext (D : PEnds) (ρ : En) : Prop := D.nx ρ
def qSeq (t u : QTS) (D : PEnds) (ρ : En) : Prop := t { nx := u D, rt := D.rt, bk := D.bk, ct := D.ct } ρ
theorem qss_nil : QSs X [] qNext := ⟨_, pss_nil, fun G H σ ρ pd D' D R1 h e => e.nx σ ρ H R1 h⟩
theorem qss_cons (h1 : QS X st t) (h2 : QSs X rest u) : QSs X (st :: rest) (qSeq t u) := by
  obtain ⟨t1, p1, q1⟩ := h1.ex
  obtain ⟨t2, p2, q2⟩ := h2.ex
  refine ⟨_, pss_cons p1 p2, fun G H σ ρ pd D' D R1 h e => ?_⟩
  exact q1 G H σ ρ pd _ _ R1 h ⟨fun σ' ρ' H' R2 g => q2 G H' σ' ρ' pd D' D R2 g e, e.rt, e.bk, e.ct⟩
theorem qss_one (h1 : QS X st t) : QSs X [st] t := by
  obtain ⟨t1, p1, q1⟩ := h1.ex
  exact ⟨_, pss_one p1, q1⟩
theorem qs_pass : QS X (.Pass pos) qNext := ⟨_, ps_pass, fun G H σ ρ pd D' D R1 h e => e.nx σ ρ H R1 h⟩
theorem qs_doc {x : Str} {j : Nat} {pos' : Pos} : QS X (.Expr (.Constant (.str x) j pos) pos') qNext := ⟨_, ps_doc, fun G H σ ρ pd D' D R1 h e => e.nx σ ρ H R1 h⟩
def qBreak (D : PEnds) (ρ : En) : Prop := D.bk ρ
def qCont (D : PEnds) (ρ : En) : Prop := D.ct ρ
theorem qs_break : QS X (.Break pos) qBreak := ⟨_, ps_break, fun G H σ ρ pd D' D R1 h e => e.bk σ ρ H R1 h⟩
theorem qs_continue : QS X (.Continue pos) qCont := ⟨_, ps_continue, fun G H σ ρ pd D' D R1 h e => e.ct σ ρ H R1 h⟩
/-- code that is never come to -/
def qNever (_ : PEnds) (_ : En) : Prop := False
theorem qs_never : QS X st qNever := ⟨_, ps_never, fun G H σ ρ pd D' D R1 h e => h.elim⟩
theorem qss_never : QSs X rest qNever := ⟨_, pss_never, fun G H σ ρ pd D' D R1 h e => h.elim⟩
/-- from here on a slot's own object is a value -/
def frz (ρ : En) (i : Nat) : Option En := match ρ[i]? with
  | some (Sl.own false p) => some (ρ.set i (.val p))
  | _ => none
def qFrz (i : Nat) (t : QTS) (D : PEnds) (ρ : En) : Prop := match frz ρ i with
  | some ρ' => t D ρ'
  | none => False
theorem rz_frz {K : PySem.W.Frag} {ts : TS} {i : Nat} (q : RzS K ts t) : RzS K ts (qFrz i t) := by
  intro G H σ ρ pd D' D R1 h e
  unfold qFrz at h
  cases hf : frz ρ i with
  | none => rw [hf] at h; exact h.elim
  | some ρ' =>
    rw [hf] at h
    unfold frz at hf
    cases es : ρ[i]? with
    | none => rw [es] at hf; cases hf
    | some s =>
      rw [es] at hf
      cases s with
      | own b p =>
        cases b with
        | true => cases hf
        | false => cases hf; exact q G H σ _ pd D' D (R1.freeze es) h e
      | _ => cases hf
theorem qs_frz (i : Nat) (h : QS X st t) : QS X st (qFrz i t) := by
  obtain ⟨t1, p1, q1⟩ := h.ex
  exact ⟨_, p1, rz_frz q1⟩
theorem qss_frz (i : Nat) (h : QSs X rest t) : QSs X rest (qFrz i t) := by
  obtain ⟨t1, p1, q1⟩ := h.ex
  exact ⟨_, p1, rz_frz q1⟩
def qDrop (t : QT) (D : PEnds) (ρ : En) : Prop := t ρ fun _ ρ1 => D.nx ρ1
theorem qs_expr (h : QE X e te) (hs : swapsWith e none pos.line X.env = pure false := by rfl) : QS X (.Expr e pos) (qDrop te) := by
  obtain ⟨t1, p1, q1⟩ := h.ex
  exact ⟨_, ps_expr p1 hs, fun G H σ ρ pd D' D R1 h e => q1 G H σ ρ pd _ _ R1 h fun r ρ' v H' s g => e.nx σ ρ' H' s.re g⟩
def retG (r : R) (ρ : En) (rt : R → En → Prop) : Prop := match r with
  | .sl i => match ρ[i]? with
    | some (Sl.own false p) => rt (.fr p) (ρ.set i Sl.un)
    | _ => False
  | r => rt r ρ
def qRet (t : QT) (D : PEnds) (ρ : En) : Prop := t ρ fun r ρ1 => retG r ρ1 D.rt
theorem qs_ret (h : QE X e te) : QS X (.Return (some e) pos) (qRet te) := by
  obtain ⟨t1, p1, q1⟩ := h.ex
  refine ⟨_, ps_ret p1, fun G H σ ρ pd D' D R1 h e => q1 G H σ ρ pd _ _ R1 h fun r ρ' v H' s g => ?_⟩
  cases r with
  | sl i =>
    unfold retG at g
    simp only at g
    obtain ⟨R2, e1, b, p, e2⟩ := s
    rw [e2] at g
    cases b with
    | true => exact g.elim
    | false =>
      obtain ⟨a, o, e3, n, R3, w⟩ := R2.release e2
      rw [e1] at e3; cases e3
      exact e.rt (.fr p) _ σ _ H' ⟨a, o, rfl, n, R2.exk, R3, w⟩ g
  | pv p => exact e.rt _ v σ ρ' H' s g
  | fr p => exact e.rt _ v σ ρ' H' s g
def qRetN (D : PEnds) (ρ : En) : Prop := D.rt (.pv .non) ρ
theorem qs_retN : QS X (.Return none pos) qRetN := ⟨_, ps_retN, fun G H σ ρ pd D' D R1 h e => e.rt (.pv .non) .non σ ρ H (R1.push rfl) h⟩
def qIf (c : QTT) (t u : QTS) (D : PEnds) (ρ : En) : Prop := c ρ fun b ρ1 => Br b (t D ρ1) (u D ρ1)
theorem qs_if (hc : QC X c tc) (ha : QSs X a t) (hb : QSs X b u) : QS X (.If c a b pos) (qIf tc t u) := by
  obtain ⟨t1, p1, q1⟩ := hc.ex
  obtain ⟨t2, p2, q2⟩ := ha.ex
  obtain ⟨t3, p3, q3⟩ := hb.ex
  refine ⟨_, ps_if p1 p2 p3, fun G H σ ρ pd D' D R1 h e => q1 G H σ ρ pd _ _ R1 h fun b ρ' H' R2 g => ?_⟩
  cases b with
  | true => exact (q2 G H' σ ρ' pd D' D R2 (g.1 rfl) e : _)
  | false => exact (q3 G H' σ ρ' pd D' D R2 (g.2 rfl) e : _)

/-! ### stores -/
def qSet (i : Nat) (t : QT) (D : PEnds) (ρ : En) : Prop := t ρ fun r ρ1 => match r.wk with
  | .pv p => notIo ρ1 i = true ∧ D.nx (ρ1.set i (.val p))
  | _ => False
/-- the slot owns what is new -/
def qOwn (i : Nat) (t : QT) (D : PEnds) (ρ : En) : Prop := t ρ fun r ρ1 => match r with
  | .fr p => notIo ρ1 i = true ∧ i < ρ1.length ∧ D.nx (ρ1.set i (.own false p))
  | _ => False
theorem rz_set {K : PySem.W.Frag} {t : TE} {i : Nat} (q : Rz K t te) : RzS K (tAsg t (gName i)) (qSet i te) := by
  intro G H σ ρ pd D' D R1 h e
  refine q G H σ ρ pd _ _ R1 h fun r ρ' v H' s g => ?_
  have s' := s.wk
  cases er : r.wk with
  | pv p =>
    rw [er] at s' g
    exact e.nx _ _ H' (RE.set s' g.1) g.2
  | sl j => rw [er] at g; exact g.elim
  | fr p => rw [er] at g; exact g.elim
theorem rz_own {K : PySem.W.Frag} {t : TE} {i : Nat} (q : Rz K t te) : RzS K (tAsg t (gName i)) (qOwn i te) := by
  intro G H σ ρ pd D' D R1 h e
  refine q G H σ ρ pd _ _ R1 h fun r ρ' v H' s g => ?_
  cases r with
  | fr p =>
    obtain ⟨a, o, rfl, n, kx, R2, w⟩ := s
    exact e.nx _ _ H' (R2.setOwn g.1 g.2.1 n kx w) g.2.2
  | pv p => exact g.elim
  | sl j => exact g.elim
section
variable {x : Str} {i : Nat} {pos' : Pos}
theorem qs_set (i : Nat) (hN : X.N.Nodup) (he : QE X e te) (hi : X.N[i]? = some x := by rfl) (hx : Loc X.env.scope x := by first | exact Or.inl rfl | exact Or.inr rfl) (hs : swapsWith e (some (.Name x pos')) pos.line X.env = pure false := by rfl) (hf : X.fn x = true ∨ X.env.scope.names.lookup x = some .local := by first | exact .inl rfl | exact .inr rfl) :
    QS X (.Assign [.Name x pos'] e pos) (qSet i te) := by
  obtain ⟨t, p, q⟩ := he.ex
  exact ⟨_, ps_set hN hi hx p hs hf, rz_set q⟩
theorem qs_own (i : Nat) (hN : X.N.Nodup) (he : QE X e te) (hi : X.N[i]? = some x := by rfl) (hx : Loc X.env.scope x := by first | exact Or.inl rfl | exact Or.inr rfl) (hs : swapsWith e (some (.Name x pos')) pos.line X.env = pure false := by rfl) (hf : X.fn x = true ∨ X.env.scope.names.lookup x = some .local := by first | exact .inl rfl | exact .inr rfl) :
    QS X (.Assign [.Name x pos'] e pos) (qOwn i te) := by
  obtain ⟨t, p, q⟩ := he.ex
  exact ⟨_, ps_set hN hi hx p hs hf, rz_own q⟩
end
section
variable {elt tg iter : Expr} {ifs : List Expr} {scope : Scope} {own : List (Str × Nat)} {spos py : Pos} {y : Str} {tt : QTT}
theorem ex_setLc (i : Nat) (hc : X.calm = true) (hN : X.N.Nodup) (hsw : swapsWith (.ListComp elt [⟨tg, iter, ifs, 0⟩] scope pos) (some (.Name y py)) spos.line X.env = pure true) (ok : BlkOk X.N X.env.scope scope own) (hi : QI X tg iter ti) (hg : ∀ c, QG (blkX X scope c) tg sl g) (ht : ∀ c, QCs (blkX X scope c) ifs tt) (he : ∀ c, QE (blkX X scope c) elt te)
    (hs : ∀ i ∈ sl, i ∈ own.map (·.2)) (hy : X.N[i]? = some y) (hyl : X.env.scope.names.lookup y = some .local) (hf : ∀ x, foldedSetIterable iter X.env x = pure x) :
    ∃ t, PS X (.Assign [.Name y py] (.ListComp elt [⟨tg, iter, ifs, 0⟩] scope pos) spos) (tAsg t (gName i)) ∧ Rz X.K t (qLc ti g tt te (own.map (·.2))) := by
  obtain ⟨wi, p1, q1⟩ := hi.ex
  obtain ⟨g1, p2, q2⟩ := QG.all (X := blkX X scope) (K := X.K) (fun _ => rfl) hg
  obtain ⟨t1, p3, q3⟩ := QCs.all (X := blkX X scope) (K := X.K) (fun _ => rfl) ht
  obtain ⟨e1, p4, q4⟩ := QE.all (X := blkX X scope) (K := X.K) (fun _ => rfl) he
  exact ⟨_, ps_setLc hc hN hy hyl hsw p1 ok (fun s H C cl fp => p2 (s, H, C, cl, fp)) (fun s H C cl fp => p3 (s, H, C, cl, fp)) (fun s H C cl fp => p4 (s, H, C, cl, fp)) hf, rz_lc q1 q2 q3 q4 hs⟩
theorem qs_setLc (i : Nat) (hc : X.calm = true) (hN : X.N.Nodup) (hsw : swapsWith (.ListComp elt [⟨tg, iter, ifs, 0⟩] scope pos) (some (.Name y py)) spos.line X.env = pure true) (ok : BlkOk X.N X.env.scope scope own) (hi : QI X tg iter ti) (hg : ∀ c, QG (blkX X scope c) tg sl g) (ht : ∀ c, QCs (blkX X scope c) ifs tt) (he : ∀ c, QE (blkX X scope c) elt te)
    (hs : ∀ i ∈ sl, i ∈ own.map (·.2) := by decide) (hy : X.N[i]? = some y := by rfl) (hyl : X.env.scope.names.lookup y = some .local := by rfl) (hf : ∀ x, foldedSetIterable iter X.env x = pure x := by intro _; rfl) {vs : List Nat} (hv : vs = own.map (·.2) := by rfl) :
    QS X (.Assign [.Name y py] (.ListComp elt [⟨tg, iter, ifs, 0⟩] scope pos) spos) (qSet i (qLc ti g tt te vs)) := by
  subst hv
  obtain ⟨t, p, q⟩ := ex_setLc i hc hN hsw ok hi hg ht he hs hy hyl hf
  exact ⟨_, p, rz_set q⟩
theorem qs_ownLc (i : Nat) (hc : X.calm = true) (hN : X.N.Nodup) (hsw : swapsWith (.ListComp elt [⟨tg, iter, ifs, 0⟩] scope pos) (some (.Name y py)) spos.line X.env = pure true) (ok : BlkOk X.N X.env.scope scope own) (hi : QI X tg iter ti) (hg : ∀ c, QG (blkX X scope c) tg sl g) (ht : ∀ c, QCs (blkX X scope c) ifs tt) (he : ∀ c, QE (blkX X scope c) elt te)
    (hs : ∀ i ∈ sl, i ∈ own.map (·.2) := by decide) (hy : X.N[i]? = some y := by rfl) (hyl : X.env.scope.names.lookup y = some .local := by rfl) (hf : ∀ x, foldedSetIterable iter X.env x = pure x := by intro _; rfl) {vs : List Nat} (hv : vs = own.map (·.2) := by rfl) :
    QS X (.Assign [.Name y py] (.ListComp elt [⟨tg, iter, ifs, 0⟩] scope pos) spos) (qOwn i (qLc ti g tt te vs)) := by
  subst hv
  obtain ⟨t, p, q⟩ := ex_setLc i hc hN hsw ok hi hg ht he hs hy hyl hf
  exact ⟨_, p, rz_own q⟩
end
def qAsg (t : QT) (g : QTG) (D : PEnds) (ρ : En) : Prop := t ρ fun r ρ1 => match r.wk with
  | .pv p => g p ρ1 D.nx
  | _ => False
theorem qs_asg (he : QE X e te) (hg : QG X tg sl g) (hs : swapsWithSole [tg] e pos.line X.env = pure false := by rfl) (hw : swappedStores [tg] e X.env = pure none := by rfl)
    (h1 : (assignEach [tg] X.env).map (·.2) = [assign tg X.env] := by rfl) : QS X (.Assign [tg] e pos) (qAsg te g) := by
  obtain ⟨t, p, q⟩ := he.ex
  obtain ⟨g1, p1, q1⟩ := hg.ex
  refine ⟨_, ps_asg p p1 hs hw h1, fun G H σ ρ pd D' D R1 h e => ?_⟩
  refine q G H σ ρ pd _ _ R1 h fun r ρ' v H' s g => ?_
  have s' := s.wk
  cases er : r.wk with
  | pv p =>
    rw [er] at s' g
    exact q1 G H' σ ρ' pd p v _ _ s' g fun σ2 ρ2 H2 _ _ R2 g2 => e.nx σ2 ρ2 H2 R2 g2
  | sl j => rw [er] at g; exact g.elim
  | fr p => rw [er] at g; exact g.elim

/-! ### loops -/
def forGo (g : QTG) (body : QTS) (D : PEnds) : List PV → En → Prop
  | [], ρ => D.nx ρ
  | p :: ps, ρ => g p ρ fun ρ1 => body { nx := fun ρ2 => forGo g body D ps ρ2, rt := D.rt, bk := D.nx, ct := fun ρ2 => forGo g body D ps ρ2 } ρ1
def qFor (ti : QTI) (g : QTG) (body : QTS) (D : PEnds) (ρ : En) : Prop := ti ρ fun ps ρ1 => forGo g body D ps ρ1
theorem qs_for (hp : PassesOwn (model X.prog X.w) X.A X.env X.xe) (hc : X.calm = true) (hi : QI X tg iter ti) (hg : QG X tg sl g) (hb : QSs X body t)
    (hs : ∀ x, foldedSetIterable iter X.env x = pure x := by intro _; rfl) : QS X (.For tg iter body [] pos) (qFor ti g t) := by
  obtain ⟨wi, p1, q1⟩ := hi.ex
  obtain ⟨g1, p2, q2⟩ := hg.ex
  obtain ⟨t1, p3, q3⟩ := hb.ex
  refine ⟨_, ps_for hp hc p1 p2 p3 hs, fun G H σ ρ pd D' D R1 h e => ?_⟩
  refine q1 G H σ ρ pd _ _ R1 h fun J ps ρ1 pd1 H1 sb R2 wk go => ?_
  let W : Nat → Nat → L2.St → Hp → Prop := fun i m σ H => m = ps.length - i ∧ i ≤ ps.length ∧ ∃ ρ, RE X.K G H σ ρ pd1 ∧ forGo g t D' (ps.drop i) ρ
  refine ⟨W, ⟨ps.length, by simp, Nat.zero_le _, ρ1, R2, go⟩, ?_⟩
  rintro i m σ H ⟨rfl, hi, ρ2, R3, g3⟩
  by_cases lt : i < ps.length
  · have ep : ps[i]? = some ps[i] := List.getElem?_eq_getElem lt
    obtain ⟨jg, jy⟩ := wk.item G H σ ρ2 pd1 i _ (fun _ hx => hx) R3 ep
    refine .inr ⟨jg, fun σ' H' => W (i + 1) (ps.length - (i + 1)) σ' H', fun σ' H' w => ⟨_, by omega, w⟩, fun x H' y => ?_⟩
    rw [List.drop_eq_getElem_cons lt] at g3
    refine q2 G H' σ ρ2 pd1 _ x _ _ (jy x H' y) g3 fun σ3 ρ3 H3 _ _ R4 g4 => ?_
    have e1 := e.more sb
    exact q3 G H3 σ3 ρ3 pd1 _ _ R4 g4 ⟨fun σ ρ H R h => ⟨rfl, lt, ρ, R, h⟩, e1.rt, e1.nx, fun σ ρ H R h => ⟨rfl, lt, ρ, R, h⟩⟩
  · have el : i = ps.length := by omega
    subst el
    rw [List.drop_length] at g3
    exact .inl ⟨wk.stop G H σ ρ2 pd1 _ (fun _ hx => hx) R3 (Nat.le_refl _), (e.more sb).nx σ ρ2 H R3 g3⟩
def qWhile (c : QTT) (body : QTS) (D : PEnds) (ρ : En) : Prop := ∃ I : Nat → En → Prop, (∃ m, I m ρ) ∧ ∀ m ρ, I m ρ →
  c ρ fun b ρ1 => Br b (body { nx := fun ρ' => ∃ m', m' < m ∧ I m' ρ', rt := D.rt, bk := D.nx, ct := fun ρ' => ∃ m', m' < m ∧ I m' ρ' } ρ1) (D.nx ρ1)
theorem qs_while (hp : PassesOwn (model X.prog X.w) X.A X.env X.xe) (hc : QC X c tc) (hb : QSs X body t) : QS X (.While c body [] pos) (qWhile tc t) := by
  obtain ⟨t1, p1, q1⟩ := hc.ex
  obtain ⟨t2, p2, q2⟩ := hb.ex
  refine ⟨_, ps_while hp p1 p2, fun G H σ ρ pd D' D R1 h e => ?_⟩
  obtain ⟨I, ⟨m0, i0⟩, turn⟩ := h
  refine ⟨fun m σ H => ∃ ρ, RE X.K G H σ ρ pd ∧ I m ρ, ⟨m0, ρ, R1, i0⟩, ?_⟩
  rintro m σ H ⟨ρ2, R2, i2⟩
  refine q1 G H σ ρ2 pd _ _ R2 (turn m ρ2 i2) fun b ρ3 H3 R3 g => ?_
  cases b with
  | true =>
    refine ⟨fun σ' H' => ∃ m', m' < m ∧ ∃ ρ, RE X.K G H' σ' ρ pd ∧ I m' ρ, fun σ' H' h => h, ?_⟩
    exact q2 G H3 σ ρ3 pd _ _ R3 (g.1 rfl) ⟨fun σ ρ H R ⟨m', l, i⟩ => ⟨m', l, ρ, R, i⟩, e.rt, e.nx, fun σ ρ H R ⟨m', l, i⟩ => ⟨m', l, ρ, R, i⟩⟩
  | false => exact e.nx σ ρ3 H3 R3 (g.2 rfl)

/-! ### what a slot owns, changed -/
abbrev GM := PV → List PV → (PV → PV → Prop) → Prop
def RealM (K : PySem.W.Frag) (T : String) (r : V → List V → Hp → VK → Prop) (f : GM) : Prop := ∀ (H : Hp) (W : Addr → Prop) (p : PV) (a : Addr) (o : HO) (ps : List PV) (xs : List V) (Q : PV → PV → Prop) (F : VK), MutT H W → W a → H a = some o → OwnO K H W p o → Iss K H W ps xs → f p ps Q →
  (∀ v o' z p', OwnO K H W p' o' → Is K H W z v → Q z p' → F v (upd H a o')) → r (.ref a) xs H F
def MtP (X : Cx) (T : String) (id : String) (f : GM) : Prop := ∃ r, MtR X id r ∧ RealM X.K T r f
/-- what type a slot's own object has -/
def ownTy (T : String) (ρ : En) (i : Nat) : Prop := match ρ[i]? with
  | some (Sl.own _ (.lst _)) => T = "list"
  | some (Sl.own _ (.dic _ _)) => T = "dict"
  | _ => False
def qMut (T : String) (i : Nat) (f : GM) (ta : QTA) (ρ : En) (Q : PK1) : Prop := ownTy T ρ i ∧ ta ρ fun rs ρ1 => match vals rs, ρ1[i]? with
  | some ps, some (Sl.own b p) => f p ps fun z p' => Q (.pv z) (ρ1.set i (.own b p'))
  | _, _ => False
theorem ty_own {K : PySem.W.Frag} {G : Gd} {H : Hp} {σ : L2.St} {ρ : En} {pd : Pds} {T : String} {i : Nat} {a : Addr} (R1 : RE K G H σ ρ pd) (h : ownTy T ρ i) (e : σ[i]? = some (some (V.ref a))) : tyV K T (.ref a) H := by
  unfold ownTy at h
  cases es : ρ[i]? with
  | none => rw [es] at h; exact h.elim
  | some s =>
    rw [es] at h
    cases s with
    | own b p =>
      obtain ⟨c, e1, _, o, e2, w⟩ := R1.own i b p es
      rw [e] at e1; cases e1
      cases p with
      | lst ps =>
        cases o with
        | lst vs => exact .inl ⟨h, vs, .inl (.inl e2)⟩
        | _ => exact w.elim
      | dic ks ps =>
        cases o with
        | dK kvs => exact .inr (.inr (.inl ⟨h, .inl ⟨kvs, e2⟩⟩))
        | _ => exact w.elim
      | _ => exact h.elim
    | _ => exact h.elim
theorem own_at {ρ : En} {T : String} {i : Nat} (h : ownTy T ρ i) : ∃ b p, ρ[i]? = some (Sl.own b p) := by
  unfold ownTy at h
  cases es : ρ[i]? with
  | none => rw [es] at h; exact h.elim
  | some s =>
    rw [es] at h
    cases s with
    | own b p => exact ⟨b, p, rfl⟩
    | _ => exact h.elim
theorem rz_mut {K : PySem.W.Frag} {T : String} {i : Nat} {r : V → List V → Hp → VK → Prop} {f : GM} (hr : RealM K T r f) {G : Gd} {H H1 : Hp} {σ : L2.St} {ρ ρ1 : En} {pd pd1 : Pds} {rs : List R} {vs : List V} {a : Addr} {Q : PK1} {F : VK} (sb : ∀ x ∈ pd, x ∈ pd1) (e : σ[i]? = some (some (V.ref a)))
    (R2 : RE K G H1 σ ρ1 pd1) (ar : ArgsR σ pd1 rs vs) (g : match vals rs, ρ1[i]? with
      | some ps, some (Sl.own b p) => f p ps fun z p' => Q (.pv z) (ρ1.set i (.own b p'))
      | _, _ => False) (ff : ∀ r ρ' v H', Res K G H' σ ρ' pd r v → Q r ρ' → F v H') : r (.ref a) vs H1 F := by
  cases ev : vals rs with
  | none => rw [ev] at g; exact g.elim
  | some ps =>
    cases es : ρ1[i]? with
    | none => rw [ev, es] at g; exact g.elim
    | some s =>
      rw [ev, es] at g
      cases s with
      | un => exact g.elim
      | val p => exact g.elim
      | own b p =>
        obtain ⟨c, e1, k, o, e2, w⟩ := R2.own i b p es
        rw [e] at e1; cases e1
        have Wa : WS G σ ρ1 a := .inr ⟨i, b, p, es, e⟩
        refine hr H1 _ p a o ps vs _ F R2.mut Wa e2 w (vals_iss R2 ar ev) g fun v o' z p' w' hz hq => ?_
        exact ff (.pv z) _ v _ (((R2.push hz).mutate es e w').pds fun x hx => by
          rcases List.mem_cons.mp hx with e | hx
          · rw [e]; exact List.mem_cons_self
          · exact List.mem_cons_of_mem _ (sb x hx)) hq
section
variable {T id name : String} {x : Str} {ar : Expr} {es : List Expr} {ta : QTA} {f : GM} {apos npos cpos : Pos}
theorem qe_mut {nm : Str} (i : Nat) (hm : MtP X T id f) (pa : PlainAttrs T) (slot : Slot T nm id) (hty : typeOf (.builtin id) = pure (.type "method_descriptor")) (ha : QA X (ar :: es) ta) (hN : X.N[i]? = some x := by rfl) (hv : Vis X.env.scope x := by first | exact Or.inl rfl | exact Or.inr (Or.inl rfl) | exact Or.inr (Or.inr rfl)) (hd : (x == ("__debug__" : Str)) = false := by decide)
    (hcd : (x == ("__classdict__" : Str)) = false := by decide)
    (hbase : attributeBase (.Name x npos) nm X.env (eval (.Name x npos) X.env) = eval (.Name x npos) X.env := by rfl)
    (hfew : ((backTo cpos (starEach (ar :: es) X.env)).all (fun x => !x.1) && (backToKw cpos (keywordEach [] X.env)).all (fun x => x.1.isSome)
      && decide ((ar :: es).length + ([] : List Keyword).length + (if ([] : List Keyword).isEmpty then 0 else 1) < 30)) = true := by rfl)
    (hline : (apos.endLine == cpos.line) = true := by rfl) (hs : starEach (ar :: es) X.env = (false, eval ar X.env) :: starEach es X.env := by rfl) (hplain : (backTo cpos (starEach es X.env)).any (·.1) = false := by rfl) :
    QE X (.Call (.Attribute (.Name x npos) nm apos) (ar :: es) [] cpos) (qMut T i f ta) := by
  obtain ⟨r, h1, h2⟩ := hm
  obtain ⟨t, p, q⟩ := ha.ex
  refine ⟨_, pe_bm pa slot hty h1 (pe_var hN hv hd hcd) p hbase hfew hline hs hplain, fun G H σ ρ pd Q F R1 h ff => ?_⟩
  obtain ⟨b, p0, e0⟩ := own_at h.1
  obtain ⟨a, e, _⟩ := R1.own i b p0 e0
  refine ⟨.ref a, e, ty_own R1 h.1 e, ?_⟩
  exact q G H σ ρ pd _ _ R1 h.2 fun rs ρ1 pd1 vs H1 sb R2 ar g => rz_mut h2 (H := H) (ρ := ρ) sb e R2 ar g ff
theorem qe_mut0 {nm : Str} (i : Nat) (hm : MtP X T id f) (pa : PlainAttrs T) (slot : Slot T nm id) (hty : typeOf (.builtin id) = pure (.type "method_descriptor")) (hN : X.N[i]? = some x := by rfl) (hv : Vis X.env.scope x := by first | exact Or.inl rfl | exact Or.inr (Or.inl rfl) | exact Or.inr (Or.inr rfl)) (hd : (x == ("__debug__" : Str)) = false := by decide)
    (hcd : (x == ("__classdict__" : Str)) = false := by decide)
    (hbase : attributeBase (.Name x npos) nm X.env (eval (.Name x npos) X.env) = eval (.Name x npos) X.env := by rfl) (hline : (apos.endLine == cpos.line) = true := by rfl) :
    QE X (.Call (.Attribute (.Name x npos) nm apos) [] [] cpos) (qMut T i f qNil) := by
  obtain ⟨r, h1, h2⟩ := hm
  refine ⟨_, pe_bm0 pa slot hty h1 (pe_var hN hv hd hcd) hbase hline, fun G H σ ρ pd Q F R1 h ff => ?_⟩
  obtain ⟨b, p0, e0⟩ := own_at h.1
  obtain ⟨a, e, _⟩ := R1.own i b p0 e0
  refine ⟨.ref a, e, ty_own R1 h.1 e, ?_⟩
  exact rz_mut h2 (H := H) (ρ := ρ) (fun _ hx => hx) e R1 .nil h.2 ff
end
def gAppend (p : PV) (ps : List PV) (Q : PV → PV → Prop) : Prop := match p, ps with
  | .lst xs, [q] => small (xs.length + 1) ∧ Q .non (.lst (xs ++ [q]))
  | _, _ => False
theorem gAppend_inv {p : PV} {ps : List PV} {Q : PV → PV → Prop} (g : gAppend p ps Q) : ∃ xs q, p = .lst xs ∧ ps = [q] ∧ small (xs.length + 1) ∧ Q .non (.lst (xs ++ [q])) := by
  unfold gAppend at g
  split at g
  · exact ⟨_, _, rfl, rfl, g⟩
  · exact g.elim
theorem OwnO.lst {K : PySem.W.Frag} {H : Hp} {W : Addr → Prop} {ps : List PV} {o : HO} (w : OwnO K H W (.lst ps) o) : ∃ vs, o = .lst vs ∧ Iss K H W ps vs := by
  cases o with
  | lst vs => exact ⟨vs, rfl, w⟩
  | _ => exact w.elim
theorem Iss.one {K : PySem.W.Frag} {H : Hp} {W : Addr → Prop} {p : PV} {xs : List V} (i : Iss K H W [p] xs) : ∃ v, xs = [v] ∧ Is K H W p v := by
  obtain ⟨v, r, rfl, h1, h2⟩ := i
  cases (show r = [] from h2)
  exact ⟨v, rfl, h1⟩
theorem m_append : MtP X "list" "list.append" gAppend := by
  refine ⟨_, mt_append, fun H W p a o ps xs Q F m wa e w i g f => ?_⟩
  obtain ⟨qs, q, rfl, rfl, sm, g⟩ := gAppend_inv g
  obtain ⟨vs, rfl, w⟩ := w.lst
  obtain ⟨v, rfl, h1⟩ := i.one
  exact ⟨a, vs, v, rfl, rfl, e, by have z := small_lt sm; rw [w.length] at z; exact z, f .non (.lst (vs ++ [v])) .non (.lst (qs ++ [q])) (Iss.append w (Iss.cons h1 Iss.nil)) rfl g⟩
def gExtend (p : PV) (ps : List PV) (Q : PV → PV → Prop) : Prop := match p, ps with
  | .lst xs, [.lst ys] => small (xs.length + ys.length) ∧ Q .non (.lst (xs ++ ys))
  | .lst xs, [.tup ys] => small (xs.length + ys.length) ∧ Q .non (.lst (xs ++ ys))
  | _, _ => False
theorem MtR.or' {id : String} {r r' : V → List V → Hp → VK → Prop} (h : MtR X id r) (h' : MtR X id r') : MtR X id (fun x xs H Q => r x xs H Q ∨ r' x xs H Q) := MtR.or h h'
theorem gExtend_inv {p : PV} {ps : List PV} {Q : PV → PV → Prop} (g : gExtend p ps Q) : ∃ xs ys, p = .lst xs ∧ (ps = [.lst ys] ∨ ps = [.tup ys]) ∧ small (xs.length + ys.length) ∧ Q .non (.lst (xs ++ ys)) := by
  unfold gExtend at g
  split at g
  · exact ⟨_, _, rfl, .inl rfl, g⟩
  · exact ⟨_, _, rfl, .inr rfl, g⟩
  · exact g.elim
theorem m_extend : MtP X "list" "list.extend" gExtend := by
  refine ⟨_, MtR.or' mt_extend mt_extT, fun H W p a o ps xs Q F m wa e w i g f => ?_⟩
  obtain ⟨qs, ys, rfl, hp, sm, g'⟩ := gExtend_inv g
  obtain ⟨vs, rfl, w⟩ := w.lst
  rcases hp with rfl | rfl
  · obtain ⟨v, rfl, h1⟩ := i.one
    obtain ⟨b, us, rfl, n, hb, hu⟩ : ∃ b us, v = .ref b ∧ ¬ W b ∧ H b = some (.lst us) ∧ Iss X.K H W ys us := h1
    exact .inl ⟨a, b, vs, us, rfl, rfl, e, hb, by have z := small_le sm; rw [w.length, hu.length] at z; exact z, f .non (.lst (vs ++ us)) .non (.lst (qs ++ ys)) (Iss.append w hu) rfl g'⟩
  · obtain ⟨v, rfl, h1⟩ := i.one
    obtain ⟨b, us, rfl, hb, hu⟩ : ∃ b us, v = .ref b ∧ H b = some (.tup us) ∧ Iss X.K H W ys us := h1
    exact .inr ⟨a, b, vs, us, rfl, rfl, e, .inl (.inl hb), by have z := small_le sm; rw [w.length, hu.length] at z; exact z, f .non (.lst (vs ++ us)) .non (.lst (qs ++ ys)) (Iss.append w hu) rfl g'⟩
def gPop (p : PV) (ps : List PV) (Q : PV → PV → Prop) : Prop := match p, ps with
  | .lst xs, [] => match xs.getLast? with
    | some q => Q q (.lst xs.dropLast)
    | none => False
  | _, _ => False
theorem Iss.dropLast {K : PySem.W.Frag} {H : Hp} {W : Addr → Prop} {ps : List PV} {vs : List V} (h : Iss K H W ps vs) : Iss K H W ps.dropLast vs.dropLast := by
  rw [List.dropLast_eq_take, List.dropLast_eq_take, h.length]
  exact h.take _
theorem gPop_inv {p : PV} {ps : List PV} {Q : PV → PV → Prop} (g : gPop p ps Q) : ∃ xs q, p = .lst xs ∧ ps = [] ∧ xs.getLast? = some q ∧ Q q (.lst xs.dropLast) := by
  unfold gPop at g
  split at g
  · split at g
    · rename_i h; exact ⟨_, _, rfl, rfl, h, g⟩
    · exact g.elim
  · exact g.elim
theorem m_pop : MtP X "list" "list.pop" gPop := by
  refine ⟨_, mt_pop, fun H W p a o ps xs Q F m wa e w i g f => ?_⟩
  obtain ⟨qs, q, rfl, rfl, eq, g⟩ := gPop_inv g
  obtain ⟨vs, rfl, w⟩ := w.lst
  cases (show xs = [] from i)
  rw [List.getLast?_eq_getElem?] at eq
  obtain ⟨v, hv, hi⟩ := w.getP eq
  exact ⟨a, vs, v, rfl, rfl, e, by rw [← w.length]; exact hv, f v (.lst vs.dropLast) q (.lst qs.dropLast) (Iss.dropLast w) hi g⟩
def isOwn (ρ : En) (i : Nat) : Prop := match ρ[i]? with
  | some (Sl.own _ _) => True
  | _ => False
theorem isOwn.ex {ρ : En} {i : Nat} (h : isOwn ρ i) : ∃ b p, ρ[i]? = some (Sl.own b p) := by
  unfold isOwn at h
  cases es : ρ[i]? with
  | none => rw [es] at h; exact h.elim
  | some s =>
    rw [es] at h
    cases s with
    | own b p => exact ⟨b, p, rfl⟩
    | _ => exact h.elim
/-- xs[k] = e, xs a slot's own list -/
def qSetIx (i : Nat) (t ti : QT) (D : PEnds) (ρ : En) : Prop := t ρ fun r ρ1 => match r.wk with
  | .pv q => isOwn ρ1 i ∧ ti ρ1 fun r2 ρ2 => match r2, ρ2[i]? with
    | .pv (.int k), some (Sl.own b (.lst ps)) => match ixN ps.length k with
      | some j => D.nx (ρ2.set i (.own b (.lst (ps.set j q))))
      | none => False
    | _, _ => False
  | _ => False
theorem qs_setIx {x : Str} {ix : Expr} {tix : QT} {npos spos' : Pos} (i : Nat) (he : QE X e te) (hi : QE X ix tix) (hN : X.N[i]? = some x := by rfl) (hv : Vis X.env.scope x := by first | exact Or.inl rfl | exact Or.inr (Or.inl rfl) | exact Or.inr (Or.inr rfl)) (hd : (x == ("__debug__" : Str)) = false := by decide)
    (hcd : (x == ("__classdict__" : Str)) = false := by decide)
    (ha : ∀ v, assign (.Subscript (.Name x npos) ix spos') X.env v = (do
      let ov ← holding [v] (eval (.Name x npos) X.env)
      let iv ← holding [v, ov] (eval ix X.env)
      standAt spos'
      holding [v, ov, iv] (setItem ov iv v)
      release [v, ov, iv] []) := by intro _; rfl)
    (hs : swapsWithSole [.Subscript (.Name x npos) ix spos'] e pos.line X.env = pure false := by rfl) (hw : swappedStores [.Subscript (.Name x npos) ix spos'] e X.env = pure none := by rfl)
    (h1 : (assignEach [.Subscript (.Name x npos) ix spos'] X.env).map (·.2) = [assign (.Subscript (.Name x npos) ix spos') X.env] := by rfl) :
    QS X (.Assign [.Subscript (.Name x npos) ix spos'] e pos) (qSetIx i te tix) := by
  obtain ⟨t, p, q⟩ := he.ex
  obtain ⟨t2, p2, q2⟩ := hi.ex
  refine ⟨_, ps_asg p (pg_sub (pe_var hN hv hd hcd) p2 set_list ha) hs hw h1, fun G H σ ρ pd D' D R1 h ee => ?_⟩
  refine q G H σ ρ pd _ _ R1 h fun r ρ1 v H1 s g => ?_
  have s' := s.wk
  cases er : r.wk with
  | sl j => rw [er] at g; exact g.elim
  | fr p => rw [er] at g; exact g.elim
  | pv qv =>
    rw [er] at s' g
    have R2 : RE X.K G H1 σ ρ1 ((qv, v) :: pd) := s'
    obtain ⟨ho, g⟩ := g
    obtain ⟨b0, p0, e0⟩ := ho.ex
    obtain ⟨a, ea, _⟩ := R2.own i b0 p0 e0
    refine ⟨.ref a, ea, ?_⟩
    refine q2 G H1 σ ρ1 _ _ _ R2 g fun r2 ρ2 kv H2 s2 g2 => ?_
    cases r2 with
    | pv kp =>
      cases kp with
      | int k =>
        have R3 : RE X.K G H2 σ ρ2 ((.int k, kv) :: (qv, v) :: pd) := s2
        have ek : kv = .int k := R3.pd (.int k, kv) List.mem_cons_self
        subst ek
        cases es : ρ2[i]? with
        | none => rw [es] at g2; exact g2.elim
        | some sv =>
          rw [es] at g2
          cases sv with
          | un => exact g2.elim
          | val p => exact g2.elim
          | own b pp =>
            cases pp with
            | lst ps =>
              obtain ⟨c, ec, k0, o, Hc, w⟩ := R3.own i b _ es
              rw [ea] at ec; cases ec
              cases o with
              | lst vs =>
                have w' : Iss X.K H2 (WS G σ ρ2) ps vs := w
                have g3 : match ixN ps.length k with
                  | some j => D'.nx (ρ2.set i (.own b (.lst (ps.set j qv))))
                  | none => False := g2
                cases ej : ixN ps.length k with
                | none => rw [ej] at g3; exact g3.elim
                | some j =>
                  rw [ej] at g3
                  refine ⟨a, vs, k, j, rfl, rfl, Hc, by rw [← w'.length]; exact ej, ?_⟩
                  have hv : Is X.K H2 (WS G σ ρ2) qv v := R3.pd (qv, v) (List.mem_cons_of_mem _ List.mem_cons_self)
                  exact ee.nx _ _ _ ((R3.tl.tl).mutate es ea (o' := .lst (vs.set j v)) (p' := .lst (ps.set j qv)) (Iss.set hv j w')) g3
              | _ => exact w.elim
            | _ => exact g2.elim
      | _ => exact g2.elim
    | _ => exact g2.elim
end
end Px
namespace Px
open PySem L2 PyProof.Rows

/-! ### what a def is promised to do. io: which parameters the caller owns and the def may change; fr: the answer is a new object -/
structure FS where
  io : List Bool
  fr : Bool := false
  pre : List PV → Prop
  post : List PV → PV → List PV → Prop
def mk (io : List Bool) (ps : List PV) : En := List.zipWith (fun b p => if b = true then Sl.own true p else Sl.val p) io ps
def outsOf : List Bool → En → List PV
  | true :: fs, .own _ p :: ρ => p :: outsOf fs ρ
  | true :: fs, _ :: ρ => .non :: outsOf fs ρ
  | false :: fs, _ :: ρ => outsOf fs ρ
  | true :: fs, [] => .non :: outsOf fs []
  | false :: fs, [] => outsOf fs []
  | [], _ => []
/-- the outs by parameter -/
def sel : List Bool → List PV → List (Option PV)
  | true :: fs, q :: qs => some q :: sel fs qs
  | true :: fs, [] => none :: sel fs []
  | false :: fs, qs => none :: sel fs qs
  | [], _ => []
def Iob (io : List Bool) (vs : List V) (b : Addr) : Prop := ∃ i : Nat, io[i]? = some true ∧ vs[i]? = some (V.ref b)
open Classical in
noncomputable def G0 (H : Hp) (io : List Bool) (vs : List V) (ex : Addr → Prop) : Gd := ⟨fun b => if Iob io vs b then none else H b, ex, fun i a => io[i]? = some true ∧ vs[i]? = some (V.ref a)⟩
theorem G0_no {H : Hp} {io : List Bool} {vs : List V} {ex : Addr → Prop} {b : Addr} (h : Iob io vs b) : (G0 H io vs ex).keep b = none := if_pos h
theorem G0_yes {H : Hp} {io : List Bool} {vs : List V} {ex : Addr → Prop} {b : Addr} (h : ¬ Iob io vs b) : (G0 H io vs ex).keep b = H b := if_neg h
theorem G0_of {H : Hp} {io : List Bool} {vs : List V} {ex : Addr → Prop} {b : Addr} {o : HO} (e : (G0 H io vs ex).keep b = some o) : ¬ Iob io vs b ∧ H b = some o := by
  have n : ¬ Iob io vs b := fun z => by rw [G0_no z] at e; cases e
  rw [G0_yes n] at e
  exact ⟨n, e⟩
/-- what the caller may count on, behind the call -/
structure Fin (K : PySem.W.Frag) (S : FS) (H : Hp) (ex : Addr → Prop) (vs : List V) (v : V) (H' : Hp) (r : PV) (outs : List PV) : Prop where
  keep : ∀ b o, H b = some o → ¬ Iob S.io vs b → H' b = some o
  outs : ∀ (i : Nat) (q : PV) (a : Addr), (sel S.io outs)[i]? = some (some q) → vs[i]? = some (V.ref a) → Own K H' (fun b => ex b ∨ Iob S.io vs b ∨ (S.fr = true ∧ v = .ref b)) q a
  res : S.fr = false → Is K H' (fun b => ex b ∨ Iob S.io vs b) r v
  new : S.fr = true → ∃ a o, v = .ref a ∧ H a = none ∧ H' a = some o ∧ OwnO K H' (fun b => ex b ∨ Iob S.io vs b ∨ (S.fr = true ∧ v = .ref b)) r o
def spP (K : PySem.W.Frag) (S : FS) : Sp := fun vs H Q _ => ∃ (ps : List PV) (ex : Addr → Prop), ps.length = S.io.length ∧ vs.length = S.io.length ∧ RE K (G0 H S.io vs ex) H (vs.map some) (mk S.io ps) [] ∧ S.pre ps ∧
  ∀ v H' r outs, S.post ps r outs → outs.length = (S.io.filter id).length → Fin K S H ex vs v H' r outs → Q v H'

/-! ### a call -/
def splitArgs (ρ : En) : List Bool → List R → Option (List PV × List Nat)
  | [], [] => some ([], [])
  | false :: fs, .pv p :: rs => match splitArgs ρ fs rs with
    | some (ps, js) => some (p :: ps, js)
    | none => none
  | true :: fs, .sl j :: rs => match ρ[j]?, splitArgs ρ fs rs with
    | some (Sl.own _ p), some (ps, js) => some (p :: ps, j :: js)
    | _, _ => none
  | _, _ => none
def setOwn (ρ : En) (j : Nat) (q : PV) : En := match ρ[j]? with
  | some (Sl.own b _) => ρ.set j (Sl.own b q)
  | _ => ρ
def putOuts : List Nat → List PV → En → En
  | j :: js, q :: qs, ρ => putOuts js qs (setOwn ρ j q)
  | _, _, ρ => ρ
def callR (S : FS) (rs : List R) (ρ1 : En) (Q : PK1) (_ : Dum Q) : Prop := match splitArgs ρ1 S.io rs with
  | some (ps, js) => js.Nodup ∧ S.pre ps ∧ ∀ r outs, S.post ps r outs → outs.length = js.length → Q (if S.fr = true then .fr r else .pv r) (putOuts js outs ρ1)
  | none => False
def qCall (S : FS) (ta : QTA) (ρ : En) (Q : PK1) : Prop := ta ρ fun rs ρ1 => callR S rs ρ1 Q .mk
theorem putOuts_spec : ∀ {js : List Nat} {qs : List PV} {ρ : En}, js.Nodup → qs.length = js.length → (∀ j ∈ js, ∃ b p, ρ[j]? = some (Sl.own b p)) →
    (putOuts js qs ρ).length = ρ.length ∧ (∀ i : Nat, i ∉ js → (putOuts js qs ρ)[i]? = ρ[i]?) ∧ ∀ (k j : Nat) (q : PV), js[k]? = some j → qs[k]? = some q → ∃ b p, ρ[j]? = some (Sl.own b p) ∧ (putOuts js qs ρ)[j]? = some (Sl.own b q)
  | [], qs, ρ, _, l, _ => by
    cases qs with
    | nil => exact ⟨rfl, fun _ _ => rfl, fun k j q e => by simp at e⟩
    | cons _ _ => simp at l
  | j :: js, [], ρ, _, l, _ => by simp at l
  | j :: js, q :: qs, ρ, nd, l, o => by
    obtain ⟨b, p, e⟩ := o j List.mem_cons_self
    have nj : j ∉ js := (List.nodup_cons.mp nd).1
    have es : setOwn ρ j q = ρ.set j (Sl.own b q) := by unfold setOwn; rw [e]
    have lj : j < ρ.length := (List.getElem?_eq_some_iff.mp e).1
    have ih := putOuts_spec (js := js) (qs := qs) (ρ := ρ.set j (Sl.own b q)) (List.nodup_cons.mp nd).2 (by simpa using l) (fun i hi => by
      have ne : j ≠ i := fun z => nj (by rw [z]; exact hi)
      rw [ix_ne ne]
      exact o i (List.mem_cons_of_mem _ hi))
    unfold putOuts
    rw [es]
    refine ⟨by rw [ih.1, List.length_set], fun i hi => ?_, fun k m q' e1 e2 => ?_⟩
    · rw [ih.2.1 i fun z => hi (List.mem_cons_of_mem _ z)]
      exact ix_ne fun z => hi (by rw [z]; exact List.mem_cons_self)
    · cases k with
      | zero =>
        cases e1
        cases e2
        exact ⟨b, p, e, by rw [ih.2.1 _ nj, List.getElem?_set_self lj]⟩
      | succ k =>
        obtain ⟨b', p', h1, h2⟩ := ih.2.2 k m q' (by simpa using e1) (by simpa using e2)
        have ne : j ≠ m := fun z => nj (by rw [z]; exact List.mem_of_getElem? (i := k) (by simpa using e1))
        rw [ix_ne ne] at h1
        exact ⟨b', p', h1, h2⟩
/-- the arguments, one by one: a value, or the j-th slot that the caller owns -/
inductive Spl (σ : L2.St) (ρ : En) (pd : Pds) : List Bool → List V → List PV → List Nat → Prop where
  | nil : Spl σ ρ pd [] [] [] []
  | val {fs : List Bool} {v : V} {vs : List V} {p : PV} {ps : List PV} {js : List Nat} (h : (p, v) ∈ pd) (t : Spl σ ρ pd fs vs ps js) : Spl σ ρ pd (false :: fs) (v :: vs) (p :: ps) js
  | own {fs : List Bool} {v : V} {vs : List V} {p : PV} {ps : List PV} {j : Nat} {js : List Nat} {b : Bool} (e : ρ[j]? = some (Sl.own b p)) (h : σ[j]? = some (some v)) (t : Spl σ ρ pd fs vs ps js) : Spl σ ρ pd (true :: fs) (v :: vs) (p :: ps) (j :: js)
theorem spl_of {σ : L2.St} {ρ : En} {pd : Pds} : ∀ {fs : List Bool} {rs : List R} {vs : List V} {ps : List PV} {js : List Nat}, ArgsR σ pd rs vs → splitArgs ρ fs rs = some (ps, js) → Spl σ ρ pd fs vs ps js
  | [], [], _, _, _, a, e => by cases a; cases e; exact .nil
  | [], _ :: _, _, _, _, a, e => by simp [splitArgs] at e
  | false :: fs, [], _, _, _, a, e => by simp [splitArgs] at e
  | true :: fs, [], _, _, _, a, e => by simp [splitArgs] at e
  | false :: fs, r :: rs, _, _, _, a, e => by
    cases r with
    | pv p =>
      cases a with
      | cons h t =>
        unfold splitArgs at e
        cases e1 : splitArgs ρ fs rs with
        | none => rw [e1] at e; cases e
        | some x => rw [e1] at e; cases e; exact .val h (spl_of t e1)
    | _ => simp [splitArgs] at e
  | true :: fs, r :: rs, _, _, _, a, e => by
    cases r with
    | sl j =>
      cases a with
      | cons h t =>
        unfold splitArgs at e
        cases e2 : ρ[j]? with
        | none => rw [e2] at e; simp at e
        | some s =>
          rw [e2] at e
          cases s with
          | own b p =>
            cases e1 : splitArgs ρ fs rs with
            | none => rw [e1] at e; simp at e
            | some x => rw [e1] at e; cases e; exact .own e2 h (spl_of t e1)
          | _ => simp at e
    | _ => simp [splitArgs] at e
theorem Spl.len {σ : L2.St} {ρ : En} {pd : Pds} {fs : List Bool} {vs : List V} {ps : List PV} {js : List Nat} (s : Spl σ ρ pd fs vs ps js) : vs.length = fs.length ∧ ps.length = fs.length ∧ js.length = (fs.filter id).length := by
  induction s with
  | nil => exact ⟨rfl, rfl, rfl⟩
  | val _ _ ih => exact ⟨by simp [ih.1], by simp [ih.2.1], by simp [ih.2.2]⟩
  | own _ _ _ ih => exact ⟨by simp [ih.1], by simp [ih.2.1], by simp [ih.2.2]⟩
theorem Spl.get {σ : L2.St} {ρ : En} {pd : Pds} {fs : List Bool} {vs : List V} {ps : List PV} {js : List Nat} (s : Spl σ ρ pd fs vs ps js) : ∀ {i : Nat} {b : Bool} {p : PV}, fs[i]? = some b → ps[i]? = some p → ∃ v, vs[i]? = some v ∧
    (b = false → (p, v) ∈ pd) ∧ (b = true → ∃ (j : Nat) (c : Bool), j ∈ js ∧ ρ[j]? = some (Sl.own c p) ∧ σ[j]? = some (some v)) := by
  induction s with
  | nil => intro i b p e; simp at e
  | val h t ih =>
    intro i b p e1 e2
    cases i with
    | zero => cases e1; cases e2; exact ⟨_, rfl, fun _ => h, (fun z => nomatch z)⟩
    | succ i => simpa using ih (i := i) (by simpa using e1) (by simpa using e2)
  | own e h t ih =>
    intro i b p e1 e2
    cases i with
    | zero => cases e1; cases e2; exact ⟨_, rfl, (fun z => nomatch z), fun _ => ⟨_, _, List.mem_cons_self, e, h⟩⟩
    | succ i =>
      obtain ⟨v, h1, h2, h3⟩ := ih (i := i) (by simpa using e1) (by simpa using e2)
      exact ⟨v, by simpa using h1, h2, fun z => let ⟨j, c, m, r⟩ := h3 z; ⟨j, c, List.mem_cons_of_mem _ m, r⟩⟩
/-- the k-th owned slot and its parameter -/
theorem Spl.io {σ : L2.St} {ρ : En} {pd : Pds} {fs : List Bool} {vs : List V} {ps : List PV} {js : List Nat} (s : Spl σ ρ pd fs vs ps js) : ∀ {outs : List PV} {k j : Nat} {q : PV}, js[k]? = some j → outs[k]? = some q → ∃ (i : Nat) (v : V), fs[i]? = some true ∧ vs[i]? = some v ∧ σ[j]? = some (some v) ∧ (sel fs outs)[i]? = some (some q) := by
  induction s with
  | nil => intro outs k j q e; simp at e
  | val h t ih =>
    intro outs k j q e1 e2
    obtain ⟨i, v, h1, h2, h3, h4⟩ := ih e1 e2
    exact ⟨i + 1, v, by simpa using h1, by simpa using h2, h3, by simpa [sel] using h4⟩
  | own e h t ih =>
    intro outs k j q e1 e2
    cases outs with
    | nil => simp at e2
    | cons o outs =>
      cases k with
      | zero => cases e1; cases e2; exact ⟨0, _, rfl, rfl, h, rfl⟩
      | succ k =>
        obtain ⟨i, v, h1, h2, h3, h4⟩ := ih (outs := outs) (k := k) (by simpa using e1) (by simpa using e2)
        exact ⟨i + 1, v, by simpa using h1, by simpa using h2, h3, by simpa [sel] using h4⟩
theorem Spl.js {σ : L2.St} {ρ : En} {pd : Pds} {fs : List Bool} {vs : List V} {ps : List PV} {js : List Nat} (s : Spl σ ρ pd fs vs ps js) : ∀ j ∈ js, ∃ b p, ρ[j]? = some (Sl.own b p) := by
  induction s with
  | nil => intro j hj; simp at hj
  | val _ _ ih => exact ih
  | own e _ _ ih =>
    intro j hj
    rcases List.mem_cons.mp hj with rfl | hj
    · exact ⟨_, _, e⟩
    · exact ih j hj
/-- slot and place apart -/
theorem Spl.same {K : PySem.W.Frag} {G : Gd} {H : Hp} {σ : L2.St} {ρ : En} {pd pd0 : Pds} (R1 : RE K G H σ ρ pd0) {fs : List Bool} {vs : List V} {ps : List PV} {js : List Nat} (s : Spl σ ρ pd fs vs ps js) (nd : js.Nodup) : ∀ {i j : Nat} {a : Addr}, fs[i]? = some true → fs[j]? = some true → vs[i]? = some (V.ref a) → vs[j]? = some (V.ref a) → i = j := by
  induction s with
  | nil => intro i j a e; simp at e
  | val h t ih =>
    intro i j a e1 e2 e3 e4
    cases i with
    | zero => simp at e1
    | succ i =>
      cases j with
      | zero => simp at e2
      | succ j => rw [ih nd (i := i) (j := j) (by simpa using e1) (by simpa using e2) (by simpa using e3) (by simpa using e4)]
  | @own fs v vs p ps m js b e h t ih =>
    intro i j a e1 e2 e3 e4
    have back : ∀ {i : Nat} {a : Addr}, fs[i]? = some true → vs[i]? = some (V.ref a) → v = .ref a → False := fun {i a} f1 f2 f3 => by
      obtain ⟨l1, l2, _⟩ := t.len
      have li : i < ps.length := by rw [l2]; exact (List.getElem?_eq_some_iff.mp f1).1
      obtain ⟨v', g1, _, g2⟩ := t.get f1 (List.getElem?_eq_getElem li)
      obtain ⟨j', c, mj, g3, g4⟩ := g2 rfl
      rw [f2] at g1; cases g1
      subst f3
      have z := R1.inj m j' b c _ _ a e g3 h g4
      exact (List.nodup_cons.mp nd).1 (by rw [z]; exact mj)
    cases i with
    | zero =>
      cases j with
      | zero => rfl
      | succ j =>
        simp at e3
        exact (back (by simpa using e2) (by simpa using e4) e3).elim
    | succ i =>
      cases j with
      | zero =>
        simp at e4
        exact (back (by simpa using e1) (by simpa using e3) e4).elim
      | succ j => rw [ih (List.nodup_cons.mp nd).2 (i := i) (j := j) (by simpa using e1) (by simpa using e2) (by simpa using e3) (by simpa using e4)]
theorem mk_get {io : List Bool} {ps : List PV} {i : Nat} {s : Sl} (h : (mk io ps)[i]? = some s) : ∃ b p, io[i]? = some b ∧ ps[i]? = some p ∧ s = if b = true then Sl.own true p else Sl.val p := by
  unfold mk at h
  rw [List.getElem?_zipWith] at h
  cases e1 : io[i]? with
  | none => rw [e1] at h; simp at h
  | some b =>
    cases e2 : ps[i]? with
    | none => rw [e1, e2] at h; simp at h
    | some p => rw [e1, e2] at h; exact ⟨b, p, rfl, rfl, by simpa using h.symm⟩
theorem mk_own {io : List Bool} {ps : List PV} {i : Nat} {b : Bool} {p : PV} (h : (mk io ps)[i]? = some (Sl.own b p)) : io[i]? = some true ∧ ps[i]? = some p ∧ b = true := by
  obtain ⟨c, q, e1, e2, e3⟩ := mk_get h
  cases c with
  | true => simp at e3; obtain ⟨rfl, rfl⟩ := e3; exact ⟨e1, e2, rfl⟩
  | false => simp at e3
theorem mk_val {io : List Bool} {ps : List PV} {i : Nat} {p : PV} (h : (mk io ps)[i]? = some (Sl.val p)) : io[i]? = some false ∧ ps[i]? = some p := by
  obtain ⟨c, q, e1, e2, e3⟩ := mk_get h
  cases c with
  | true => simp at e3
  | false => simp at e3; subst e3; exact ⟨e1, e2⟩
theorem mk_at {io : List Bool} {ps : List PV} {i : Nat} {b : Bool} {p : PV} (h : io[i]? = some b) (h2 : ps[i]? = some p) : (mk io ps)[i]? = some (if b = true then Sl.own true p else Sl.val p) := by
  unfold mk
  rw [List.getElem?_zipWith, h, h2]
section
variable {K : PySem.W.Frag} {G : Gd} {H H' : Hp} {σ : L2.St} {ρ : En} {pd : Pds} {S : FS} {vs : List V} {ps : List PV} {js : List Nat}
/-- the callee's start -/
theorem call_start (R1 : RE K G H σ ρ pd) (s : Spl σ ρ pd S.io vs ps js) (nd : js.Nodup) : RE K (G0 H S.io vs fun b => WS G σ ρ b ∧ ¬ Iob S.io vs b) H (vs.map some) (mk S.io ps) [] ∧ ∀ b, Iob S.io vs b → WS G σ ρ b := by
  obtain ⟨l1, l2, l3⟩ := s.len
  have iob : ∀ b, Iob S.io vs b → WS G σ ρ b := fun b ⟨i, e1, e2⟩ => by
    have li : i < ps.length := by rw [l2]; exact (List.getElem?_eq_some_iff.mp e1).1
    obtain ⟨v, g1, _, g2⟩ := s.get e1 (List.getElem?_eq_getElem li)
    obtain ⟨j, c, mj, g3, g4⟩ := g2 rfl
    rw [e2] at g1; cases g1
    exact .inr ⟨j, c, _, g3, g4⟩
  have sub : ∀ b, WS (G0 H S.io vs fun b => WS G σ ρ b ∧ ¬ Iob S.io vs b) (vs.map some) (mk S.io ps) b → WS G σ ρ b := fun b w => by
    rcases w with w | ⟨i, c, p, e1, e2⟩
    · exact w.1
    · obtain ⟨f1, f2, rfl⟩ := mk_own e1
      refine iob b ⟨i, f1, ?_⟩
      rw [List.getElem?_map] at e2
      cases e : vs[i]? with
      | none => rw [e] at e2; simp at e2
      | some v => rw [e] at e2; simp at e2; rw [e2]
  have vget : ∀ {i : Nat} {v : V}, vs[i]? = some v → (vs.map some)[i]? = some (some v) := fun {i v} e => by rw [List.getElem?_map, e]; rfl
  have vback : ∀ {i : Nat} {v : V}, (vs.map some)[i]? = some (some v) → vs[i]? = some v := fun {i v} e => by
    rw [List.getElem?_map] at e
    cases q : vs[i]? with
    | none => rw [q] at e; simp at e
    | some u => rw [q] at e; simp at e; rw [e]
  refine ⟨⟨?_, fun i p e => ?_, fun i b p e => ?_, fun i j b c p q a e1 e2 e3 e4 => ?_, fun i a h => ?_, fun b o e => ?_, fun b h => ?_, fun x hx => by simp at hx⟩, iob⟩
  · unfold mk; rw [List.length_zipWith, List.length_map, l1, l2]; simp
  · obtain ⟨f1, f2⟩ := mk_val e
    obtain ⟨v, g1, g2, _⟩ := s.get f1 f2
    exact ⟨v, vget g1, Is.anti sub _ _ (R1.pd _ (g2 rfl))⟩
  · obtain ⟨f1, f2, rfl⟩ := mk_own e
    obtain ⟨v, g1, _, g2⟩ := s.get f1 f2
    obtain ⟨j, c, mj, g3, g4⟩ := g2 rfl
    obtain ⟨a, h1, h2, o, h3, w⟩ := R1.own j c p g3
    rw [g4] at h1; cases h1
    exact ⟨a, vget g1, G0_no ⟨i, f1, g1⟩, o, h3, w.anti sub⟩
  · obtain ⟨f1, _, _⟩ := mk_own e1
    obtain ⟨f2, _, _⟩ := mk_own e2
    exact s.same R1 nd f1 f2 (vback e3) (vback e4)
  · have li : i < ps.length := by rw [l2]; exact (List.getElem?_eq_some_iff.mp h.1).1
    exact ⟨vget h.2, ps[i], by rw [mk_at h.1 (List.getElem?_eq_getElem li)]; simp⟩
  · exact (G0_of e).2
  · have m := R1.mut b h.1
    obtain ⟨o, e⟩ := R1.there h.1
    exact ⟨o, (G0_yes h.2).trans e, by rw [e] at m; exact m⟩
/-- behind it -/
theorem call_end {pd0 : Pds} {v : V} {r : PV} {outs : List PV} (R1 : RE K G H σ ρ pd) (sb : ∀ x ∈ pd0, x ∈ pd) (s : Spl σ ρ pd S.io vs ps js) (nd : js.Nodup) (iob : ∀ b, Iob S.io vs b → WS G σ ρ b) (lo : outs.length = js.length)
    (fin : Fin K S H (fun b => WS G σ ρ b ∧ ¬ Iob S.io vs b) vs v H' r outs) : Res K G H' σ (putOuts js outs ρ) pd0 (if S.fr = true then .fr r else .pv r) v := by
  have jo := s.js
  obtain ⟨p1, p2, p3⟩ := putOuts_spec (ρ := ρ) nd lo jo
  have A : Alike ρ (putOuts js outs ρ) := by
    refine ⟨p1, fun i => ?_⟩
    by_cases hi : i ∈ js
    · obtain ⟨k, lk, e⟩ := List.getElem_of_mem hi
      have lk' : k < outs.length := by rw [lo]; exact lk
      obtain ⟨b, p, h1, h2⟩ := p3 k i outs[k] (by rw [List.getElem?_eq_getElem lk, e]) (List.getElem?_eq_getElem lk')
      exact .inr ⟨b, p, _, h1, h2⟩
    · exact .inl (p2 i hi)
  have ws : ∀ b, (WS G σ ρ b ∧ ¬ Iob S.io vs b) ∨ Iob S.io vs b ↔ WS G σ ρ b := fun b => by
    constructor
    · rintro (w | w)
      · exact w.1
      · exact iob b w
    · intro w
      by_cases z : Iob S.io vs b
      · exact .inr z
      · exact .inl ⟨w, z⟩
  -- an owned slot that is no argument: its object stands
  have stay : ∀ (i : Nat) (b : Bool) (q : PV) (a : Addr), i ∉ js → ρ[i]? = some (Sl.own b q) → σ[i]? = some (some (V.ref a)) → ¬ Iob S.io vs a := fun i b q a hi e1 e2 ⟨m, f1, f2⟩ => by
    obtain ⟨_, l2, _⟩ := s.len
    have lm : m < ps.length := by rw [l2]; exact (List.getElem?_eq_some_iff.mp f1).1
    obtain ⟨v', g1, _, g2⟩ := s.get f1 (List.getElem?_eq_getElem lm)
    obtain ⟨j, c, mj, g3, g4⟩ := g2 rfl
    rw [f2] at g1; cases g1
    exact hi (by rw [R1.inj i j b c q _ a e1 g3 e2 g4]; exact mj)
  have keepG : ∀ b o, G.keep b = some o → H' b = some o := fun b o e => by
    refine fin.keep b o (R1.keep b o e) fun z => ?_
    rcases iob b z with w | ⟨i, c, p, e1, e2⟩
    · obtain ⟨m, f1, f2⟩ := z
      obtain ⟨_, l2, _⟩ := s.len
      have lm : m < ps.length := by rw [l2]; exact (List.getElem?_eq_some_iff.mp f1).1
      obtain ⟨v', g1, _, g2⟩ := s.get f1 (List.getElem?_eq_getElem lm)
      obtain ⟨j, c, mj, g3, g4⟩ := g2 rfl
      rw [f2] at g1; cases g1
      obtain ⟨a, h1, h2, _⟩ := R1.own j c _ g3
      rw [g4] at h1; cases h1
      rw [h2] at e; cases e
    · obtain ⟨a, h1, h2, _⟩ := R1.own i c p e1
      rw [e2] at h1; cases h1
      rw [h2] at e; cases e
  cases hf : S.fr with
  | false =>
    have R2 : RE K G H' σ (putOuts js outs ρ) pd := by
      refine R1.swap A (fun b o e n => fin.keep b o e fun z => n (iob b z)) keepG fun i b q a e1 e2 => ?_
      by_cases hi : i ∈ js
      · obtain ⟨k, lk, e⟩ := List.getElem_of_mem hi
        have lk' : k < outs.length := by rw [lo]; exact lk
        have ek : js[k]? = some i := by rw [List.getElem?_eq_getElem lk, e]
        have eo : outs[k]? = some outs[k] := List.getElem?_eq_getElem lk'
        obtain ⟨b', p, h1, h2⟩ := p3 k i outs[k] ek eo
        rw [e1] at h2; cases h2
        obtain ⟨m, v', g1, g2, g3, g4⟩ := s.io ek eo
        rw [e2] at g3; cases g3
        obtain ⟨o, ho, w⟩ := fin.outs m _ a g4 g2
        exact ⟨o, ho, w.anti fun b w => by
          rcases (ws b).2 w with w | w
          · exact .inl w
          · exact .inr (.inl w)⟩
      · rw [p2 i hi] at e1
        obtain ⟨c, f1, f2, o, f3, w⟩ := R1.own i b q e1
        rw [e2] at f1; cases f1
        exact ⟨o, fin.keep a o f3 (stay i b q a hi e1 e2), w.move (fun b o e n => fin.keep b o e fun z => n (iob b z)) R1.mut fun _ _ w => w⟩
    have hw : ∀ b, WS G σ (putOuts js outs ρ) b → WS G σ ρ b := fun b w => by
      rcases w with w | ⟨i, c, q, e1, e2⟩
      · exact .inl w
      · obtain ⟨p, e⟩ := A.back e1
        exact .inr ⟨i, c, p, e, e2⟩
    exact (R2.push (Is.anti (fun b w => (ws b).2 (hw b w)) _ _ (fin.res hf))).pds fun x hx => by
      rcases List.mem_cons.mp hx with e | hx
      · rw [e]; exact List.mem_cons_self
      · exact List.mem_cons_of_mem _ (sb x hx)
  | true =>
    obtain ⟨a, o, rfl, na, ea, w⟩ := fin.new hf
    have kn : G.keep a = none := by
      cases q : G.keep a with
      | none => rfl
      | some u => rw [R1.keep a u q] at na; cases na
    have R2 : RE K (G.add a o) (upd H a o) σ ρ pd := R1.add na (same_new na) upd_same w.mut
    have ws2 : ∀ b, WS (G.add a o) σ ρ b → (WS G σ ρ b ∧ ¬ Iob S.io vs b) ∨ Iob S.io vs b ∨ (S.fr = true ∧ V.ref a = .ref b) := fun b w => by
      have h2 : b = a ∨ WS G σ ρ b := by
        rcases w with (w | w) | w
        · exact .inl w
        · exact .inr (.inl w)
        · exact .inr (.inr w)
      rcases h2 with z | w
      · exact .inr (.inr ⟨hf, by rw [z]⟩)
      · rcases (ws b).2 w with w | w
        · exact .inl w
        · exact .inr (.inl w)
    have kp2 : ∀ b u, upd H a o b = some u → ¬ WS (G.add a o) σ ρ b → H' b = some u := fun b u e n => by
      have ne : b ≠ a := fun z => n (.inl (.inl z))
      rw [upd_ne ne] at e
      exact fin.keep b u e fun z => n ((iob b z).elim (fun w => .inl (.inr w)) .inr)
    have R3 : RE K (G.add a o) H' σ (putOuts js outs ρ) pd := by
      refine R2.swap A kp2 (fun b u e => ?_) fun i b q c e1 e2 => ?_
      · have e' : upd G.keep a o b = some u := e
        by_cases z : b = a
        · rw [z] at e' ⊢; rw [upd_same] at e'; cases e'; exact ea
        · rw [upd_ne z] at e'; exact keepG b u e'
      · by_cases hi : i ∈ js
        · obtain ⟨k, lk, e⟩ := List.getElem_of_mem hi
          have lk' : k < outs.length := by rw [lo]; exact lk
          have ek : js[k]? = some i := by rw [List.getElem?_eq_getElem lk, e]
          have eo : outs[k]? = some outs[k] := List.getElem?_eq_getElem lk'
          obtain ⟨b', p, h1, h2⟩ := p3 k i outs[k] ek eo
          rw [e1] at h2; cases h2
          obtain ⟨m, v', g1, g2, g3, g4⟩ := s.io ek eo
          rw [e2] at g3; cases g3
          obtain ⟨u, ho, w'⟩ := fin.outs m _ c g4 g2
          exact ⟨u, ho, w'.anti ws2⟩
        · rw [p2 i hi] at e1
          obtain ⟨d, f1, f2, u, f3, w'⟩ := R2.own i b q e1
          rw [e2] at f1; cases f1
          have nd : c ≠ a := fun z => by
            obtain ⟨d', f1', _, u', f3', _⟩ := R1.own i b q e1
            rw [e2] at f1'; cases f1'
            rw [z, na] at f3'; cases f3'
          rw [upd_ne nd] at f3
          exact ⟨u, fin.keep c u f3 (stay i b q c hi e1 e2), w'.move kp2 R2.mut fun _ _ w => w⟩
    have hw : ∀ b, WS (G.add a o) σ (putOuts js outs ρ) b → WS (G.add a o) σ ρ b := fun b w => by
      rcases w with w | ⟨i, c, q, e1, e2⟩
      · exact .inl w
      · obtain ⟨p, e⟩ := A.back e1
        exact .inr ⟨i, c, p, e, e2⟩
    exact ⟨a, o, rfl, kn, R1.exk, R3.pds sb, w.anti fun b w => ws2 b (hw b w)⟩
end
section
variable {X : Cx} {k : Nat} {f : Addr} {fd : FuncData} {x : Str} {ps : List Str} {S : FS} {e : Expr} {es : List Expr} {t : QTA} {p pos : Pos}
theorem rz_call {K : PySem.W.Frag} {ta : TA} {E : XK} (q : RzA K ta t) : Rz K (tCall (spP K S) [] E ta) (qCall S t) := by
  intro G H σ ρ pd Q F R1 h ff
  refine q G H σ ρ pd _ _ R1 h fun rs ρ1 pd1 vs H1 sb R2 ar g => ?_
  unfold callR at g
  cases es : splitArgs ρ1 S.io rs with
  | none => rw [es] at g; exact g.elim
  | some z =>
    obtain ⟨pvs, js⟩ := z
    rw [es] at g
    obtain ⟨nd, pre, post⟩ := g
    have s := spl_of ar es
    obtain ⟨R3, iob⟩ := call_start R2 s nd
    obtain ⟨l1, l2, l3⟩ := s.len
    show spP K S (vs ++ []) H1 F E
    rw [List.append_nil]
    refine ⟨pvs, _, l2, l1, R3, pre, fun v H' r outs hp lo fin => ?_⟩
    exact ff _ _ v H' (call_end R2 sb s nd iob (lo.trans l3.symm) fin) (post r outs hp (lo.trans l3.symm))
theorem qe_call (F : FnOk X.prog X.w X.K X.mg X.base CX0 k f fd ps (spP X.K S)) (hr : Room k X.A) (hm : X.mg x = some (.ref f)) (hk : PySem.W.keepIn X.K (.ref f) = true) (hb : Binds X.K fd ps []) (ha : QA X (e :: es) t) (hg : Gl X x := by rfl) (hdb : (x == ("__debug__" : Str)) = false := by decide)
    (he : starEach (e :: es) X.env = (false, eval e X.env) :: starEach es X.env := by rfl) (hpl : (backTo pos (starEach es X.env)).any (·.1) = false := by rfl) : QE X (.Call (.Name x p) (e :: es) [] pos) (qCall S t) := by
  obtain ⟨ta, p1, q⟩ := ha.ex
  exact ⟨_, pe_call F hr hg hm hk hb .nil pass0 p1 hdb he hpl, rz_call q⟩
end

/-! ### a def keeps its promise -/
def finOk (S : FS) (ps : List PV) (r : R) (ρ : En) : Prop := match S.fr, r with
  | true, .fr p => S.post ps p (outsOf S.io ρ)
  | false, .pv p => S.post ps p (outsOf S.io ρ)
  | false, .fr p => S.post ps p (outsOf S.io ρ)
  | _, _ => False
def endsOf (S : FS) (ps : List PV) : PEnds := { nx := fun ρ => finOk S ps (.pv .non) ρ, rt := fun r ρ => finOk S ps r ρ }
def uns (n : Nat) : En := List.replicate n Sl.un
theorem outs_len : ∀ (io : List Bool) (ρ : En), (outsOf io ρ).length = (io.filter id).length
  | [], ρ => by cases ρ <;> rfl
  | true :: io, [] => by simp [outsOf, outs_len io []]
  | false :: io, [] => by simp [outsOf, outs_len io []]
  | true :: io, s :: ρ => by
    have ih := outs_len io ρ
    cases s <;> simp [outsOf, ih]
  | false :: io, s :: ρ => by
    have ih := outs_len io ρ
    simp [outsOf, ih]
theorem outs_get : ∀ (io : List Bool) (ρ : En) {i : Nat} {q : PV}, (sel io (outsOf io ρ))[i]? = some (some q) → io[i]? = some true ∧ ∀ b p, ρ[i]? = some (Sl.own b p) → p = q
  | [], ρ, i, q, h => by cases ρ <;> simp [outsOf, sel] at h
  | true :: io, [], i, q, h => by
    cases i with
    | zero => exact ⟨rfl, fun b p e => by simp at e⟩
    | succ i =>
      have ih := outs_get io [] (i := i) (q := q) (by simpa [outsOf, sel] using h)
      exact ⟨by simpa using ih.1, fun b p e => by simp at e⟩
  | false :: io, [], i, q, h => by
    cases i with
    | zero => simp [outsOf, sel] at h
    | succ i =>
      have ih := outs_get io [] (i := i) (q := q) (by simpa [outsOf, sel] using h)
      exact ⟨by simpa using ih.1, fun b p e => by simp at e⟩
  | true :: io, s :: ρ, i, q, h => by
    cases i with
    | zero =>
      refine ⟨rfl, fun b p e => ?_⟩
      simp at e
      subst e
      simpa [outsOf, sel] using h
    | succ i =>
      have h' : (sel io (outsOf io ρ))[i]? = some (some q) := by
        cases s <;> simpa [outsOf, sel] using h
      simpa using outs_get io ρ h'
  | false :: io, s :: ρ, i, q, h => by
    cases i with
    | zero => simp [outsOf, sel] at h
    | succ i =>
      have h' : (sel io (outsOf io ρ))[i]? = some (some q) := by simpa [outsOf, sel] using h
      simpa using outs_get io ρ h'
theorem RE.pad {K : PySem.W.Frag} {G : Gd} {H : Hp} {σ : L2.St} {ρ : En} {pd : Pds} (R1 : RE K G H σ ρ pd) (n : Nat) : RE K G H (σ ++ List.replicate n none) (ρ ++ uns n) pd := by
  have sg : ∀ {i : Nat} {v : Option V}, σ[i]? = some v → (σ ++ List.replicate n none)[i]? = some v := fun {i v} e => by
    rw [List.getElem?_append_left (List.getElem?_eq_some_iff.mp e).1]; exact e
  have rg : ∀ {i : Nat} {s : Sl}, (ρ ++ uns n)[i]? = some s → s ≠ Sl.un → ρ[i]? = some s := fun {i s} e ne => by
    by_cases l : i < ρ.length
    · rw [List.getElem?_append_left l] at e; exact e
    · rw [List.getElem?_append_right (by omega)] at e
      unfold uns at e
      rw [List.getElem?_replicate] at e
      split at e
      · cases e; exact absurd rfl ne
      · cases e
  have rf : ∀ {i : Nat} {s : Sl}, ρ[i]? = some s → (ρ ++ uns n)[i]? = some s := fun {i s} e => by
    rw [List.getElem?_append_left (List.getElem?_eq_some_iff.mp e).1]; exact e
  have sb : ∀ {i : Nat} {s : Sl} {v : Option V}, ρ[i]? = some s → (σ ++ List.replicate n none)[i]? = some v → σ[i]? = some v := fun {i s v} e1 e2 => by
    have l : i < σ.length := by rw [← R1.len]; exact (List.getElem?_eq_some_iff.mp e1).1
    rw [List.getElem?_append_left l] at e2; exact e2
  have sub : ∀ b, WS G (σ ++ List.replicate n none) (ρ ++ uns n) b → WS G σ ρ b := fun b w => by
    rcases w with w | ⟨i, c, p, e1, e2⟩
    · exact .inl w
    · have f := rg e1 (by simp)
      exact .inr ⟨i, c, p, f, sb f e2⟩
  refine ⟨by simp [R1.len, uns], fun i p e => ?_, fun i b p e => ?_, fun i j b c p q a e1 e2 e3 e4 => ?_, fun i a h => ?_, R1.keep, R1.exk, fun x hx => Is.anti sub _ _ (R1.pd x hx)⟩
  · obtain ⟨v, e1, h⟩ := R1.val i p (rg e (by simp))
    exact ⟨v, sg e1, Is.anti sub _ _ h⟩
  · obtain ⟨a, e1, k, o, e2, w⟩ := R1.own i b p (rg e (by simp))
    exact ⟨a, sg e1, k, o, e2, w.anti sub⟩
  · have f1 := rg e1 (by simp)
    have f2 := rg e2 (by simp)
    exact R1.inj i j b c p q a f1 f2 (sb f1 e3) (sb f2 e4)
  · obtain ⟨e, p, e1⟩ := R1.io i a h
    exact ⟨sg e, p, rf e1⟩
section
variable {P : Program} {w : World} {K : PySem.W.Frag} {mg : Str → Option Value} {base : Heap} {x qual : Str} {st : Stmt} {f : Addr} {fd : FuncData} {N ps : List Str} {k : Nat} {S : FS} {t : QTS}
theorem fn_p (F : Fun K x qual st f fd) (sc : FnScope N ps (defScope st)) (lp : S.io.length = ps.length)
    (hb : ∀ (cdv : Value) (A : Around) (outer : List Env) (s : Shared) (H : Hp) (E : XK), Room k (A.deeper (envOfC qual (defScope st) s.heap.objs.size f cdv)) → QSs (cxOf CX0 P w K mg base N qual (defScope st) f cdv A outer s H E).nox (defBody st) t)
    (rd : ∀ pvs : List PV, pvs.length = S.io.length → S.pre pvs → t (endsOf S pvs) (mk S.io pvs ++ uns (N.length - ps.length))) : FnOk P w K mg base CX0 (k + 1) f fd ps (spP K S) := by
  refine F.ok sc (fun vs H Q E h => ?_) (fun cdv A outer s H vs Q E hr h => ?_)
  · obtain ⟨_, _, _, l, _⟩ := h
    rw [l, lp]
  obtain ⟨pvs, ex, l1, l2, R1, pre, post⟩ := h
  obtain ⟨ts, p, q⟩ := (hb cdv A outer s H E hr).ex
  refine ⟨ts, p, ?_⟩
  have R2 : RE K (G0 H S.io vs ex) H (L2.start N vs) (mk S.io pvs ++ uns (N.length - ps.length)) [] := by
    have z := R1.pad (N.length - ps.length)
    have e : L2.start N vs = vs.map some ++ List.replicate (N.length - ps.length) none := by
      unfold L2.start
      rw [l2, lp]
    rw [e]; exact z
  have fin : ∀ (r : R) (v : V) (σ' : L2.St) (ρ' : En) (H' : Hp), Res K (G0 H S.io vs ex) H' σ' ρ' [] r v → finOk S pvs r ρ' → Q v H' := fun r v σ' ρ' H' s' g => by
    have R3 := s'.re
    have kp : ∀ b o, H b = some o → ¬ Iob S.io vs b → H' b = some o := fun b o e n => R3.keep b o ((G0_yes n).trans e)
    have wio : ∀ b, Iob S.io vs b → WS (G0 H S.io vs ex) σ' ρ' b := fun b ⟨i, e1, e2⟩ => by
      obtain ⟨e3, p, e4⟩ := R3.io i b ⟨e1, e2⟩
      exact .inr ⟨i, true, p, e4, e3⟩
    have wsub : ∀ b, ex b ∨ Iob S.io vs b → WS (G0 H S.io vs ex) σ' ρ' b := fun b w => w.elim .inl (wio b)
    -- the outs, as the slots own them
    have ow : ∀ (i : Nat) (q : PV) (a : Addr), (sel S.io (outsOf S.io ρ'))[i]? = some (some q) → vs[i]? = some (V.ref a) → ∃ b, ρ'[i]? = some (Sl.own b q) ∧ σ'[i]? = some (some (V.ref a)) := fun i q a e1 e2 => by
      obtain ⟨f1, f2⟩ := outs_get _ _ e1
      obtain ⟨e3, p, e4⟩ := R3.io i a ⟨f1, e2⟩
      have := f2 true p e4
      subst this
      exact ⟨true, e4, e3⟩
    cases hf : S.fr with
    | false =>
      have key : ∀ p, Is K H' (WS (G0 H S.io vs ex) σ' ρ') p v → S.post pvs p (outsOf S.io ρ') → Q v H' := fun p hp g => post v H' p (outsOf S.io ρ') g (outs_len _ _) {
        keep := kp
        outs := fun i q a e1 e2 => by
          obtain ⟨b, e3, e4⟩ := ow i q a e1 e2
          obtain ⟨c, e5, _, o, e6, w⟩ := R3.own i b q e3
          rw [e4] at e5; cases e5
          exact ⟨o, e6, w.anti fun b w => by
            rcases w with w | w | w
            · exact .inl w
            · exact wio b w
            · rw [hf] at w; cases w.1⟩
        res := fun _ => Is.anti wsub _ _ hp
        new := fun z => by rw [hf] at z; cases z }
      unfold finOk at g
      rw [hf] at g
      cases r with
      | pv p => exact key p ((show RE K _ H' σ' ρ' [(p, v)] from s').pd (p, v) List.mem_cons_self) g
      | fr p =>
        have s2 := s'.weak
        exact key p ((show RE K _ H' σ' ρ' [(p, v)] from s2).pd (p, v) List.mem_cons_self) g
      | sl i => exact g.elim
    | true =>
      unfold finOk at g
      rw [hf] at g
      cases r with
      | pv p => exact g.elim
      | sl i => exact g.elim
      | fr p =>
        obtain ⟨a, o, rfl, n, kx, R4, w⟩ := s'
        have Ha : H' a = some o := R4.keep a o upd_same
        have nio : ¬ Iob S.io vs a := fun ⟨i, e1, e2⟩ => by
          obtain ⟨e3, p', e4⟩ := R4.io i a ⟨e1, e2⟩
          obtain ⟨c, e5, k, _⟩ := R4.own i true p' e4
          rw [e3] at e5; cases e5
          have k' : upd (G0 H S.io vs ex).keep a o a = none := k
          rw [upd_same] at k'; cases k'
        have n' : H a = none := (G0_yes nio).symm.trans n
        have wsub2 : ∀ b, ex b ∨ Iob S.io vs b ∨ (S.fr = true ∧ V.ref a = .ref b) → WS ((G0 H S.io vs ex).add a o) σ' ρ' b := fun b w => by
          rcases w with w | ⟨i, e1, e2⟩ | w
          · exact .inl (.inr w)
          · obtain ⟨e3, p', e4⟩ := R4.io i b ⟨e1, e2⟩
            exact .inr ⟨i, true, p', e4, e3⟩
          · cases w.2; exact .inl (.inl rfl)
        refine post (.ref a) H' p (outsOf S.io ρ') g (outs_len _ _) {
          keep := kp
          outs := fun i q c e1 e2 => ?_
          res := fun z => by rw [hf] at z; cases z
          new := fun _ => ⟨a, o, rfl, n', Ha, w.anti wsub2⟩ }
        obtain ⟨b, e3, e4⟩ := ow i q c e1 e2
        obtain ⟨d, e5, _, u, e6, w'⟩ := R4.own i b q e3
        rw [e4] at e5; cases e5
        exact ⟨u, e6, w'.anti wsub2⟩
  exact q _ H _ _ [] (endsOf S pvs) _ R2 (rd pvs l1 pre) ⟨fun σ' ρ' H' R3 g => fin (.pv .non) .non σ' ρ' H' (R3.push rfl) g, fun r v σ' ρ' H' s' g => fin r v σ' ρ' H' s' g, fun _ _ _ _ g => g.elim, fun _ _ _ _ g => g.elim⟩
end
end Px
namespace Px
open PySem L2 PyProof.Rows

/-! ### data -/
mutual
def toD : PV → PyData
  | .non => .none
  | .bl b => .bool b
  | .int i => .int i
  | .str s => .str s
  | .tup ps => .tuple (toDs ps)
  | .lst ps => .list (toDs ps)
  | .dic _ _ => .dict []
  | .scr _ => .dict []
  | .ty _ => .dict []
def toDs : List PV → List PyData
  | [] => []
  | p :: ps => toD p :: toDs ps
end
mutual
def plain : PV → Bool
  | .non => true
  | .bl _ => true
  | .int _ => true
  | .str _ => true
  | .tup ps => plains ps
  | .lst ps => plains ps
  | .dic _ _ => false
  | .scr _ => false
  | .ty _ => false
def plains : List PV → Bool
  | [] => true
  | p :: ps => plain p && plains ps
end
mutual
/-- how deep data is nested -/
def dep : PV → Nat
  | .tup ps => deps ps + 1
  | .lst ps => deps ps + 1
  | .non => 0
  | .bl _ => 0
  | .int _ => 0
  | .str _ => 0
  | .dic _ _ => 0
  | .scr _ => 0
  | .ty _ => 0
def deps : List PV → Nat
  | [] => 0
  | p :: ps => max (dep p) (deps ps)
end
mutual
theorem dp_of {K : PySem.W.Frag} {H : Hp} {W : Addr → Prop} : ∀ (p : PV) (v : V), plain p = true → Is K H W p v → Dp K H v (toD p) ∧ (toD p).canLay0 = true ∧ (toD p).depth = dep p
  | .non, _, _, h => by cases (show _ = V.non from h); exact ⟨.non, rfl, rfl⟩
  | .bl b, _, _, h => by cases (show _ = V.bl b from h); exact ⟨.bl b, rfl, rfl⟩
  | .int i, _, _, h => by cases (show _ = V.int i from h); exact ⟨.int i, rfl, rfl⟩
  | .str s, v, _, h => by
    obtain ⟨e, ok⟩ : v = .str s ∧ sOk s = true := h
    subst e
    exact ⟨.str s, ok, rfl⟩
  | .tup ps, v, pl, h => by
    obtain ⟨a, vs, e, r, i⟩ : ∃ a vs, v = .ref a ∧ H a = some (.tup vs) ∧ Iss K H W ps vs := h
    subst e
    obtain ⟨d, c, z⟩ := dps_of ps vs (by rw [plain] at pl; exact pl) i
    exact ⟨.tup (.inl (.inl r)) d, by rw [toD, PyData.canLay0]; exact c, by rw [toD, PyData.depth, dep, z]⟩
  | .lst ps, v, pl, h => by
    obtain ⟨a, vs, e, _, r, i⟩ : ∃ a vs, v = .ref a ∧ ¬ W a ∧ H a = some (.lst vs) ∧ Iss K H W ps vs := h
    subst e
    obtain ⟨d, c, z⟩ := dps_of ps vs (by rw [plain] at pl; exact pl) i
    exact ⟨.lst (.inl (.inl r)) d, by rw [toD, PyData.canLay0]; exact c, by rw [toD, PyData.depth, dep, z]⟩
  | .dic _ _, _, pl, _ => by simp [plain] at pl
  | .scr _, _, pl, _ => by simp [plain] at pl
  | .ty _, _, pl, _ => by simp [plain] at pl
theorem dps_of {K : PySem.W.Frag} {H : Hp} {W : Addr → Prop} : ∀ (ps : List PV) (vs : List V), plains ps = true → Iss K H W ps vs → DpAll K H vs (toDs ps) ∧ PyData.canLayAll0 (toDs ps) = true ∧ PyData.depthAll (toDs ps) = deps ps
  | [], _, _, h => by cases (show _ = [] from h); exact ⟨.nil, rfl, rfl⟩
  | p :: ps, vs, pl, h => by
    obtain ⟨v, r, e, h1, h2⟩ := h
    subst e
    rw [plains, Bool.and_eq_true] at pl
    obtain ⟨d1, c1, z1⟩ := dp_of p v pl.1 h1
    obtain ⟨d2, c2, z2⟩ := dps_of ps r pl.2 h2
    refine ⟨.cons d1 d2, ?_, ?_⟩
    · rw [toDs, PyData.canLayAll0, c1, c2]; rfl
    · rw [toDs, PyData.depthAll, z1, z2, deps]
end
theorem lk_dp {K : PySem.W.Frag} {H : Hp} {W : Addr → Prop} {p : PV} {v : V} (pl : plain p = true) (h : Lk K H W p v) : Dp K H v (toD p) ∧ (toD p).canLay0 = true ∧ (toD p).depth = dep p := by
  cases p with
  | lst ps =>
    obtain ⟨a, vs, e, r, i⟩ := h
    subst e
    obtain ⟨d, c, z⟩ := dps_of ps vs (by rw [plain] at pl; exact pl) i
    exact ⟨.lst (.inl (.inl r)) d, by rw [toD, PyData.canLay0]; exact c, by rw [toD, PyData.depth, dep, z]⟩
  | dic ks ps => simp [plain] at pl
  | _ => exact dp_of (W := W) _ v pl h
def peq (p q : PV) : Bool := PyData.eqv (toD p) (toD q)
def peqs (ps qs : List PV) : Bool := PyData.eqvAll (toDs ps) (toDs qs)
/-- data that == may be asked of -/
def eqOk (p : PV) : Prop := plain p = true ∧ dep p ≤ 64
theorem shaped_of {p : PV} (c : (toD p).canLay0 = true) (z : (toD p).depth = dep p) (h : eqOk p) : SeqAt.shaped (toD p) = true := by
  unfold SeqAt.shaped
  rw [c, z, Bool.true_and]
  exact decide_eq_true h.2

section
variable {X : Cx}
theorem fin1 {K : PySem.W.Frag} {H : Hp} {W : Addr → Prop} {Q : R → Prop} {F : VK} {v : V} {p : PV} (f : ∀ v H' z, Same H H' → ResV K H W H' z v → Q z → F v H') (h : Is K H W p v) (q : Q (.pv p)) : F v H := f v H (.pv p) (Same.refl H) h q

/-! ### arithmetic -/
theorem sOk_append {a b : Str} (h1 : sOk a = true) (h2 : sOk b = true) : sOk (a ++ b) = true := by
  have e1 : a.cps.all (· < 0x110000) = true := h1
  have e2 : b.cps.all (· < 0x110000) = true := h2
  show (a ++ b).cps.all (· < 0x110000) = true
  show (a.cps ++ b.cps).all (· < 0x110000) = true
  rw [Array.all_append, e1, e2]; rfl
def gAdd : G2
  | .int i, .int j, Q => Q (.pv (.int (i + j)))
  | .str a, .str b, Q => small (a.length + b.length) ∧ Q (.pv (.str (a ++ b)))
  | .tup a, .tup b, Q => small (a.length + b.length) ∧ Q (.pv (.tup (a ++ b)))
  | .lst a, .lst b, Q => small (a.length + b.length) ∧ Q (.fr (.lst (a ++ b)))
  | _, _, _ => False
theorem op_addP : OpP X (binaryOp .Add) gAdd := by
  refine ⟨_, op_add.or (op_add_str.or (op_catA.or op_cat)), fun H W p q x y Q F m l1 l2 g f => ?_⟩
  cases p <;> cases q <;> first
    | exact g.elim
    | skip
  · cases (show x = _ from l1); cases (show y = _ from l2)
    exact .inl ⟨_, _, rfl, rfl, fin1 f (p := .int _) rfl g⟩
  · obtain ⟨e1, o1⟩ : x = .str _ ∧ sOk _ = true := l1
    obtain ⟨e2, o2⟩ : y = .str _ ∧ sOk _ = true := l2
    subst e1 e2
    exact .inr (.inl ⟨_, _, rfl, rfl, g.1, fin1 f (p := .str _) ⟨rfl, sOk_append o1 o2⟩ g.2⟩)
  · rename_i ps qs
    obtain ⟨a, vs, e1, r1, i1⟩ : ∃ a vs, x = .ref a ∧ H a = some (.tup vs) ∧ Iss X.K H W ps vs := l1
    obtain ⟨b, us, e2, r2, i2⟩ : ∃ a vs, y = .ref a ∧ H a = some (.tup vs) ∧ Iss X.K H W qs vs := l2
    subst e1 e2
    have sm : vs.length + us.length ≤ sizeLine := by rw [← i1.length, ← i2.length]; exact small_le g.1
    refine .inr (.inr (.inl ⟨a, b, vs, us, rfl, rfl, .inl (.inl r1), .inl (.inl r2), sm, fun e => ?_, fun _ e => ?_, fun _ _ p hp => f _ _ _ (same_new hp) (resTup m (i1.append i2) hp) g.2⟩))
    · have ep : ps = [] := List.length_eq_zero_iff.mp (by rw [i1.length, e]; rfl)
      subst ep
      exact fin1 f (p := .tup qs) ⟨b, us, rfl, r2, i2⟩ g.2
    · have ep : qs = [] := List.length_eq_zero_iff.mp (by rw [i2.length, e]; rfl)
      subst ep
      have g2 : Q (.pv (.tup (ps ++ []))) := g.2
      rw [List.append_nil] at g2
      exact fin1 f (p := .tup ps) ⟨a, vs, rfl, r1, i1⟩ g2
  · rename_i ps qs
    obtain ⟨a, vs, e1, r1, i1⟩ : ∃ a vs, x = .ref a ∧ H a = some (.lst vs) ∧ Iss X.K H W ps vs := l1
    obtain ⟨b, us, e2, r2, i2⟩ : ∃ a vs, y = .ref a ∧ H a = some (.lst vs) ∧ Iss X.K H W qs vs := l2
    subst e1 e2
    have sm : vs.length + us.length ≤ sizeLine := by rw [← i1.length, ← i2.length]; exact small_le g.1
    exact .inr (.inr (.inr ⟨a, b, vs, us, rfl, rfl, r1, r2, sm, fun p hp => f _ _ _ (same_new hp) (resLst m (i1.append i2) hp) g.2⟩))
def gInt (C : Int → Int → Prop) (h : Int → Int → PV) : G2
  | .int i, .int j, Q => C i j ∧ Q (.pv (h i j))
  | _, _, _ => False
theorem op_int {fo : Value → Value → Sem Value} {C : Int → Int → Prop} {g : Int → Int → V} {h : Int → Int → PV} (ho : OpR X fo (rI C g)) (hh : ∀ K H W i j, Is K H W (h i j) (g i j)) : OpP X fo (gInt C h) := by
  refine ⟨_, ho, fun H W p q x y Q F m l1 l2 z f => ?_⟩
  cases p <;> cases q <;> first
    | exact z.elim
    | skip
  cases (show x = _ from l1); cases (show y = _ from l2)
  exact ⟨_, _, rfl, rfl, z.1, fin1 f (hh _ _ _ _ _) z.2⟩
def gInt0 (h : Int → Int → PV) : G2
  | .int i, .int j, Q => Q (.pv (h i j))
  | _, _, _ => False
theorem op_int0 {fo : Value → Value → Sem Value} {g : Int → Int → V} {h : Int → Int → PV} (ho : OpR X fo (rI0 g)) (hh : ∀ K H W i j, Is K H W (h i j) (g i j)) : OpP X fo (gInt0 h) := by
  refine ⟨_, ho, fun H W p q x y Q F m l1 l2 z f => ?_⟩
  cases p <;> cases q <;> first
    | exact z.elim
    | skip
  cases (show x = _ from l1); cases (show y = _ from l2)
  exact ⟨_, _, rfl, rfl, fin1 f (hh _ _ _ _ _) z⟩
abbrev gSub := gInt0 fun i j => .int (i - j)
theorem op_subP : OpP X (binaryOp .Sub) gSub := op_int0 op_sub fun _ _ _ _ _ => rfl
abbrev gMul := gInt CMul fun i j => .int (i * j)
theorem op_mulP : OpP X (binaryOp .Mult) gMul := op_int op_mul fun _ _ _ _ _ => rfl
abbrev gMod := gInt (fun _ j => 0 < j) fun i j => .int (i % j)
theorem op_modP : OpP X (binaryOp .Mod) gMod := op_int op_mod fun _ _ _ _ _ => rfl
abbrev gDiv := gInt CDiv fun i j => .int (i / j)
theorem op_divP : OpP X (binaryOp .FloorDiv) gDiv := op_int op_fdiv fun _ _ _ _ _ => rfl
abbrev gPow := gInt CPow fun i j => .int (i ^ j.toNat)
theorem op_powP : OpP X (binaryOp .Pow) gPow := op_int op_pow fun _ _ _ _ _ => rfl
abbrev gLt := gInt0 fun i j => .bl (decide (i < j))
theorem op_ltP : OpP X (compareOp .Lt) gLt := op_int0 op_lt fun _ _ _ _ _ => rfl
abbrev gLe := gInt0 fun i j => .bl (decide (i ≤ j))
theorem op_leP : OpP X (compareOp .LtE) gLe := op_int0 op_le fun _ _ _ _ _ => rfl
abbrev gGt := gInt0 fun i j => .bl (decide (j < i))
theorem op_gtP : OpP X (compareOp .Gt) gGt := op_int0 op_gt fun _ _ _ _ _ => rfl
abbrev gGe := gInt0 fun i j => .bl (decide (j ≤ i))
theorem op_geP : OpP X (compareOp .GtE) gGe := op_int0 op_ge fun _ _ _ _ _ => rfl

/-! ### ==, in, is -/
def gEq (p : PV) (q : PV) (Q : R → Prop) : Prop := eqOk p ∧ eqOk q ∧ Q (.pv (.bl (peq p q)))
def gNe (p : PV) (q : PV) (Q : R → Prop) : Prop := eqOk p ∧ eqOk q ∧ Q (.pv (.bl (!peq p q)))
theorem op_eqP (hu : X.A.units + 64 < cLine) : OpP X (compareOp .Eq) gEq := by
  refine ⟨_, op_eqD hu, fun H W p q x y Q F m l1 l2 z f => ?_⟩
  obtain ⟨h1, h2, h3⟩ := z
  obtain ⟨d1, c1, z1⟩ := lk_dp h1.1 l1
  obtain ⟨d2, c2, z2⟩ := lk_dp h2.1 l2
  exact ⟨_, _, d1, d2, shaped_of c1 z1 h1, shaped_of c2 z2 h2, fin1 f (p := .bl _) rfl h3⟩
theorem op_neP (hu : X.A.units + 64 < cLine) : OpP X (compareOp .NotEq) gNe := by
  refine ⟨_, op_neD hu, fun H W p q x y Q F m l1 l2 z f => ?_⟩
  obtain ⟨h1, h2, h3⟩ := z
  obtain ⟨d1, c1, z1⟩ := lk_dp h1.1 l1
  obtain ⟨d2, c2, z2⟩ := lk_dp h2.1 l2
  exact ⟨_, _, d1, d2, shaped_of c1 z1 h1, shaped_of c2 z2 h2, fin1 f (p := .bl _) rfl h3⟩
/-- among the items of a list -/
def memP (p : PV) (qs : List PV) : Bool := qs.any fun z => peq z p
theorem any_toDs (p : PV) : ∀ qs : List PV, (toDs qs).any (fun z => PyData.eqv z (toD p)) = memP p qs
  | [] => rfl
  | q :: qs => by
    show (PyData.eqv (toD q) (toD p) || (toDs qs).any _) = (peq q p || memP p qs)
    rw [any_toDs p qs]; rfl
def gIn : G2
  | p, .lst qs, Q => eqOk p ∧ eqOk (.lst qs) ∧ Q (.pv (.bl (memP p qs)))
  | _, _, _ => False
def gNotIn : G2
  | p, .lst qs, Q => eqOk p ∧ eqOk (.lst qs) ∧ Q (.pv (.bl (!memP p qs)))
  | _, _, _ => False
theorem op_inP (hu : X.A.units + 65 < cLine) : OpP X (compareOp .In) gIn := by
  refine ⟨_, op_inD hu, fun H W p q x y Q F m l1 l2 z f => ?_⟩
  cases q with
  | lst qs =>
    have z' : eqOk p ∧ eqOk (.lst qs) ∧ Q (.pv (.bl (memP p qs))) := by cases p <;> exact z
    obtain ⟨h1, h2, h3⟩ := z'
    obtain ⟨d1, c1, z1⟩ := lk_dp h1.1 l1
    obtain ⟨d2, c2, z2⟩ := lk_dp h2.1 l2
    refine ⟨_, _, d1, d2, shaped_of c1 z1 h1, shaped_of c2 z2 h2, fin1 f (p := .bl _) rfl (?_ : Q (.pv (.bl _)))⟩
    rw [any_toDs]; exact h3
  | _ => cases p <;> exact z.elim
theorem op_notInP (hu : X.A.units + 65 < cLine) : OpP X (compareOp .NotIn) gNotIn := by
  refine ⟨_, op_notInD hu, fun H W p q x y Q F m l1 l2 z f => ?_⟩
  cases q with
  | lst qs =>
    have z' : eqOk p ∧ eqOk (.lst qs) ∧ Q (.pv (.bl (!memP p qs))) := by cases p <;> exact z
    obtain ⟨h1, h2, h3⟩ := z'
    obtain ⟨d1, c1, z1⟩ := lk_dp h1.1 l1
    obtain ⟨d2, c2, z2⟩ := lk_dp h2.1 l2
    refine ⟨_, _, d1, d2, shaped_of c1 z1 h1, shaped_of c2 z2 h2, fin1 f (p := .bl _) rfl (?_ : Q (.pv (.bl _)))⟩
    rw [any_toDs]; exact h3
  | _ => cases p <;> exact z.elim
def isNon : PV → Bool
  | .non => true
  | _ => false
def gIs : G2
  | p, .non, Q => Q (.pv (.bl (isNon p)))
  | _, _, _ => False
def gIsNot : G2
  | p, .non, Q => Q (.pv (.bl (!isNon p)))
  | _, _, _ => False
theorem isNon_iff {K : PySem.W.Frag} {H : Hp} {W : Addr → Prop} {p : PV} {x : V} (l : Lk K H W p x) : decide (x = .non) = isNon p := by
  cases p with
  | non => cases (show x = .non from l); rfl
  | bl b => cases (show x = _ from l); rfl
  | int b => cases (show x = _ from l); rfl
  | ty b => cases (show x = _ from l); rfl
  | str s => obtain ⟨e, _⟩ : x = .str s ∧ sOk s = true := l; subst e; rfl
  | tup ps => obtain ⟨a, vs, e, _⟩ : ∃ a vs, x = .ref a ∧ H a = some (.tup vs) ∧ Iss K H W ps vs := l; subst e; rfl
  | lst ps => obtain ⟨a, vs, e, _⟩ := l; subst e; rfl
  | dic ks ps => obtain ⟨a, vs, e, _⟩ := l; subst e; rfl
  | scr ns => obtain ⟨a, e, _⟩ : ∃ a, x = .ref a ∧ _ := l; subst e; rfl
theorem op_isP : OpP X (compareOp .Is) gIs := by
  refine ⟨_, op_isN, fun H W p q x y Q F m l1 l2 z f => ?_⟩
  cases q with
  | non =>
    cases (show y = .non from l2)
    have z' : Q (.pv (.bl (isNon p))) := by cases p <;> exact z
    exact ⟨rfl, fin1 f (p := .bl (isNon p)) (by rw [← isNon_iff l1]; rfl) z'⟩
  | _ => cases p <;> exact z.elim
theorem op_isNotP : OpP X (compareOp .IsNot) gIsNot := by
  refine ⟨_, op_notN, fun H W p q x y Q F m l1 l2 z f => ?_⟩
  cases q with
  | non =>
    cases (show y = .non from l2)
    have z' : Q (.pv (.bl (!isNon p))) := by cases p <;> exact z
    exact ⟨rfl, fin1 f (p := .bl (!isNon p)) (by rw [← isNon_iff l1]; rfl) z'⟩
  | _ => cases p <;> exact z.elim

/-! ### x[i] -/
def getP (ps : List PV) (i : Int) (Q : R → Prop) : Prop := match atI ps i with
  | some p => Q (.pv p)
  | none => False
def gIx : G2
  | .tup ps, .int i, Q => getP ps i Q
  | .lst ps, .int i, Q => getP ps i Q
  | _, _, _ => False
theorem at_iss {K : PySem.W.Frag} {H : Hp} {W : Addr → Prop} {ps : List PV} {vs : List V} {i : Int} {p : PV} (h : Iss K H W ps vs) (e : atI ps i = some p) : ∃ v, atI vs i = some v ∧ Is K H W p v := by
  unfold atI at e ⊢
  rw [h.length] at e
  cases z : ixN vs.length i with
  | none => rw [z] at e; cases e
  | some j => rw [z] at e; exact h.getP e
theorem ix_P : IxP X gIx := by
  refine ⟨_, ix_list.or ix_tup, fun H W p q x y Q F m l1 l2 z f => ?_⟩
  cases p <;> cases q <;> first
    | exact z.elim
    | skip
  · rename_i ps i
    cases (show y = _ from l2)
    obtain ⟨a, vs, e1, r1, i1⟩ : ∃ a vs, x = .ref a ∧ H a = some (.tup vs) ∧ Iss X.K H W ps vs := l1
    subst e1
    have z' : getP ps i Q := z
    unfold getP at z'
    cases e : atI ps i with
    | none => rw [e] at z'; exact z'.elim
    | some p =>
      rw [e] at z'
      obtain ⟨v, hv, hi⟩ := at_iss i1 e
      exact .inr ⟨a, vs, _, v, rfl, rfl, .inl (.inl r1), hv, fin1 f hi z'⟩
  · rename_i ps i
    cases (show y = _ from l2)
    obtain ⟨a, vs, e1, r1, i1⟩ : ∃ a vs, x = .ref a ∧ H a = some (.lst vs) ∧ Iss X.K H W ps vs := l1
    subst e1
    have z' : getP ps i Q := z
    unfold getP at z'
    cases e : atI ps i with
    | none => rw [e] at z'; exact z'.elim
    | some p =>
      rw [e] at z'
      obtain ⟨v, hv, hi⟩ := at_iss i1 e
      exact .inl ⟨a, vs, _, v, rfl, rfl, .inl (.inl r1), hv, fin1 f hi z'⟩

/-! ### built-ins -/
def gLen : GL
  | [.str s], Q => small s.length ∧ Q (.pv (.int (s.length : Nat)))
  | [.tup ps], Q => Q (.pv (.int (ps.length : Nat)))
  | [.lst ps], Q => Q (.pv (.int (ps.length : Nat)))
  | _, _ => False
theorem lks1 {K : PySem.W.Frag} {H : Hp} {W : Addr → Prop} {p : PV} {xs : List V} (h : Lks K H W [p] xs) : ∃ x, xs = [x] ∧ Lk K H W p x := by
  cases h with
  | cons h t => cases t; exact ⟨_, rfl, h⟩
theorem lks2 {K : PySem.W.Frag} {H : Hp} {W : Addr → Prop} {p q : PV} {xs : List V} (h : Lks K H W [p, q] xs) : ∃ x y, xs = [x, y] ∧ Lk K H W p x ∧ Lk K H W q y := by
  cases h with
  | cons h t =>
    obtain ⟨y, rfl, h2⟩ := lks1 t
    exact ⟨_, y, rfl, h, h2⟩
theorem call_lenP : CallP X (.builtin "len") gLen := by
  refine ⟨_, call_len, fun H W ps xs Q F m l g f => ?_⟩
  unfold gLen at g
  split at g
  · rename_i s
    obtain ⟨x, rfl, h⟩ := lks1 l
    obtain ⟨e, _⟩ : x = .str s ∧ sOk s = true := h
    subst e
    exact ⟨_, _, rfl, ⟨g.1, rfl⟩, fin1 f (p := .int _) rfl g.2⟩
  · rename_i ps
    obtain ⟨x, rfl, h⟩ := lks1 l
    obtain ⟨a, vs, e, r, i⟩ : ∃ a vs, x = .ref a ∧ H a = some (.tup vs) ∧ Iss X.K H W ps vs := h
    subst e
    exact ⟨_, vs.length, rfl, .inr ⟨vs, .inl (.inl r), rfl⟩, fin1 f (p := .int _) rfl (by rw [← i.length]; exact g)⟩
  · rename_i ps
    obtain ⟨x, rfl, h⟩ := lks1 l
    obtain ⟨a, vs, e, r, i⟩ := h
    subst e
    exact ⟨_, vs.length, rfl, .inl ⟨vs, .inl (.inl r), rfl⟩, fin1 f (p := .int _) rfl (by rw [← i.length]; exact g)⟩
  · exact g.elim
def gAbs : GL
  | [.int i], Q => Q (.pv (.int (if i < 0 then -i else i)))
  | _, _ => False
theorem call_absP : CallP X (.builtin "abs") gAbs := by
  refine ⟨_, call_abs, fun H W ps xs Q F m l g f => ?_⟩
  unfold gAbs at g
  split at g
  · obtain ⟨x, rfl, h⟩ := lks1 l
    cases (show x = _ from h)
    exact ⟨_, rfl, fin1 f (p := .int _) rfl g⟩
  · exact g.elim
def b2n (b : Bool) : Int := if b then 1 else 0
def gIntC : GL
  | [.int i], Q => Q (.pv (.int i))
  | [.bl b], Q => Q (.pv (.int (b2n b)))
  | _, _ => False
theorem call_intP : CallP X (.type "int") gIntC := by
  refine ⟨_, call_int1, fun H W ps xs Q F m l g f => ?_⟩
  unfold gIntC at g
  split at g
  · obtain ⟨x, rfl, h⟩ := lks1 l
    cases (show x = _ from h)
    exact .inl ⟨_, rfl, fin1 f (p := .int _) rfl g⟩
  · obtain ⟨x, rfl, h⟩ := lks1 l
    cases (show x = _ from h)
    exact .inr ⟨_, rfl, fin1 f (p := .int _) rfl g⟩
  · exact g.elim
/-- a list of ints; of truths -/
def asInts : List PV → Option (List Int)
  | [] => some []
  | .int i :: ps => (asInts ps).map (i :: ·)
  | _ :: _ => none
def asBls : List PV → Option (List Bool)
  | [] => some []
  | .bl b :: ps => (asBls ps).map (b :: ·)
  | _ :: _ => none
theorem asInts_iss {K : PySem.W.Frag} {H : Hp} {W : Addr → Prop} : ∀ {ps : List PV} {vs : List V} {ns : List Int}, Iss K H W ps vs → asInts ps = some ns → vs = ns.map V.int
  | [], _, _, h, e => by cases (show _ = [] from h); cases e; rfl
  | p :: ps, vs, ns, h, e => by
    obtain ⟨v, r, e1, h1, h2⟩ := h
    subst e1
    cases p with
    | int i =>
      have e' : (asInts ps).map (i :: ·) = some ns := e
      cases z : asInts ps with
      | none => rw [z] at e'; cases e'
      | some ms => rw [z] at e'; cases e'; cases (show v = .int i from h1); rw [asInts_iss h2 z]; rfl
    | _ => cases e
theorem asBls_iss {K : PySem.W.Frag} {H : Hp} {W : Addr → Prop} : ∀ {ps : List PV} {vs : List V} {ns : List Bool}, Iss K H W ps vs → asBls ps = some ns → vs = ns.map V.bl
  | [], _, _, h, e => by cases (show _ = [] from h); cases e; rfl
  | p :: ps, vs, ns, h, e => by
    obtain ⟨v, r, e1, h1, h2⟩ := h
    subst e1
    cases p with
    | bl i =>
      have e' : (asBls ps).map (i :: ·) = some ns := e
      cases z : asBls ps with
      | none => rw [z] at e'; cases e'
      | some ms => rw [z] at e'; cases e'; cases (show v = .bl i from h1); rw [asBls_iss h2 z]; rfl
    | _ => cases e
def gSum (ps : List PV) (Q : R → Prop) : Prop := match ps with
  | [.lst ps] => match asInts ps with
    | some ns => Q (.pv (.int ns.sum))
    | none => False
  | _ => False
theorem call_sumP (hc : X.calm = true) : CallP X (.builtin "sum") gSum := by
  refine ⟨_, cr_sum hc, fun H W ps xs Q F m l g f => ?_⟩
  unfold gSum at g
  split at g
  · split at g
    · rename_i ps _ ns e
      obtain ⟨x, rfl, h⟩ := lks1 l
      obtain ⟨a, vs, e1, r, i⟩ := h
      subst e1
      exact ⟨a, ns, rfl, by rw [← asInts_iss i e]; exact .inl (.inl r), fin1 f (p := .int _) rfl g⟩
    · exact g.elim
  · exact g.elim
def maxI : Int → List Int → Int
  | m, [] => m
  | m, n :: ns => maxI (if n > m then n else m) ns
theorem maxI_ge : ∀ (ns : List Int) (m : Int), m ≤ maxI m ns ∧ (∀ n ∈ ns, n ≤ maxI m ns) ∧ (maxI m ns = m ∨ maxI m ns ∈ ns)
  | [], m => ⟨Int.le_refl _, fun n h => by simp at h, .inl rfl⟩
  | n :: ns, m => by
    obtain ⟨h1, h2, h3⟩ := maxI_ge ns (if n > m then n else m)
    unfold maxI
    refine ⟨?_, fun k hk => ?_, ?_⟩
    · split at h1 <;> split <;> omega
    · rcases List.mem_cons.mp hk with rfl | hk
      · split at h1 <;> split <;> omega
      · exact h2 k hk
    · rcases h3 with e | e
      · rw [e]
        split
        · exact .inr List.mem_cons_self
        · exact .inl rfl
      · exact .inr (List.mem_cons_of_mem _ e)
def gMax (ps : List PV) (Q : R → Prop) : Prop := match ps with
  | [.lst ps] => match asInts ps with
    | some (n :: ns) => Q (.pv (.int (maxI n ns)))
    | _ => False
  | _ => False
theorem call_maxP (hc : X.calm = true) : CallP X (.builtin "max") gMax := by
  refine ⟨_, cr_max hc, fun H W ps xs Q F m l g f => ?_⟩
  unfold gMax at g
  split at g
  · split at g
    · rename_i ps _ n ns e
      obtain ⟨x, rfl, h⟩ := lks1 l
      obtain ⟨a, vs, e1, r, i⟩ := h
      subst e1
      refine ⟨a, n :: ns, rfl, by rw [← asInts_iss i e]; exact .inl (.inl r), by simp, fun k hk hm => ?_⟩
      obtain ⟨h1, h2, h3⟩ := maxI_ge ns n
      have ek : k = maxI n ns := by
        have a1 : k ≤ maxI n ns := by
          rcases List.mem_cons.mp hk with rfl | hk
          · exact h1
          · exact h2 k hk
        have a2 : maxI n ns ≤ k := by
          rcases h3 with e | e
          · rw [e]; exact hm n List.mem_cons_self
          · exact hm _ (List.mem_cons_of_mem _ e)
        omega
      rw [ek]
      exact fin1 f (p := .int _) rfl g
    · exact g.elim
  · exact g.elim
def gAll (ps : List PV) (Q : R → Prop) : Prop := match ps with
  | [.lst ps] => match asBls ps with
    | some bs => Q (.pv (.bl (bs.all id)))
    | none => False
  | _ => False
theorem call_allP (hc : X.calm = true) : CallP X (.builtin "all") gAll := by
  refine ⟨_, cr_all hc, fun H W ps xs Q F m l g f => ?_⟩
  unfold gAll at g
  split at g
  · split at g
    · rename_i ps _ ns e
      obtain ⟨x, rfl, h⟩ := lks1 l
      obtain ⟨a, vs, e1, r, i⟩ := h
      subst e1
      exact ⟨a, ns, rfl, by rw [← asBls_iss i e]; exact .inl (.inl r), fin1 f (p := .bl _) rfl g⟩
    · exact g.elim
  · exact g.elim
def gAny (ps : List PV) (Q : R → Prop) : Prop := match ps with
  | [.lst ps] => match asBls ps with
    | some bs => Q (.pv (.bl (bs.any id)))
    | none => False
  | _ => False
theorem call_anyP (hc : X.calm = true) : CallP X (.builtin "any") gAny := by
  refine ⟨_, cr_any hc, fun H W ps xs Q F m l g f => ?_⟩
  unfold gAny at g
  split at g
  · split at g
    · rename_i ps _ ns e
      obtain ⟨x, rfl, h⟩ := lks1 l
      obtain ⟨a, vs, e1, r, i⟩ := h
      subst e1
      exact ⟨a, ns, rfl, by rw [← asBls_iss i e]; exact .inl (.inl r), fin1 f (p := .bl _) rfl g⟩
    · exact g.elim
  · exact g.elim
/-- list(x), tuple(x) -/
def gList : GL
  | [.lst ps], Q => Q (.fr (.lst ps))
  | [.tup ps], Q => Q (.fr (.lst ps))
  | [.scr ns], Q => Q (.fr (.lst (ns.map PV.int)))
  | _, _ => False
theorem call_listP : CallP X (.type "list") gList := by
  refine ⟨_, call_list_of, fun H W ps xs Q F m l g f => ?_⟩
  unfold gList at g
  split at g
  · rename_i ps
    obtain ⟨x, rfl, h⟩ := lks1 l
    obtain ⟨a, vs, e, r, i⟩ := h
    subst e
    exact ⟨a, vs, rfl, .inl (.inl (.inl r)), fun p hp => f _ _ _ (same_new hp) (resLst m i hp) g⟩
  · rename_i ps
    obtain ⟨x, rfl, h⟩ := lks1 l
    obtain ⟨a, vs, e, r, i⟩ : ∃ a vs, x = .ref a ∧ H a = some (.tup vs) ∧ Iss X.K H W ps vs := h
    subst e
    exact ⟨a, vs, rfl, .inr (.inl (.inl r)), fun p hp => f _ _ _ (same_new hp) (resLst m i hp) g⟩
  · rename_i ns
    obtain ⟨x, rfl, h⟩ := lks1 l
    obtain ⟨a, e, r⟩ : ∃ a, x = .ref a ∧ ((∃ o, H a = some (.frz o (.lst (ns.map V.int)))) ∨ KLst X.K a (ns.map V.int)) := h
    subst e
    refine ⟨a, ns.map V.int, rfl, .inl ?_, fun p hp => f _ _ _ (same_new hp) (resLst m (Iss.ints ns) hp) g⟩
    rcases r with ⟨o, r⟩ | r
    · exact .inl (.inr ⟨o, r⟩)
    · exact .inr r
  · exact g.elim
def gTuple : GL
  | [.lst ps], Q => Q (.pv (.tup ps))
  | [.tup ps], Q => Q (.pv (.tup ps))
  | _, _ => False
theorem call_tupleP : CallP X (.type "tuple") gTuple := by
  refine ⟨_, call_tuple_of, fun H W ps xs Q F m l g f => ?_⟩
  unfold gTuple at g
  split at g
  · rename_i ps
    obtain ⟨x, rfl, h⟩ := lks1 l
    obtain ⟨a, vs, e, r, i⟩ := h
    subst e
    exact ⟨a, vs, rfl, .inl ⟨.inl (.inl r), fun p hp => f _ _ _ (same_new hp) (resTup m i hp) g⟩⟩
  · rename_i ps
    obtain ⟨x, rfl, h⟩ := lks1 l
    obtain ⟨a, vs, e, r, i⟩ : ∃ a vs, x = .ref a ∧ H a = some (.tup vs) ∧ Iss X.K H W ps vs := h
    subst e
    exact ⟨a, vs, rfl, .inr ⟨.inl (.inl r), fin1 f (p := .tup ps) ⟨a, vs, rfl, r, i⟩ g⟩⟩
  · exact g.elim
/-- isinstance with one built-in type -/
def tyN : PV → String
  | .non => "NoneType"
  | .bl _ => "bool"
  | .int _ => "int"
  | .str _ => "str"
  | .tup _ => "tuple"
  | .lst _ => "list"
  | .dic _ _ => "dict"
  | .scr _ => ""
  | .ty _ => ""
def isTy (p : PV) (T : String) : Bool := tyN p == T || (tyN p == "bool" && T == "int")
def tyOk (T : String) : Prop := T ∈ ["str", "tuple", "int", "bool", "list", "dict"]
theorem kit_all : ∀ a ∈ ["NoneType", "bool", "int", "str", "tuple", "list", "dict"], ∀ T ∈ ["str", "tuple", "int", "bool", "list", "dict"], kitB a T = some (a == T || (a == "bool" && T == "int")) := by decide +kernel
def gIsi : GL
  | [p, .ty T], Q => (tyN p ≠ "" ∧ tyOk T) ∧ Q (.pv (.bl (isTy p T)))
  | _, _ => False
theorem tyx_of {K : PySem.W.Frag} {H : Hp} {W : Addr → Prop} {p : PV} {x : V} (l : Lk K H W p x) (n : tyN p ≠ "") : TyX K H x (.type (tyN p)) ∧ tyN p ∈ ["NoneType", "bool", "int", "str", "tuple", "list", "dict"] := by
  cases p with
  | non => cases (show x = _ from l); exact ⟨.base .non, by decide⟩
  | bl b => cases (show x = _ from l); exact ⟨.base (.bl b), by simp [tyN]⟩
  | int i => cases (show x = _ from l); exact ⟨.base (.int i), by simp [tyN]⟩
  | str s => obtain ⟨e, _⟩ : x = .str s ∧ sOk s = true := l; subst e; exact ⟨.base (.str s), by simp [tyN]⟩
  | tup ps => obtain ⟨a, vs, e, r, _⟩ : ∃ a vs, x = .ref a ∧ H a = some (.tup vs) ∧ Iss K H W ps vs := l; subst e; exact ⟨.base (.tup r), by simp [tyN]⟩
  | lst ps => obtain ⟨a, vs, e, r, _⟩ := l; subst e; exact ⟨.base (.lst r), by simp [tyN]⟩
  | dic ks ps =>
    obtain ⟨a, vs, e, r, _⟩ := l
    subst e
    rcases r with r | ⟨o, r⟩
    · exact ⟨.base (.dK r), by simp [tyN]⟩
    · exact ⟨.fDict r, by simp [tyN]⟩
  | scr ns => exact absurd rfl n
  | ty s => exact absurd rfl n
theorem call_isiP : CallP X (.builtin "isinstance") gIsi := by
  refine ⟨_, call_isi, fun H W ps xs Q F m l g f => ?_⟩
  unfold gIsi at g
  split at g
  · rename_i p T
    obtain ⟨x, y, rfl, h1, h2⟩ := lks2 l
    cases (show y = .ty T from h2)
    obtain ⟨t, mem⟩ := tyx_of h1 g.1.1
    exact ⟨x, .ty T, _, _, isTy p T, rfl, .ty T, t, kit_ty (kit_all _ mem T g.1.2), fin1 f (p := .bl _) rfl g.2⟩
  · exact g.elim
theorem qe_ty {T : String} {x : Str} {pos : Pos} (hm : X.mg x = none) (hg : Gl X x := by rfl) (hv : bootBuiltins x = some (.type T) := by decide +kernel) (hn : x ≠ "__name__" := by decide) (hd : (x == ("__debug__" : Str)) = false := by decide) : QE X (.Name x pos) (qK (.ty T)) :=
  ⟨_, pe_bltn (v := .ty T) hg hm hv rfl hn hd, rz_c fun _ _ => rfl⟩
/-- {} -/
def qDict0 (ρ : En) (Q : PK1) : Prop := Q (.fr (.dic [] [])) ρ
theorem qe_dict0 {pos : Pos} : QE X (.Dict [] [] pos) qDict0 := by
  refine ⟨_, pe_dnewK, fun G H σ ρ pd Q F R1 h f => ?_⟩
  intro d hd
  exact f _ ρ _ _ (res_of (z := .fr (.dic [] [])) R1 (same_new hd) ⟨d, .dK [], rfl, hd, upd_same, [], rfl, rfl, rfl, rfl⟩) h
end
end Px
namespace Px
open PySem L2 PyProof.Rows

/-- a def that keeps its promise, under its name -/
structure Has (P : Program) (w : World) (K : PySem.W.Frag) (mg : Str → Option Value) (base : Heap) (x : Str) (k : Nat) (ps : List Str) (S : FS) : Prop where
  ex : ∃ f fd, FnOk P w K mg base CX0 k f fd ps (spP K S) ∧ mg x = some (.ref f) ∧ PySem.W.keepIn K (.ref f) = true ∧ Binds K fd ps [] ∧ ∃ (y : Str) (o : Option Addr) (c : Value) (sl : Array (Option Value)), K.lookup f = some ⟨c, o, .func fd, sl⟩
theorem _root_.L2.Fun.at {K : PySem.W.Frag} {x y : Str} {st : Stmt} {f : Addr} {fd : FuncData} (F : Fun K x y st f fd) : ∃ (y : Str) (o : Option Addr) (c : Value) (sl : Array (Option Value)), K.lookup f = some ⟨c, o, .func fd, sl⟩ := by
  obtain ⟨oc, od, kV, doc, pm, an, cdv, ct, osl, e1, l1, _⟩ := F.ex
  exact ⟨x, od, oc, osl, l1⟩
/-- a def as it stands behind the top -/
structure IsDef (K : PySem.W.Frag) (mg : Str → Option Value) (x : Str) (st : Stmt) : Prop where
  ex : ∃ f fd, Fun K x x st f fd ∧ mg x = some (.ref f)
section
variable {P : Program} {w : World} {K : PySem.W.Frag} {mg : Str → Option Value} {base : Heap} {x : Str} {k j : Nat} {ps : List Str} {S S' : FS}
theorem Has.mono (h : Has P w K mg base x k ps S) (l : k ≤ j) : Has P w K mg base x j ps S := by
  obtain ⟨f, fd, F, r⟩ := h.ex
  exact ⟨f, fd, F.mono l, r⟩
/-- no call is allowed -/
theorem has_none {st : Stmt} (d : IsDef K mg x st) (b : ∀ {f : Addr} {fd : FuncData}, Fun K x x st f fd → Binds K fd ps []) (n : ∀ pvs, ¬ S.pre pvs) : Has P w K mg base x 0 ps S := by
  obtain ⟨f, fd, F, m⟩ := d.ex
  have no : ∀ vs H Q E, ¬ spP K S vs H Q E := fun vs H Q E h => by
    obtain ⟨pvs, _, _, _, _, pre, _⟩ := h
    exact n pvs pre
  exact ⟨f, fd, ⟨fun vs H Q E h => absurd h (no vs H Q E), fun A outer s H args us vs Q E _ _ _ _ h => absurd h (no vs H Q E)⟩, m, F.kp, b F, F.at⟩
end
section
variable {X : Cx} {k j : Nat} {x : Str} {ps : List Str} {S : FS} {e : Expr} {es : List Expr} {t : QTA} {p pos : Pos}
theorem qe_callH (h : Has X.prog X.w X.K X.mg X.base x j ps S) (hr : Room j X.A) (ha : QA X (e :: es) t) (hg : Gl X x := by rfl) (hdb : (x == ("__debug__" : Str)) = false := by decide)
    (he : starEach (e :: es) X.env = (false, eval e X.env) :: starEach es X.env := by rfl) (hpl : (backTo pos (starEach es X.env)).any (·.1) = false := by rfl) : QE X (.Call (.Name x p) (e :: es) [] pos) (qCall S t) := by
  obtain ⟨f, fd, F, m, kk, b, _⟩ := h.ex
  exact qe_call F hr m kk b ha hg hdb he hpl
def qNeg (t : QT) (ρ : En) (Q : PK1) : Prop := t ρ fun r ρ1 => match r with
  | .pv (.int i) => Q (.pv (.int (-i))) ρ1
  | _ => False
theorem qe_neg {a : Expr} {ta : QT} (ha : QE X a ta) : QE X (.UnaryOp .USub a pos) (qNeg ta) := by
  obtain ⟨t1, p1, q1⟩ := ha.ex
  refine ⟨_, pe_un un_neg p1, fun G H σ ρ pd Q F R1 h f => q1 G H σ ρ pd _ _ R1 h fun r ρ' v H' s g => ?_⟩
  cases r with
  | pv p =>
    cases p with
    | int i =>
      have e : v = .int i := s.pd (.int i, v) List.mem_cons_self
      subst e
      exact ⟨i, rfl, f (.pv (.int (-i))) ρ' _ H' (s.re.push rfl) g⟩
    | _ => exact g.elim
  | _ => exact g.elim
theorem room64 {k : Nat} {A : Around} (hr : Room k A) : A.units + 64 < cLine := by have := hr.un; omega
theorem room65 {k : Nat} {A : Around} (hr : Room k A) : A.units + 65 < cLine := by have := hr.un; omega
end

/-- a def's data from its place -/
theorem same_fd {P : Program} {w : World} {K : PySem.W.Frag} {mg : Str → Option Value} {base : Heap} {CX : CXT} {x y : Str} {st : Stmt} {f : Addr} {fd fd' : FuncData} {k : Nat} {ps : List Str} {sp : Sp} (h : Fun K x y st f fd) (F : FnOk P w K mg base CX k f fd' ps sp)
    (h' : ∃ (y : Str) (o : Option Addr) (c : Value) (sl : Array (Option Value)), K.lookup f = some ⟨c, o, .func fd', sl⟩) : FnOk P w K mg base CX k f fd ps sp := by
  obtain ⟨oc, od, kV, doc, pm, an, cdv, ct, osl, e1, l1, _⟩ := h.ex
  obtain ⟨_, _, _, _, l2⟩ := h'
  rw [l1] at l2
  cases l2
  exact F

/-! ### the law -/
def sLaw : FS := { io := [false], pre := fun ps => ∃ ns : List Int, ps = [.scr ns] ∧ ns.length ≤ 63, post := fun _ r _ => r = .bl true }
theorem law_sp {K : PySem.W.Frag} {H : Hp} {a : Addr} {ns : List Int} {E : XK} (hl : ns.length ≤ 63) (ho : Only H) (hs : SqL K H a (ns.map V.int)) : spP K sLaw [.ref a] H (fun v _ => v = .bl true) E := by
  have hi : (∃ o, H a = some (.frz o (.lst (ns.map V.int)))) ∨ KLst K a (ns.map V.int) := by
    rcases hs with (h | ⟨o, h⟩) | h
    · rcases ho a with z | ⟨o, xs, z⟩
      · rw [z] at h; cases h
      · rw [z] at h; cases h
    · exact .inl ⟨o, h⟩
    · exact .inr h
  have nio : ∀ b, ¬ Iob [false] [V.ref a] b := fun b ⟨i, e, _⟩ => by
    cases i with
    | zero => simp at e
    | succ i => simp at e
  have nown : ∀ (i : Nat) (b : Bool) (p : PV), (mk [false] [PV.scr ns])[i]? ≠ some (Sl.own b p) := fun i b p e => by
    obtain ⟨e1, _, _⟩ := mk_own e
    cases i with
    | zero => simp at e1
    | succ i => simp at e1
  refine ⟨[.scr ns], fun _ => False, rfl, rfl, ⟨rfl, fun i p e => ?_, fun i b p e => absurd e (nown i b p), fun i j b c p q d e1 => absurd e1 (nown i b p), fun i b h => ?_, fun b o e => (G0_of e).2, fun b h => h.elim, fun x hx => by simp at hx⟩, ⟨ns, rfl, hl⟩, fun v H' r outs hp _ fin => ?_⟩
  · obtain ⟨e1, e2⟩ := mk_val e
    cases i with
    | zero => cases e2; exact ⟨.ref a, rfl, a, rfl, hi⟩
    | succ i => simp at e2
  · cases i with
    | zero => have := h.1; simp [sLaw] at this
    | succ i => have := h.1; simp [sLaw] at this
  · have hp' : r = .bl true := hp
    subst hp'
    exact fin.res rfl
end Px
namespace Px
open PySem L2 PyProof.Rows

/-! ### facts for readings -/
theorem eqOk_str (s : Str) : eqOk (.str s) := ⟨rfl, Nat.zero_le _⟩
theorem eqOk_int (i : Int) : eqOk (.int i) := ⟨rfl, Nat.zero_le _⟩
theorem eqOk_bl (b : Bool) : eqOk (.bl b) := ⟨rfl, Nat.zero_le _⟩
theorem eqOk_non : eqOk .non := ⟨rfl, Nat.zero_le _⟩
theorem peq_str (a b : Str) : peq (.str a) (.str b) = (a == b) := rfl
theorem peq_int (a b : Int) : peq (.int a) (.int b) = (a == b) := rfl
theorem peq_bl (a b : Bool) : peq (.bl a) (.bl b) = (a == b) := rfl
theorem peq_tup (a b : List PV) : peq (.tup a) (.tup b) = peqs a b := rfl
theorem peq_lst (a b : List PV) : peq (.lst a) (.lst b) = peqs a b := rfl
theorem peqs_nil : peqs [] [] = true := rfl
theorem peqs_cons (a b : PV) (as bs : List PV) : peqs (a :: as) (b :: bs) = (peq a b && peqs as bs) := rfl
theorem peqs_nc (a : PV) (as : List PV) : peqs [] (a :: as) = false := rfl
theorem peqs_cn (a : PV) (as : List PV) : peqs (a :: as) [] = false := rfl
theorem forGo_nil {g : QTG} {body : QTS} {D : PEnds} {ρ : En} : forGo g body D [] ρ = D.nx ρ := rfl
theorem forGo_cons {g : QTG} {body : QTS} {D : PEnds} {p : PV} {ps : List PV} {ρ : En} : forGo g body D (p :: ps) ρ = g p ρ fun ρ1 => body { nx := fun ρ2 => forGo g body D ps ρ2, rt := D.rt, bk := D.nx, ct := fun ρ2 => forGo g body D ps ρ2 } ρ1 := rfl
theorem lcGo_nil {g : QTG} {tt : QTT} {te : QT} {vs : List Nat} {Q : List PV → En → Prop} {acc : List PV} {ρ : En} : lcGo g tt te vs Q [] acc ρ = Q acc ρ := rfl
theorem notIos_nil {ρ : En} : notIos ρ [] = True := by simp [notIos]
theorem notIos_cons {ρ : En} {v : Nat} {vs : List Nat} : notIos ρ (v :: vs) = (notIo ρ v = true ∧ notIos ρ vs) := by simp [notIos]
theorem getP_of {ps : List PV} {i : Int} {p : PV} {Q : R → Prop} (h : atI ps i = some p) (q : Q (.pv p)) : getP ps i Q := by unfold getP; rw [h]; exact q
theorem atI_0 {α : Type} {x : α} {xs : List α} : atI (x :: xs) 0 = some x := atI_nat (j := 0) rfl
theorem atI_1 {α : Type} {x y : α} {xs : List α} : atI (x :: y :: xs) 1 = some y := atI_nat (j := 1) rfl
theorem atI_2 {α : Type} {x y z : α} {xs : List α} : atI (x :: y :: z :: xs) 2 = some z := atI_nat (j := 2) rfl
theorem atI_3 {α : Type} {x y z u : α} {xs : List α} : atI (x :: y :: z :: u :: xs) 3 = some u := atI_nat (j := 3) rfl
theorem atI_in {α : Type} {xs : List α} {i : Int} (h0 : 0 ≤ i) (h : i < (xs.length : Int)) : ∃ x, atI xs i = some x ∧ x ∈ xs := by
  have l : i.toNat < xs.length := by omega
  have e : i = ((i.toNat : Nat) : Int) := by omega
  refine ⟨xs[i.toNat], ?_, List.getElem_mem l⟩
  have z : atI xs ((i.toNat : Nat) : Int) = some xs[i.toNat] := atI_nat (List.getElem?_eq_getElem l)
  rw [← e] at z
  exact z
theorem ixN_of {n : Nat} {k : Nat} (h : k < n) : ixN n (k : Int) = some k := by unfold ixN; simp; omega
theorem ixN_0 {m : Nat} : ixN (m + 1) 0 = some 0 := ixN_of (k := 0) (by omega)
theorem ixN_1 {m : Nat} : ixN (m + 2) 1 = some 1 := ixN_of (k := 1) (by omega)
theorem ixN_2 {m : Nat} : ixN (m + 3) 2 = some 2 := ixN_of (k := 2) (by omega)
theorem ixN_3 {m : Nat} : ixN (m + 4) 3 = some 3 := ixN_of (k := 3) (by omega)
theorem cmul_r {i : Int} {j : Int} (h : -(2 ^ 64) < j ∧ j < 2 ^ 64) : CMul i j := .inr h
theorem atI_int {ns : List Int} {i : Int} (h0 : 0 ≤ i) (h : i < (ns.length : Int)) : ∃ x, atI (ns.map PV.int) i = some (PV.int x) := by
  obtain ⟨x, e, m⟩ := atI_in (xs := ns.map PV.int) h0 (by rw [List.length_map]; exact h)
  obtain ⟨y, _, rfl⟩ := List.mem_map.mp m
  exact ⟨y, e⟩
theorem cut_from1 {α : Type} (x : α) (xs : List α) : cutP (x :: xs) (some 1) none = xs := by
  unfold cutP
  have e1 : HT.sIx (x :: xs).length 0 (some 1) = 1 := by
    rw [show (1 : Int) = ((1 : Nat) : Int) from rfl, HT.sIx_nat]; simp
  have e2 : HT.sIx (x :: xs).length (x :: xs).length none = (x :: xs).length := rfl
  rw [e1, e2]
  simp
theorem lcGo_cons {g : QTG} {tt : QTT} {te : QT} {vs : List Nat} {Q : List PV → En → Prop} {p : PV} {ps acc : List PV} {ρ : En} : lcGo g tt te vs Q (p :: ps) acc ρ = g p ρ fun ρ1 => tt ρ1 fun b ρ2 => Br b (te ρ2 fun r ρ3 => match r.wk with
      | .pv q => small (acc.length + 1) ∧ notIos ρ3 vs ∧ lcGo g tt te vs Q ps (acc ++ [q]) (wipeE ρ3 vs)
      | _ => False) (notIos ρ2 vs ∧ lcGo g tt te vs Q ps acc (wipeE ρ2 vs)) := rfl
/-- a comprehension, by what holds ahead of the rest; N stands for what follows the rest -/
theorem lc_ind {g : QTG} {tt : QTT} {te : QT} {vs : List Nat} {Q : List PV → En → Prop} (I : List PV → List PV → En → Prop) (hn : ∀ acc ρ, I [] acc ρ → Q acc ρ)
    (hc : ∀ p ps acc ρ, I (p :: ps) acc ρ → ∀ N : List PV → En → Prop, (∀ acc' ρ', I ps acc' ρ' → N acc' ρ') → g p ρ fun ρ1 => tt ρ1 fun b ρ2 => Br b (te ρ2 fun r ρ3 => match r.wk with
      | .pv q => small (acc.length + 1) ∧ notIos ρ3 vs ∧ N (acc ++ [q]) (wipeE ρ3 vs)
      | _ => False) (notIos ρ2 vs ∧ N acc (wipeE ρ2 vs))) : ∀ ps acc ρ, I ps acc ρ → lcGo g tt te vs Q ps acc ρ
  | [], acc, ρ, h => hn acc ρ h
  | p :: ps, acc, ρ, h => hc p ps acc ρ h (lcGo g tt te vs Q ps) fun acc' ρ' h' => lc_ind I hn hc ps acc' ρ' h'
theorem tyOk_str : tyOk "str" := by unfold tyOk; decide
theorem tyOk_tuple : tyOk "tuple" := by unfold tyOk; decide
theorem tyOk_int : tyOk "int" := by unfold tyOk; decide
theorem tyOk_bool : tyOk "bool" := by unfold tyOk; decide
theorem tyOk_list : tyOk "list" := by unfold tyOk; decide
theorem tyOk_dict : tyOk "dict" := by unfold tyOk; decide
/-- a slot that the def may store to -/
def Pl (s : Sl) : Prop := s = .un ∨ ∃ p, s = .val p
theorem pl_un : Pl .un := .inl rfl
theorem pl_val {p : PV} : Pl (.val p) := .inr ⟨p, rfl⟩
/-- the items of a list or a tuple -/
def items : PV → List PV
  | .lst qs => qs
  | .tup qs => qs
  | _ => []
def isRow : PV → Prop
  | .lst _ => True
  | .tup _ => True
  | _ => False
theorem call_i {S : FS} {rs : List R} {ρ : En} {Q : PK1} {ps : List PV} {js : List Nat} {dm : Dum Q} (h : splitArgs ρ S.io rs = some (ps, js)) (nd : js.Nodup) (pre : S.pre ps) (k : ∀ r outs, S.post ps r outs → outs.length = js.length → Q (if S.fr = true then .fr r else .pv r) (putOuts js outs ρ)) : callR S rs ρ Q dm := by
  unfold callR
  rw [h]
  exact ⟨nd, pre, k⟩
/-- .. nothing handed on to be changed -/
theorem call_p {S : FS} {rs : List R} {ρ : En} {Q : PK1} {ps : List PV} {dm : Dum Q} (h : splitArgs ρ S.io rs = some (ps, [])) (hf : S.fr = false) (pre : S.pre ps) (k : ∀ r, S.post ps r [] → Q (.pv r) ρ) : callR S rs ρ Q dm :=
  call_i h List.nodup_nil pre fun r outs hp l => by
    have e : outs = [] := List.length_eq_zero_iff.mp l
    subst e
    rw [hf]
    exact k r hp
/-- .. one thing -/
theorem call_1 {S : FS} {rs : List R} {ρ : En} {Q : PK1} {ps : List PV} {j : Nat} {dm : Dum Q} (h : splitArgs ρ S.io rs = some (ps, [j])) (hf : S.fr = false) (pre : S.pre ps) (k : ∀ r d, S.post ps r [d] → Q (.pv r) (setOwn ρ j d)) : callR S rs ρ Q dm :=
  call_i h (List.nodup_cons.mpr ⟨by simp, List.nodup_nil⟩) pre fun r outs hp l => by
    obtain ⟨d, rfl⟩ := List.length_eq_one_iff.mp l
    rw [hf]
    exact k r d hp
theorem lcR_i {g : QTG} {tt : QTT} {te : QT} {vs : List Nat} {ps : List PV} {ρ : En} {Q : PK1} {dm : Dum Q} (h : lcGo g tt te vs (fun acc ρ' => Q (.fr (.lst acc)) ρ') ps [] ρ) : lcR g tt te vs ps ρ Q dm := h
theorem while_i {c : QTT} {body : QTS} {D : PEnds} {ρ : En} (I : Nat → En → Prop) (m : Nat) (h0 : I m ρ) (h : ∀ m ρ, I m ρ → c ρ fun b ρ1 => Br b (body { nx := fun ρ' => ∃ m', m' < m ∧ I m' ρ', rt := D.rt, bk := D.nx, ct := fun ρ' => ∃ m', m' < m ∧ I m' ρ' } ρ1) (D.nx ρ1)) : qWhile c body D ρ := ⟨I, ⟨m, h0⟩, h⟩
/-- a loop, by what holds ahead of the rest; N stands for what follows the rest -/
theorem for_ind {g : QTG} {body : QTS} {D : PEnds} (I : List PV → En → Prop) (hn : ∀ ρ, I [] ρ → D.nx ρ)
    (hc : ∀ p ps ρ, I (p :: ps) ρ → ∀ N : En → Prop, (∀ ρ', I ps ρ' → N ρ') → g p ρ fun ρ1 => body { nx := N, rt := D.rt, bk := D.nx, ct := N } ρ1) : ∀ ps ρ, I ps ρ → forGo g body D ps ρ
  | [], ρ, h => hn ρ h
  | p :: ps, ρ, h => hc p ps ρ h (forGo g body D ps) fun ρ' h' => for_ind I hn hc ps ρ' h'
end Px
set_option maxHeartbeats 4000000
namespace Lw
open PySem L2 PyProof.Rows Px
def topS (i : Nat) : Stmt := PySem.Challenge.pw_exactkinds_k01_terms_and_trees.main.body.getD i (.Pass ⟨0, 0, 0, 0⟩)
abbrev s_parts_of : Stmt := topS 1
abbrev s_is_term : Stmt := topS 2
abbrev s_is_tree : Stmt := topS 3
abbrev s_size : Stmt := topS 4
abbrev s_depth : Stmt := topS 5
abbrev s_names_of : Stmt := topS 6
abbrev s__law_draws : Stmt := topS 8
abbrev s__law_draw : Stmt := topS 9
abbrev s__law_pick : Stmt := topS 10
abbrev s__law_makers : Stmt := topS 11
abbrev s__law_term : Stmt := topS 12
abbrev s__law_odd : Stmt := topS 13
abbrev s__law_bent : Stmt := topS 14
abbrev s__law_is_term : Stmt := topS 15
abbrev s__law_names : Stmt := topS 16
abbrev s__law_size : Stmt := topS 17
abbrev s__law_depth : Stmt := topS 18
abbrev s__law_told : Stmt := topS 19
abbrev s_law : Stmt := topS 20
/-- what the top leaves -/
structure Txt (K : PySem.W.Frag) (mg : Str → Option Value) : Prop where
  d_parts_of : IsDef K mg "parts_of" s_parts_of
  d_is_term : IsDef K mg "is_term" s_is_term
  d_is_tree : IsDef K mg "is_tree" s_is_tree
  d_size : IsDef K mg "size" s_size
  d_depth : IsDef K mg "depth" s_depth
  d_names_of : IsDef K mg "names_of" s_names_of
  d__law_draws : IsDef K mg "_law_draws" s__law_draws
  d__law_draw : IsDef K mg "_law_draw" s__law_draw
  d__law_pick : IsDef K mg "_law_pick" s__law_pick
  d__law_makers : IsDef K mg "_law_makers" s__law_makers
  d__law_term : IsDef K mg "_law_term" s__law_term
  d__law_odd : IsDef K mg "_law_odd" s__law_odd
  d__law_bent : IsDef K mg "_law_bent" s__law_bent
  d__law_is_term : IsDef K mg "_law_is_term" s__law_is_term
  d__law_names : IsDef K mg "_law_names" s__law_names
  d__law_size : IsDef K mg "_law_size" s__law_size
  d__law_depth : IsDef K mg "_law_depth" s__law_depth
  d__law_told : IsDef K mg "_law_told" s__law_told
  d_law : IsDef K mg "law" s_law
  z_isinstance : mg "isinstance" = none
  z_str : mg "str" = none
  z_len : mg "len" = none
  z_tuple : mg "tuple" = none
  z_sum : mg "sum" = none
  z_max : mg "max" = none
  z_list : mg "list" = none
  z_abs : mg "abs" = none
  z_int : mg "int" = none
  z_range : mg "range" = none
  z_all : mg "all" = none
  z_bool : mg "bool" = none
/-! parts_of(makers, word) -/
abbrev N_parts_of : List Str := ["makers", "word", "name", "parts"]
theorem sc_parts_of : FnScope N_parts_of ["makers", "word"] (defScope s_parts_of) := ⟨rfl, rfl, rfl, by decide +kernel, rfl, by decide +kernel, by decide +kernel⟩
def rd_parts_of : QTS := (qSeq (qFor (qIt (qVar 0)) (qgT 2 (qgCons (qgN 2) (qgCons (qgN 3) qgNil))) (qIf (qB (qOp2 gEq (qVar 2) (qVar 1))) (qRet (qVar 3)) qNext))
  (qRet (qNeg (qK (.int 1)))))
theorem dv_parts_of {P : Program} {w : World} {K : PySem.W.Frag} {mg : Str → Option Value} {base : Heap} {k : Nat} (T : Txt K mg) (S : FS) (lp : S.io.length = 2)
    (rd : ∀ pvs : List PV, pvs.length = S.io.length → S.pre pvs → rd_parts_of (endsOf S pvs) (mk S.io pvs ++ uns 2)) : Has P w K mg base "parts_of" (k + 1) ["makers", "word"] S := by
  obtain ⟨f, fd, F, m⟩ := T.d_parts_of.ex
  refine ⟨f, fd, fn_p F sc_parts_of lp (t := rd_parts_of) (fun cdv A outer s H E hr => ?_) rd, m, F.kp, F.binds (ps := ["makers", "word"]) fun _ _ _ _ _ _ us hl => match us, hl with | [_, _], _ => rfl, F.at⟩
  exact (qss_cons (qs_for PassesOwn.never rfl (qi_seq (qv 0)) (qg_tup rfl (qgs_cons (qg_name 2 sc_parts_of.nd) (qgs_cons (qg_name 3 sc_parts_of.nd) qgs_nil))) (qss_one (qs_if (qc_cmp (op_eqP (room64 hr)) (qv 2) (qv 1)) (qss_one (qs_ret (qv 3))) qss_nil)))
  (qss_one (qs_ret (qe_neg qe_int))))

/-! is_term(makers, value)   owned: waiting -/
abbrev N_is_term : List Str := ["makers", "value", "waiting", "one"]
theorem sc_is_term : FnScope N_is_term ["makers", "value"] (defScope s_is_term) := ⟨rfl, rfl, rfl, by decide +kernel, rfl, by decide +kernel, by decide +kernel⟩
def rd_is_term (q_parts_of : FS) : QTS := (qSeq (qOwn 2 (qLst (qCons (qVar 1) qNil)))
  (qSeq (qWhile (qTru (qVar 2)) (qSeq (qSet 3 (qMut "list" 2 gPop qNil))
  (qIf (qTru (qCB gIsi (qCons (qVar 3) (qCons (qK (.ty "str")) qNil)))) (qIf (qB (qOp2 gGe (qCall q_parts_of (qCons (qVar 0) (qCons (qVar 3) qNil))) (qK (.int 0)))) (qRet (qK (.bl false))) qNext) (qIf (qOr (qNot (qTru (qCB gIsi (qCons (qVar 3) (qCons (qK (.ty "tuple")) qNil))))) (qOr (qB (qOp2 gEq (qCB gLen (qCons (qVar 3) qNil)) (qK (.int 0)))) (qNot (qTru (qCB gIsi (qCons (qOp2 gIx (qVar 3) (qK (.int 0))) (qCons (qK (.ty "str")) qNil))))))) (qRet (qK (.bl false))) (qIf (qB (qOp2 gNe (qCall q_parts_of (qCons (qVar 0) (qCons (qOp2 gIx (qVar 3) (qK (.int 0))) qNil))) (qOp2 gSub (qCB gLen (qCons (qVar 3) qNil)) (qK (.int 1))))) (qRet (qK (.bl false))) (qDrop (qMut "list" 2 gExtend (qCons (qSl gSl (qVar 3) (qPart (qK (.int 1))) qNo) qNil))))))))
  (qRet (qK (.bl true)))))
theorem dv_is_term {P : Program} {w : World} {K : PySem.W.Frag} {mg : Str → Option Value} {base : Heap} {k : Nat} {q_parts_of : FS} (T : Txt K mg) (h_parts_of : Has P w K mg base "parts_of" k ["makers", "word"] q_parts_of) (S : FS) (lp : S.io.length = 2)
    (rd : ∀ pvs : List PV, pvs.length = S.io.length → S.pre pvs → rd_is_term q_parts_of (endsOf S pvs) (mk S.io pvs ++ uns 2)) : Has P w K mg base "is_term" (k + 1) ["makers", "value"] S := by
  obtain ⟨f, fd, F, m⟩ := T.d_is_term.ex
  refine ⟨f, fd, fn_p F sc_is_term lp (t := rd_is_term q_parts_of) (fun cdv A outer s H E hr => ?_) rd, m, F.kp, F.binds (ps := ["makers", "value"]) fun _ _ _ _ _ _ us hl => match us, hl with | [_, _], _ => rfl, F.at⟩
  exact (qss_cons (qs_own 2 sc_is_term.nd (qe_lst (qa_cons (qv 1) qa_nil)))
  (qss_cons (qs_while PassesOwn.never (qc_tru (qv 2)) (qss_cons (qs_set 3 sc_is_term.nd (qe_mut0 2 m_pop PySem.F.plainAttrs_list PySem.F.slot_list_pop PySem.F.type_list_pop))
  (qss_one (qs_if (qc_tru (qe_callB call_isiP T.z_isinstance (qa_cons (qv 3) (qa_cons (qe_ty T.z_str) qa_nil)))) (qss_one (qs_if (qc_cmp op_geP (qe_callH h_parts_of hr (qa_cons (qv 0) (qa_cons (qv 3) qa_nil))) qe_int) (qss_one (qs_ret qe_bl)) qss_nil)) (qss_one (qs_if (qw_or (qc_not (qc_tru (qe_callB call_isiP T.z_isinstance (qa_cons (qv 3) (qa_cons (qe_ty T.z_tuple) qa_nil))))) (qw_or (qc_cmp (op_eqP (room64 hr)) (qe_callB call_lenP T.z_len (qa_cons (qv 3) qa_nil)) qe_int) (qw_or1 (qc_not (qc_tru (qe_callB call_isiP T.z_isinstance (qa_cons (qe_ix ix_P (qv 3) qe_int) (qa_cons (qe_ty T.z_str) qa_nil)))))))).qc (qss_one (qs_ret qe_bl)) (qss_one (qs_if (qc_cmp (op_neP (room64 hr)) (qe_callH h_parts_of hr (qa_cons (qv 0) (qa_cons (qe_ix ix_P (qv 3) qe_int) qa_nil))) (qe_op op_subP (qe_callB call_lenP T.z_len (qa_cons (qv 3) qa_nil)) qe_int)) (qss_one (qs_ret qe_bl)) (qss_one (qs_expr (qe_mut 2 m_extend PySem.F.plainAttrs_list PySem.F.slot_list_extend PySem.F.type_list_extend (qa_cons (qe_slice sl_seq (qv 3) (qo_some qe_int) qo_none) qa_nil))))))))))))
  (qss_one (qs_ret qe_bl))))

/-! is_tree(makers, value) -/
abbrev N_is_tree : List Str := ["makers", "value"]
theorem sc_is_tree : FnScope N_is_tree ["makers", "value"] (defScope s_is_tree) := ⟨rfl, rfl, rfl, by decide +kernel, rfl, by decide +kernel, by decide +kernel⟩
def rd_is_tree (q_names_of q_is_term : FS) : QTS := (qRet (qAndV (qCall q_is_term (qCons (qVar 0) (qCons (qVar 1) qNil))) (qOp2 gEq (qCall q_names_of (qCons (qVar 1) qNil)) (qLst qNil))))
theorem dv_is_tree {P : Program} {w : World} {K : PySem.W.Frag} {mg : Str → Option Value} {base : Heap} {k : Nat} {q_names_of q_is_term : FS} (T : Txt K mg) (h_names_of : Has P w K mg base "names_of" k ["term"] q_names_of) (h_is_term : Has P w K mg base "is_term" k ["makers", "value"] q_is_term) (S : FS) (lp : S.io.length = 2)
    (rd : ∀ pvs : List PV, pvs.length = S.io.length → S.pre pvs → rd_is_tree q_names_of q_is_term (endsOf S pvs) (mk S.io pvs ++ uns 0)) : Has P w K mg base "is_tree" (k + 1) ["makers", "value"] S := by
  obtain ⟨f, fd, F, m⟩ := T.d_is_tree.ex
  refine ⟨f, fd, fn_p F sc_is_tree lp (t := rd_is_tree q_names_of q_is_term) (fun cdv A outer s H E hr => ?_) rd, m, F.kp, F.binds (ps := ["makers", "value"]) fun _ _ _ _ _ _ us hl => match us, hl with | [_, _], _ => rfl, F.at⟩
  exact (qss_one (qs_ret (qe_and (qe_callH h_is_term hr (qa_cons (qv 0) (qa_cons (qv 1) qa_nil))) (qe_one (qe_cmp (op_eqP (room64 hr)) (qe_callH h_names_of hr (qa_cons (qv 1) qa_nil)) (qe_lst qa_nil))))))

/-! size(term) -/
abbrev N_size : List Str := ["term", "part"]
theorem sc_size : FnScope N_size ["term"] (defScope s_size) := ⟨rfl, rfl, rfl, by decide +kernel, rfl, by decide +kernel, by decide +kernel⟩
def rd_size (q_size : FS) : QTS := (qSeq (qIf (qTru (qCB gIsi (qCons (qVar 0) (qCons (qK (.ty "str")) qNil)))) (qRet (qK (.int 1))) qNext)
  (qRet (qOp2 gAdd (qK (.int 1)) (qCB gSum (qCons (qLc (qIt (qSl gSl (qVar 0) (qPart (qK (.int 1))) qNo)) (qgN 1) qYes (qCall q_size (qCons (qVar 1) qNil)) [1]) qNil)))))
theorem dv_size {P : Program} {w : World} {K : PySem.W.Frag} {mg : Str → Option Value} {base : Heap} {k : Nat} {q_size : FS} (T : Txt K mg) (h_size : Has P w K mg base "size" k ["term"] q_size) (S : FS) (lp : S.io.length = 1)
    (rd : ∀ pvs : List PV, pvs.length = S.io.length → S.pre pvs → rd_size q_size (endsOf S pvs) (mk S.io pvs ++ uns 1)) : Has P w K mg base "size" (k + 1) ["term"] S := by
  obtain ⟨f, fd, F, m⟩ := T.d_size.ex
  refine ⟨f, fd, fn_p F sc_size lp (t := rd_size q_size) (fun cdv A outer s H E hr => ?_) rd, m, F.kp, F.binds (ps := ["term"]) fun _ _ _ _ _ _ us hl => match us, hl with | [_], _ => rfl, F.at⟩
  exact (qss_cons (qs_if (qc_tru (qe_callB call_isiP T.z_isinstance (qa_cons (qv 0) (qa_cons (qe_ty T.z_str) qa_nil)))) (qss_one (qs_ret qe_int)) qss_nil)
  (qss_one (qs_ret (qe_op op_addP qe_int (qe_callB (call_sumP rfl) T.z_sum (qa_cons (qe_lc rfl sc_size.nd (blkOk_by (N := N_size) (sc := defScope s_size) (own := [("part", 1)]) (by decide +kernel)) (qi_seq (qe_slice sl_seq (qv 0) (qo_some qe_int) qo_none)) (fun _ => (qg_name 1 sc_size.nd)) (fun _ => qcs_nil) (fun _ => (qe_callH h_size hr (qa_cons (qv 1) qa_nil)))) qa_nil))))))

/-! depth(term) -/
abbrev N_depth : List Str := ["term", "part"]
theorem sc_depth : FnScope N_depth ["term"] (defScope s_depth) := ⟨rfl, rfl, rfl, by decide +kernel, rfl, by decide +kernel, by decide +kernel⟩
def rd_depth (q_depth : FS) : QTS := (qSeq (qIf (qTru (qCB gIsi (qCons (qVar 0) (qCons (qK (.ty "str")) qNil)))) (qRet (qK (.int 1))) qNext)
  (qRet (qOp2 gAdd (qK (.int 1)) (qCB gMax (qCons (qOp2 gAdd (qLst (qCons (qK (.int 0)) qNil)) (qLc (qIt (qSl gSl (qVar 0) (qPart (qK (.int 1))) qNo)) (qgN 1) qYes (qCall q_depth (qCons (qVar 1) qNil)) [1])) qNil)))))
theorem dv_depth {P : Program} {w : World} {K : PySem.W.Frag} {mg : Str → Option Value} {base : Heap} {k : Nat} {q_depth : FS} (T : Txt K mg) (h_depth : Has P w K mg base "depth" k ["term"] q_depth) (S : FS) (lp : S.io.length = 1)
    (rd : ∀ pvs : List PV, pvs.length = S.io.length → S.pre pvs → rd_depth q_depth (endsOf S pvs) (mk S.io pvs ++ uns 1)) : Has P w K mg base "depth" (k + 1) ["term"] S := by
  obtain ⟨f, fd, F, m⟩ := T.d_depth.ex
  refine ⟨f, fd, fn_p F sc_depth lp (t := rd_depth q_depth) (fun cdv A outer s H E hr => ?_) rd, m, F.kp, F.binds (ps := ["term"]) fun _ _ _ _ _ _ us hl => match us, hl with | [_], _ => rfl, F.at⟩
  exact (qss_cons (qs_if (qc_tru (qe_callB call_isiP T.z_isinstance (qa_cons (qv 0) (qa_cons (qe_ty T.z_str) qa_nil)))) (qss_one (qs_ret qe_int)) qss_nil)
  (qss_one (qs_ret (qe_op op_addP qe_int (qe_callB (call_maxP rfl) T.z_max (qa_cons (qe_op op_addP (qe_lst (qa_cons qe_int qa_nil)) (qe_lc rfl sc_depth.nd (blkOk_by (N := N_depth) (sc := defScope s_depth) (own := [("part", 1)]) (by decide +kernel)) (qi_seq (qe_slice sl_seq (qv 0) (qo_some qe_int) qo_none)) (fun _ => (qg_name 1 sc_depth.nd)) (fun _ => qcs_nil) (fun _ => (qe_callH h_depth hr (qa_cons (qv 1) qa_nil))))) qa_nil))))))

/-! names_of(term)   owned: found -/
abbrev N_names_of : List Str := ["term", "found", "part", "name"]
theorem sc_names_of : FnScope N_names_of ["term"] (defScope s_names_of) := ⟨rfl, rfl, rfl, by decide +kernel, rfl, by decide +kernel, by decide +kernel⟩
def rd_names_of (q_names_of : FS) : QTS := (qSeq (qIf (qTru (qCB gIsi (qCons (qVar 0) (qCons (qK (.ty "str")) qNil)))) (qRet (qLst (qCons (qVar 0) qNil))) qNext)
  (qSeq (qOwn 1 (qLst qNil))
  (qSeq (qFor (qIt (qSl gSl (qVar 0) (qPart (qK (.int 1))) qNo)) (qgN 2) (qDrop (qMut "list" 1 gExtend (qCons (qLc (qIt (qCall q_names_of (qCons (qVar 2) qNil))) (qgN 3) (qB (qOp2 gNotIn (qVar 3) (qVar 1))) (qVar 3) [3]) qNil))))
  (qRet (qVar 1)))))
theorem dv_names_of {P : Program} {w : World} {K : PySem.W.Frag} {mg : Str → Option Value} {base : Heap} {k : Nat} {q_names_of : FS} (T : Txt K mg) (h_names_of : Has P w K mg base "names_of" k ["term"] q_names_of) (S : FS) (lp : S.io.length = 1)
    (rd : ∀ pvs : List PV, pvs.length = S.io.length → S.pre pvs → rd_names_of q_names_of (endsOf S pvs) (mk S.io pvs ++ uns 3)) : Has P w K mg base "names_of" (k + 1) ["term"] S := by
  obtain ⟨f, fd, F, m⟩ := T.d_names_of.ex
  refine ⟨f, fd, fn_p F sc_names_of lp (t := rd_names_of q_names_of) (fun cdv A outer s H E hr => ?_) rd, m, F.kp, F.binds (ps := ["term"]) fun _ _ _ _ _ _ us hl => match us, hl with | [_], _ => rfl, F.at⟩
  exact (qss_cons (qs_if (qc_tru (qe_callB call_isiP T.z_isinstance (qa_cons (qv 0) (qa_cons (qe_ty T.z_str) qa_nil)))) (qss_one (qs_ret (qe_lst (qa_cons (qv 0) qa_nil)))) qss_nil)
  (qss_cons (qs_own 1 sc_names_of.nd (qe_lst qa_nil))
  (qss_cons (qs_for PassesOwn.never rfl (qi_seq (qe_slice sl_seq (qv 0) (qo_some qe_int) qo_none)) (qg_name 2 sc_names_of.nd) (qss_one (qs_expr (qe_mut 1 m_extend PySem.F.plainAttrs_list PySem.F.slot_list_extend PySem.F.type_list_extend (qa_cons (qe_lc rfl sc_names_of.nd (blkOk_by (N := N_names_of) (sc := defScope s_names_of) (own := [("name", 3)]) (by decide +kernel)) (qi_seq (qe_callH h_names_of hr (qa_cons (qv 2) qa_nil))) (fun _ => (qg_name 3 sc_names_of.nd)) (fun _ => (qcs_one (qc_cmp (op_notInP (room65 hr)) (qv 3) (qv 1)))) (fun _ => (qv 3))) qa_nil)))))
  (qss_one (qs_ret (qv 1))))))

/-! _law_draws(script) -/
abbrev N__law_draws : List Str := ["script"]
theorem sc__law_draws : FnScope N__law_draws ["script"] (defScope s__law_draws) := ⟨rfl, rfl, rfl, by decide +kernel, rfl, by decide +kernel, by decide +kernel⟩
def rd__law_draws : QTS := (qRet (qLst (qCons (qCB gList (qCons (qVar 0) qNil)) (qCons (qK (.int 0)) (qCons (qK (.int 0)) (qCons (qK (.int 1)) qNil))))))
theorem dv__law_draws {P : Program} {w : World} {K : PySem.W.Frag} {mg : Str → Option Value} {base : Heap} {k : Nat} (T : Txt K mg) (S : FS) (lp : S.io.length = 1)
    (rd : ∀ pvs : List PV, pvs.length = S.io.length → S.pre pvs → rd__law_draws (endsOf S pvs) (mk S.io pvs ++ uns 0)) : Has P w K mg base "_law_draws" (k + 1) ["script"] S := by
  obtain ⟨f, fd, F, m⟩ := T.d__law_draws.ex
  refine ⟨f, fd, fn_p F sc__law_draws lp (t := rd__law_draws) (fun cdv A outer s H E hr => ?_) rd, m, F.kp, F.binds (ps := ["script"]) fun _ _ _ _ _ _ us hl => match us, hl with | [_], _ => rfl, F.at⟩
  exact (qss_one (qs_ret (qe_lst (qa_cons (qe_callTy call_listP T.z_list (qa_cons (qv 0) qa_nil)) (qa_cons qe_int (qa_cons qe_int (qa_cons qe_int qa_nil)))))))

/-! _law_draw(draws, limit)   owned: draws -/
abbrev N__law_draw : List Str := ["draws", "limit", "cell", "value"]
theorem sc__law_draw : FnScope N__law_draw ["draws", "limit"] (defScope s__law_draw) := ⟨rfl, rfl, rfl, by decide +kernel, rfl, by decide +kernel, by decide +kernel⟩
def rd__law_draw : QTS := (qSeq (qIf (qAnd (qB (qOp2 gEq (qOp2 gIx (qVar 0) (qK (.int 2))) (qK (.int 0)))) (qB (qOp2 gLt (qOp2 gIx (qVar 0) (qK (.int 1))) (qCB gLen (qCons (qOp2 gIx (qVar 0) (qK (.int 0))) qNil))))) (qSeq (qSet 2 (qCB gAbs (qCons (qOp2 gIx (qOp2 gIx (qVar 0) (qK (.int 0))) (qOp2 gIx (qVar 0) (qK (.int 1)))) qNil)))
  (qSeq (qSetIx 0 (qOp2 gAdd (qOp2 gIx (qVar 0) (qK (.int 1))) (qK (.int 1))) (qK (.int 1)))
  (qSeq (qIf (qB (qOp2 gGe (qVar 2) (qOp2 gPow (qK (.int 10)) (qK (.int 18))))) (qSetIx 0 (qVar 2) (qK (.int 2))) qNext)
  (qSetIx 0 (qOp2 gMod (qCB gIntC (qCons (qOp2 gAdd (qOp2 gAdd (qOp2 gMul (qOp2 gIx (qVar 0) (qK (.int 3))) (qK (.int 48271))) (qVar 2)) (qK (.int 13))) qNil)) (qK (.int 2147483647))) (qK (.int 3)))))) qNext)
  (qSeq (qIf (qB (qOp2 gGt (qOp2 gIx (qVar 0) (qK (.int 2))) (qK (.int 0)))) (qSeq (qSet 3 (qOp2 gMod (qCB gIntC (qCons (qOp2 gIx (qVar 0) (qK (.int 2))) qNil)) (qVar 1)))
  (qSeq (qSetIx 0 (qOp2 gDiv (qOp2 gIx (qVar 0) (qK (.int 2))) (qVar 1)) (qK (.int 2)))
  (qRet (qVar 3)))) qNext)
  (qSeq (qSetIx 0 (qOp2 gMod (qCB gIntC (qCons (qOp2 gAdd (qOp2 gMul (qOp2 gIx (qVar 0) (qK (.int 3))) (qK (.int 69621))) (qK (.int 7))) qNil)) (qK (.int 2147483629))) (qK (.int 3)))
  (qRet (qOp2 gMod (qCB gIntC (qCons (qOp2 gDiv (qOp2 gIx (qVar 0) (qK (.int 3))) (qK (.int 11))) qNil)) (qVar 1))))))
theorem dv__law_draw {P : Program} {w : World} {K : PySem.W.Frag} {mg : Str → Option Value} {base : Heap} {k : Nat} (T : Txt K mg) (S : FS) (lp : S.io.length = 2)
    (rd : ∀ pvs : List PV, pvs.length = S.io.length → S.pre pvs → rd__law_draw (endsOf S pvs) (mk S.io pvs ++ uns 2)) : Has P w K mg base "_law_draw" (k + 1) ["draws", "limit"] S := by
  obtain ⟨f, fd, F, m⟩ := T.d__law_draw.ex
  refine ⟨f, fd, fn_p F sc__law_draw lp (t := rd__law_draw) (fun cdv A outer s H E hr => ?_) rd, m, F.kp, F.binds (ps := ["draws", "limit"]) fun _ _ _ _ _ _ us hl => match us, hl with | [_, _], _ => rfl, F.at⟩
  exact (qss_cons (qs_if (qw_and (qc_cmp (op_eqP (room64 hr)) (qe_ix ix_P (qv 0) qe_int) qe_int) (qw_and1 (qc_cmp op_ltP (qe_ix ix_P (qv 0) qe_int) (qe_callB call_lenP T.z_len (qa_cons (qe_ix ix_P (qv 0) qe_int) qa_nil))))).qc (qss_cons (qs_set 2 sc__law_draw.nd (qe_callB call_absP T.z_abs (qa_cons (qe_ix ix_P (qe_ix ix_P (qv 0) qe_int) (qe_ix ix_P (qv 0) qe_int)) qa_nil)))
  (qss_cons (qs_setIx 0 (qe_op op_addP (qe_ix ix_P (qv 0) qe_int) qe_int) qe_int)
  (qss_cons (qs_if (qc_cmp op_geP (qv 2) (qe_op op_powP qe_int qe_int)) (qss_one (qs_setIx 0 (qv 2) qe_int)) qss_nil)
  (qss_one (qs_setIx 0 (qe_op op_modP (qe_callTy call_intP T.z_int (qa_cons (qe_op op_addP (qe_op op_addP (qe_op op_mulP (qe_ix ix_P (qv 0) qe_int) qe_int) (qv 2)) qe_int) qa_nil)) qe_int) qe_int))))) qss_nil)
  (qss_cons (qs_if (qc_cmp op_gtP (qe_ix ix_P (qv 0) qe_int) qe_int) (qss_cons (qs_set 3 sc__law_draw.nd (qe_op op_modP (qe_callTy call_intP T.z_int (qa_cons (qe_ix ix_P (qv 0) qe_int) qa_nil)) (qv 1)))
  (qss_cons (qs_setIx 0 (qe_op op_divP (qe_ix ix_P (qv 0) qe_int) (qv 1)) qe_int)
  (qss_one (qs_ret (qv 3))))) qss_nil)
  (qss_cons (qs_setIx 0 (qe_op op_modP (qe_callTy call_intP T.z_int (qa_cons (qe_op op_addP (qe_op op_mulP (qe_ix ix_P (qv 0) qe_int) qe_int) qe_int) qa_nil)) qe_int) qe_int)
  (qss_one (qs_ret (qe_op op_modP (qe_callTy call_intP T.z_int (qa_cons (qe_op op_divP (qe_ix ix_P (qv 0) qe_int) qe_int) qa_nil)) (qv 1)))))))

/-! _law_pick(draws, row)   owned: draws -/
abbrev N__law_pick : List Str := ["draws", "row"]
theorem sc__law_pick : FnScope N__law_pick ["draws", "row"] (defScope s__law_pick) := ⟨rfl, rfl, rfl, by decide +kernel, rfl, by decide +kernel, by decide +kernel⟩
def rd__law_pick (q__law_draw : FS) : QTS := (qRet (qOp2 gIx (qVar 1) (qCall q__law_draw (qCons (qVar 0) (qCons (qCB gLen (qCons (qVar 1) qNil)) qNil)))))
theorem dv__law_pick {P : Program} {w : World} {K : PySem.W.Frag} {mg : Str → Option Value} {base : Heap} {k : Nat} {q__law_draw : FS} (T : Txt K mg) (h__law_draw : Has P w K mg base "_law_draw" k ["draws", "limit"] q__law_draw) (S : FS) (lp : S.io.length = 2)
    (rd : ∀ pvs : List PV, pvs.length = S.io.length → S.pre pvs → rd__law_pick q__law_draw (endsOf S pvs) (mk S.io pvs ++ uns 0)) : Has P w K mg base "_law_pick" (k + 1) ["draws", "row"] S := by
  obtain ⟨f, fd, F, m⟩ := T.d__law_pick.ex
  refine ⟨f, fd, fn_p F sc__law_pick lp (t := rd__law_pick q__law_draw) (fun cdv A outer s H E hr => ?_) rd, m, F.kp, F.binds (ps := ["draws", "row"]) fun _ _ _ _ _ _ us hl => match us, hl with | [_, _], _ => rfl, F.at⟩
  exact (qss_one (qs_ret (qe_ix ix_P (qv 1) (qe_callH h__law_draw hr (qa_cons (qv 0) (qa_cons (qe_callB call_lenP T.z_len (qa_cons (qv 1) qa_nil)) qa_nil))))))

/-! _law_makers(draws)   owned: draws, rows -/
abbrev N__law_makers : List Str := ["draws", "rows", "word", "turn"]
theorem sc__law_makers : FnScope N__law_makers ["draws"] (defScope s__law_makers) := ⟨rfl, rfl, rfl, by decide +kernel, rfl, by decide +kernel, by decide +kernel⟩
def rd__law_makers (q__law_draw : FS) : QTS := (qSeq (qOwn 1 (qLst (qCons (qTup (qCons (qK (.str (Str.ofString "zero"))) (qCons (qK (.int 0)) qNil))) qNil)))
  (qSeq (qFor (qIt (qLst (qCons (qK (.str (Str.ofString "next"))) (qCons (qK (.str (Str.ofString "pair"))) (qCons (qK (.str (Str.ofString "top"))) (qCons (qK (.str (Str.ofString "x"))) qNil)))))) (qgN 2) (qIf (qB (qOp2 gGt (qCall q__law_draw (qCons (qVar 0) (qCons (qK (.int 3)) qNil))) (qK (.int 0)))) (qDrop (qMut "list" 1 gAppend (qCons (qTup (qCons (qVar 2) (qCons (qCall q__law_draw (qCons (qVar 0) (qCons (qK (.int 3)) qNil))) qNil))) qNil))) qNext))
  (qSeq (qSet 3 (qCall q__law_draw (qCons (qVar 0) (qCons (qCB gLen (qCons (qVar 1) qNil)) qNil))))
  (qRet (qCB gTuple (qCons (qOp2 gAdd (qSl gSl (qVar 1) (qPart (qVar 3)) qNo) (qSl gSl (qVar 1) qNo (qPart (qVar 3)))) qNil))))))
theorem dv__law_makers {P : Program} {w : World} {K : PySem.W.Frag} {mg : Str → Option Value} {base : Heap} {k : Nat} {q__law_draw : FS} (T : Txt K mg) (h__law_draw : Has P w K mg base "_law_draw" k ["draws", "limit"] q__law_draw) (S : FS) (lp : S.io.length = 1)
    (rd : ∀ pvs : List PV, pvs.length = S.io.length → S.pre pvs → rd__law_makers q__law_draw (endsOf S pvs) (mk S.io pvs ++ uns 3)) : Has P w K mg base "_law_makers" (k + 1) ["draws"] S := by
  obtain ⟨f, fd, F, m⟩ := T.d__law_makers.ex
  refine ⟨f, fd, fn_p F sc__law_makers lp (t := rd__law_makers q__law_draw) (fun cdv A outer s H E hr => ?_) rd, m, F.kp, F.binds (ps := ["draws"]) fun _ _ _ _ _ _ us hl => match us, hl with | [_], _ => rfl, F.at⟩
  exact (qss_cons (qs_own 1 sc__law_makers.nd (qe_lst (qa_cons (qe_tup (qa_cons qe_str (qa_cons qe_int qa_nil))) qa_nil)))
  (qss_cons (qs_for PassesOwn.never rfl (qi_seq (qe_lst (qa_cons qe_str (qa_cons qe_str (qa_cons qe_str (qa_cons qe_str qa_nil)))))) (qg_name 2 sc__law_makers.nd) (qss_one (qs_if (qc_cmp op_gtP (qe_callH h__law_draw hr (qa_cons (qv 0) (qa_cons qe_int qa_nil))) qe_int) (qss_one (qs_expr (qe_mut 1 m_append PySem.F.plainAttrs_list PySem.F.slot_list_append PySem.F.type_list_append (qa_cons (qe_tup (qa_cons (qv 2) (qa_cons (qe_callH h__law_draw hr (qa_cons (qv 0) (qa_cons qe_int qa_nil))) qa_nil))) qa_nil)))) qss_nil)))
  (qss_cons (qs_set 3 sc__law_makers.nd (qe_callH h__law_draw hr (qa_cons (qv 0) (qa_cons (qe_callB call_lenP T.z_len (qa_cons (qv 1) qa_nil)) qa_nil))))
  (qss_one (qs_ret (qe_callTy call_tupleP T.z_tuple (qa_cons (qe_op op_addP (qe_slice sl_seq (qv 1) (qo_some (qv 3)) qo_none) (qe_slice sl_seq (qv 1) qo_none (qo_some (qv 3)))) qa_nil)))))))

/-! _law_term(draws, makers, names, deep)   owned: draws -/
abbrev N__law_term : List Str := ["draws", "makers", "names", "deep", "word", "parts", "k"]
theorem sc__law_term : FnScope N__law_term ["draws", "makers", "names", "deep"] (defScope s__law_term) := ⟨rfl, rfl, rfl, by decide +kernel, rfl, by decide +kernel, by decide +kernel⟩
def rd__law_term (q__law_draw q__law_pick q__law_term : FS) : QTS := (qSeq (qIf (qOr (qB (qOp2 gEq (qVar 3) (qK (.int 0)))) (qB (qOp2 gEq (qCall q__law_draw (qCons (qVar 0) (qCons (qK (.int 3)) qNil))) (qK (.int 0))))) (qSeq (qIf (qB (qOp2 gEq (qCall q__law_draw (qCons (qVar 0) (qCons (qK (.int 4)) qNil))) (qK (.int 0)))) (qRet (qCall q__law_pick (qCons (qVar 0) (qCons (qLc (qIt (qVar 1)) (qgT 2 (qgCons (qgN 4) (qgCons (qgN 5) qgNil))) (qB (qOp2 gEq (qVar 5) (qK (.int 0)))) (qTup (qCons (qVar 4) qNil)) [4, 5]) qNil)))) qNext)
  (qRet (qCall q__law_pick (qCons (qVar 0) (qCons (qVar 2) qNil))))) qNext)
  (qSeq (qAsg (qCall q__law_pick (qCons (qVar 0) (qCons (qVar 1) qNil))) (qgT 2 (qgCons (qgN 4) (qgCons (qgN 5) qgNil))))
  (qRet (qOp2 gAdd (qTup (qCons (qVar 4) qNil)) (qCB gTuple (qCons (qLc (qRng1 (qCons (qVar 5) qNil)) (qgN 6) qYes (qCall q__law_term (qCons (qVar 0) (qCons (qVar 1) (qCons (qVar 2) (qCons (qOp2 gSub (qVar 3) (qK (.int 1))) qNil))))) [6]) qNil))))))
theorem dv__law_term {P : Program} {w : World} {K : PySem.W.Frag} {mg : Str → Option Value} {base : Heap} {k : Nat} {q__law_draw q__law_pick q__law_term : FS} (T : Txt K mg) (h__law_draw : Has P w K mg base "_law_draw" k ["draws", "limit"] q__law_draw) (h__law_pick : Has P w K mg base "_law_pick" k ["draws", "row"] q__law_pick) (h__law_term : Has P w K mg base "_law_term" k ["draws", "makers", "names", "deep"] q__law_term) (S : FS) (lp : S.io.length = 4)
    (rd : ∀ pvs : List PV, pvs.length = S.io.length → S.pre pvs → rd__law_term q__law_draw q__law_pick q__law_term (endsOf S pvs) (mk S.io pvs ++ uns 3)) : Has P w K mg base "_law_term" (k + 1) ["draws", "makers", "names", "deep"] S := by
  obtain ⟨f, fd, F, m⟩ := T.d__law_term.ex
  refine ⟨f, fd, fn_p F sc__law_term lp (t := rd__law_term q__law_draw q__law_pick q__law_term) (fun cdv A outer s H E hr => ?_) rd, m, F.kp, F.binds (ps := ["draws", "makers", "names", "deep"]) fun _ _ _ _ _ _ us hl => match us, hl with | [_, _, _, _], _ => rfl, F.at⟩
  exact (qss_cons (qs_if (qw_or (qc_cmp (op_eqP (room64 hr)) (qv 3) qe_int) (qw_or1 (qc_cmp (op_eqP (room64 hr)) (qe_callH h__law_draw hr (qa_cons (qv 0) (qa_cons qe_int qa_nil))) qe_int))).qc (qss_cons (qs_if (qc_cmp (op_eqP (room64 hr)) (qe_callH h__law_draw hr (qa_cons (qv 0) (qa_cons qe_int qa_nil))) qe_int) (qss_one (qs_ret (qe_callH h__law_pick hr (qa_cons (qv 0) (qa_cons (qe_lc rfl sc__law_term.nd (blkOk_by (N := N__law_term) (sc := defScope s__law_term) (own := [("word", 4), ("parts", 5)]) (by decide +kernel)) (qi_seq (qv 1)) (fun _ => (qg_tup rfl (qgs_cons (qg_name 4 sc__law_term.nd) (qgs_cons (qg_name 5 sc__law_term.nd) qgs_nil)))) (fun _ => (qcs_one (qc_cmp (op_eqP (room64 hr)) (qv 5) qe_int))) (fun _ => (qe_tup (qa_cons (qv 4) qa_nil)))) qa_nil))))) qss_nil)
  (qss_one (qs_ret (qe_callH h__law_pick hr (qa_cons (qv 0) (qa_cons (qv 2) qa_nil)))))) qss_nil)
  (qss_cons (qs_asg (qe_callH h__law_pick hr (qa_cons (qv 0) (qa_cons (qv 1) qa_nil))) (qg_tup rfl (qgs_cons (qg_name 4 sc__law_term.nd) (qgs_cons (qg_name 5 sc__law_term.nd) qgs_nil))))
  (qss_one (qs_ret (qe_op op_addP (qe_tup (qa_cons (qv 4) qa_nil)) (qe_callTy call_tupleP T.z_tuple (qa_cons (qe_lc rfl sc__law_term.nd (blkOk_by (N := N__law_term) (sc := defScope s__law_term) (own := [("k", 6)]) (by decide +kernel)) (qi_range1 T.z_range (qa_cons (qv 5) qa_nil)) (fun _ => (qg_name 6 sc__law_term.nd)) (fun _ => qcs_nil) (fun _ => (qe_callH h__law_term hr (qa_cons (qv 0) (qa_cons (qv 1) (qa_cons (qv 2) (qa_cons (qe_op op_subP (qv 3) qe_int) qa_nil))))))) qa_nil)))))))

/-! _law_odd(draws, makers)   owned: draws -/
abbrev N__law_odd : List Str := ["draws", "makers", "odd"]
theorem sc__law_odd : FnScope N__law_odd ["draws", "makers"] (defScope s__law_odd) := ⟨rfl, rfl, rfl, by decide +kernel, rfl, by decide +kernel, by decide +kernel⟩
def rd__law_odd (q__law_pick : FS) : QTS := (qSeq (qSet 2 (qLst (qCons (qK .non) (qCons (qK (.int 5)) (qCons (qK (.bl true)) (qCons (qTup qNil) (qCons (qLst qNil) (qCons (qLst (qCons (qK (.str (Str.ofString "zero"))) qNil)) (qCons qDict0 (qCons (qK (.str (Str.ofString ""))) (qCons (qK (.str (Str.ofString "zero"))) (qCons (qTup (qCons (qK (.str (Str.ofString "zero"))) (qCons (qK (.str (Str.ofString "a"))) qNil))) (qCons (qTup (qCons (qK (.str (Str.ofString "nope"))) qNil)) (qCons (qTup (qCons (qK (.int 5)) qNil)) (qCons (qTup (qCons (qK .non) (qCons (qK (.str (Str.ofString "a"))) qNil))) (qCons (qK (.str (Str.ofString "a.1"))) (qCons (qTup (qCons (qTup (qCons (qK (.str (Str.ofString "zero"))) qNil)) qNil)) (qCons (qTup (qCons (qK (.str (Str.ofString "next"))) qNil)) qNil))))))))))))))))))
  (qRet (qCall q__law_pick (qCons (qVar 0) (qCons (qOp2 gAdd (qVar 2) (qLst (qCons (qOp2 gIx (qOp2 gIx (qVar 1) (qK (.int 0))) (qK (.int 0))) (qCons (qTup (qCons (qOp2 gIx (qOp2 gIx (qVar 1) (qK (.int 0))) (qK (.int 0))) qNil)) (qCons (qLst (qCons (qOp2 gIx (qOp2 gIx (qVar 1) (qK (.int 0))) (qK (.int 0))) qNil)) qNil))))) qNil)))))
theorem dv__law_odd {P : Program} {w : World} {K : PySem.W.Frag} {mg : Str → Option Value} {base : Heap} {k : Nat} {q__law_pick : FS} (T : Txt K mg) (h__law_pick : Has P w K mg base "_law_pick" k ["draws", "row"] q__law_pick) (S : FS) (lp : S.io.length = 2)
    (rd : ∀ pvs : List PV, pvs.length = S.io.length → S.pre pvs → rd__law_odd q__law_pick (endsOf S pvs) (mk S.io pvs ++ uns 1)) : Has P w K mg base "_law_odd" (k + 1) ["draws", "makers"] S := by
  obtain ⟨f, fd, F, m⟩ := T.d__law_odd.ex
  refine ⟨f, fd, fn_p F sc__law_odd lp (t := rd__law_odd q__law_pick) (fun cdv A outer s H E hr => ?_) rd, m, F.kp, F.binds (ps := ["draws", "makers"]) fun _ _ _ _ _ _ us hl => match us, hl with | [_, _], _ => rfl, F.at⟩
  exact (qss_cons (qs_set 2 sc__law_odd.nd (qe_lst (qa_cons qe_non (qa_cons qe_int (qa_cons qe_bl (qa_cons (qe_tup qa_nil) (qa_cons (qe_lst qa_nil) (qa_cons (qe_lst (qa_cons qe_str qa_nil)) (qa_cons qe_dict0 (qa_cons qe_str (qa_cons qe_str (qa_cons (qe_tup (qa_cons qe_str (qa_cons qe_str qa_nil))) (qa_cons (qe_tup (qa_cons qe_str qa_nil)) (qa_cons (qe_tup (qa_cons qe_int qa_nil)) (qa_cons (qe_tup (qa_cons qe_non (qa_cons qe_str qa_nil))) (qa_cons qe_str (qa_cons (qe_tup (qa_cons (qe_tup (qa_cons qe_str qa_nil)) qa_nil)) (qa_cons (qe_tup (qa_cons qe_str qa_nil)) qa_nil))))))))))))))))))
  (qss_one (qs_ret (qe_callH h__law_pick hr (qa_cons (qv 0) (qa_cons (qe_op op_addP (qv 2) (qe_lst (qa_cons (qe_ix ix_P (qe_ix ix_P (qv 1) qe_int) qe_int) (qa_cons (qe_tup (qa_cons (qe_ix ix_P (qe_ix ix_P (qv 1) qe_int) qe_int) qa_nil)) (qa_cons (qe_lst (qa_cons (qe_ix ix_P (qe_ix ix_P (qv 1) qe_int) qe_int) qa_nil)) qa_nil))))) qa_nil))))))

/-! _law_bent(draws, makers, value)   owned: draws -/
abbrev N__law_bent : List Str := ["draws", "makers", "value", "way", "at"]
theorem sc__law_bent : FnScope N__law_bent ["draws", "makers", "value"] (defScope s__law_bent) := ⟨rfl, rfl, rfl, by decide +kernel, rfl, by decide +kernel, by decide +kernel⟩
def rd__law_bent (q__law_draw q__law_odd q__law_bent : FS) : QTS := (qSeq (qIf (qOr (qTru (qCB gIsi (qCons (qVar 2) (qCons (qK (.ty "str")) qNil)))) (qB (qOp2 gEq (qCall q__law_draw (qCons (qVar 0) (qCons (qK (.int 3)) qNil))) (qK (.int 0))))) (qRet (qCall q__law_odd (qCons (qVar 0) (qCons (qVar 1) qNil)))) qNext)
  (qSeq (qSet 3 (qCall q__law_draw (qCons (qVar 0) (qCons (qK (.int 5)) qNil))))
  (qSeq (qIf (qB (qOp2 gEq (qVar 3) (qK (.int 0)))) (qRet (qSl gSl (qVar 2) qNo (qPart (qNeg (qK (.int 1)))))) qNext)
  (qSeq (qIf (qB (qOp2 gEq (qVar 3) (qK (.int 1)))) (qRet (qOp2 gAdd (qVar 2) (qTup (qCons (qCall q__law_odd (qCons (qVar 0) (qCons (qVar 1) qNil))) qNil)))) qNext)
  (qSeq (qIf (qB (qOp2 gEq (qVar 3) (qK (.int 2)))) (qRet (qCB gList (qCons (qVar 2) qNil))) qNext)
  (qSeq (qIf (qB (qOp2 gEq (qCB gLen (qCons (qVar 2) qNil)) (qK (.int 1)))) (qRet (qTup (qCons (qCall q__law_odd (qCons (qVar 0) (qCons (qVar 1) qNil))) qNil))) qNext)
  (qSeq (qSet 4 (qOp2 gAdd (qK (.int 1)) (qCall q__law_draw (qCons (qVar 0) (qCons (qOp2 gSub (qCB gLen (qCons (qVar 2) qNil)) (qK (.int 1))) qNil)))))
  (qRet (qOp2 gAdd (qOp2 gAdd (qSl gSl (qVar 2) qNo (qPart (qVar 4))) (qTup (qCons (qCall q__law_bent (qCons (qVar 0) (qCons (qVar 1) (qCons (qOp2 gIx (qVar 2) (qVar 4)) qNil)))) qNil))) (qSl gSl (qVar 2) (qPart (qOp2 gAdd (qVar 4) (qK (.int 1)))) qNo))))))))))
theorem dv__law_bent {P : Program} {w : World} {K : PySem.W.Frag} {mg : Str → Option Value} {base : Heap} {k : Nat} {q__law_draw q__law_odd q__law_bent : FS} (T : Txt K mg) (h__law_draw : Has P w K mg base "_law_draw" k ["draws", "limit"] q__law_draw) (h__law_odd : Has P w K mg base "_law_odd" k ["draws", "makers"] q__law_odd) (h__law_bent : Has P w K mg base "_law_bent" k ["draws", "makers", "value"] q__law_bent) (S : FS) (lp : S.io.length = 3)
    (rd : ∀ pvs : List PV, pvs.length = S.io.length → S.pre pvs → rd__law_bent q__law_draw q__law_odd q__law_bent (endsOf S pvs) (mk S.io pvs ++ uns 2)) : Has P w K mg base "_law_bent" (k + 1) ["draws", "makers", "value"] S := by
  obtain ⟨f, fd, F, m⟩ := T.d__law_bent.ex
  refine ⟨f, fd, fn_p F sc__law_bent lp (t := rd__law_bent q__law_draw q__law_odd q__law_bent) (fun cdv A outer s H E hr => ?_) rd, m, F.kp, F.binds (ps := ["draws", "makers", "value"]) fun _ _ _ _ _ _ us hl => match us, hl with | [_, _, _], _ => rfl, F.at⟩
  exact (qss_cons (qs_if (qw_or (qc_tru (qe_callB call_isiP T.z_isinstance (qa_cons (qv 2) (qa_cons (qe_ty T.z_str) qa_nil)))) (qw_or1 (qc_cmp (op_eqP (room64 hr)) (qe_callH h__law_draw hr (qa_cons (qv 0) (qa_cons qe_int qa_nil))) qe_int))).qc (qss_one (qs_ret (qe_callH h__law_odd hr (qa_cons (qv 0) (qa_cons (qv 1) qa_nil))))) qss_nil)
  (qss_cons (qs_set 3 sc__law_bent.nd (qe_callH h__law_draw hr (qa_cons (qv 0) (qa_cons qe_int qa_nil))))
  (qss_cons (qs_if (qc_cmp (op_eqP (room64 hr)) (qv 3) qe_int) (qss_one (qs_ret (qe_slice sl_seq (qv 2) qo_none (qo_some (qe_neg qe_int))))) qss_nil)
  (qss_cons (qs_if (qc_cmp (op_eqP (room64 hr)) (qv 3) qe_int) (qss_one (qs_ret (qe_op op_addP (qv 2) (qe_tup (qa_cons (qe_callH h__law_odd hr (qa_cons (qv 0) (qa_cons (qv 1) qa_nil))) qa_nil))))) qss_nil)
  (qss_cons (qs_if (qc_cmp (op_eqP (room64 hr)) (qv 3) qe_int) (qss_one (qs_ret (qe_callTy call_listP T.z_list (qa_cons (qv 2) qa_nil)))) qss_nil)
  (qss_cons (qs_if (qc_cmp (op_eqP (room64 hr)) (qe_callB call_lenP T.z_len (qa_cons (qv 2) qa_nil)) qe_int) (qss_one (qs_ret (qe_tup (qa_cons (qe_callH h__law_odd hr (qa_cons (qv 0) (qa_cons (qv 1) qa_nil))) qa_nil)))) qss_nil)
  (qss_cons (qs_set 4 sc__law_bent.nd (qe_op op_addP qe_int (qe_callH h__law_draw hr (qa_cons (qv 0) (qa_cons (qe_op op_subP (qe_callB call_lenP T.z_len (qa_cons (qv 2) qa_nil)) qe_int) qa_nil)))))
  (qss_one (qs_ret (qe_op op_addP (qe_op op_addP (qe_slice sl_seq (qv 2) qo_none (qo_some (qv 4))) (qe_tup (qa_cons (qe_callH h__law_bent hr (qa_cons (qv 0) (qa_cons (qv 1) (qa_cons (qe_ix ix_P (qv 2) (qv 4)) qa_nil)))) qa_nil))) (qe_slice sl_seq (qv 2) (qo_some (qe_op op_addP (qv 4) qe_int)) qo_none)))))))))))

/-! _law_is_term(makers, value) -/
abbrev N__law_is_term : List Str := ["makers", "value", "counts", "word", "parts", "part"]
theorem sc__law_is_term : FnScope N__law_is_term ["makers", "value"] (defScope s__law_is_term) := ⟨rfl, rfl, rfl, by decide +kernel, rfl, by decide +kernel, by decide +kernel⟩
def rd__law_is_term (q__law_is_term : FS) : QTS := (qSeq (qIf (qTru (qCB gIsi (qCons (qVar 1) (qCons (qK (.ty "str")) qNil)))) (qRet (qOp2 gNotIn (qVar 1) (qLc (qIt (qVar 0)) (qgT 2 (qgCons (qgN 3) (qgCons (qgN 4) qgNil))) qYes (qVar 3) [3, 4]))) qNext)
  (qSeq (qIf (qOr (qNot (qTru (qCB gIsi (qCons (qVar 1) (qCons (qK (.ty "tuple")) qNil))))) (qOr (qB (qOp2 gEq (qCB gLen (qCons (qVar 1) qNil)) (qK (.int 0)))) (qNot (qTru (qCB gIsi (qCons (qOp2 gIx (qVar 1) (qK (.int 0))) (qCons (qK (.ty "str")) qNil))))))) (qRet (qK (.bl false))) qNext)
  (qSeq (qSet 2 (qLc (qIt (qVar 0)) (qgT 2 (qgCons (qgN 3) (qgCons (qgN 4) qgNil))) (qB (qOp2 gEq (qVar 3) (qOp2 gIx (qVar 1) (qK (.int 0))))) (qVar 4) [3, 4]))
  (qSeq (qIf (qOr (qB (qOp2 gEq (qCB gLen (qCons (qVar 2) qNil)) (qK (.int 0)))) (qB (qOp2 gNe (qOp2 gIx (qVar 2) (qK (.int 0))) (qOp2 gSub (qCB gLen (qCons (qVar 1) qNil)) (qK (.int 1)))))) (qRet (qK (.bl false))) qNext)
  (qRet (qCB gAll (qCons (qLc (qIt (qSl gSl (qVar 1) (qPart (qK (.int 1))) qNo)) (qgN 5) qYes (qCall q__law_is_term (qCons (qVar 0) (qCons (qVar 5) qNil))) [5]) qNil)))))))
theorem dv__law_is_term {P : Program} {w : World} {K : PySem.W.Frag} {mg : Str → Option Value} {base : Heap} {k : Nat} {q__law_is_term : FS} (T : Txt K mg) (h__law_is_term : Has P w K mg base "_law_is_term" k ["makers", "value"] q__law_is_term) (S : FS) (lp : S.io.length = 2)
    (rd : ∀ pvs : List PV, pvs.length = S.io.length → S.pre pvs → rd__law_is_term q__law_is_term (endsOf S pvs) (mk S.io pvs ++ uns 4)) : Has P w K mg base "_law_is_term" (k + 1) ["makers", "value"] S := by
  obtain ⟨f, fd, F, m⟩ := T.d__law_is_term.ex
  refine ⟨f, fd, fn_p F sc__law_is_term lp (t := rd__law_is_term q__law_is_term) (fun cdv A outer s H E hr => ?_) rd, m, F.kp, F.binds (ps := ["makers", "value"]) fun _ _ _ _ _ _ us hl => match us, hl with | [_, _], _ => rfl, F.at⟩
  exact (qss_cons (qs_if (qc_tru (qe_callB call_isiP T.z_isinstance (qa_cons (qv 1) (qa_cons (qe_ty T.z_str) qa_nil)))) (qss_one (qs_ret (qe_cmp (op_notInP (room65 hr)) (qv 1) (qe_lc rfl sc__law_is_term.nd (blkOk_by (N := N__law_is_term) (sc := defScope s__law_is_term) (own := [("word", 3), ("parts", 4)]) (by decide +kernel)) (qi_seq (qv 0)) (fun _ => (qg_tup rfl (qgs_cons (qg_name 3 sc__law_is_term.nd) (qgs_cons (qg_name 4 sc__law_is_term.nd) qgs_nil)))) (fun _ => qcs_nil) (fun _ => (qv 3)))))) qss_nil)
  (qss_cons (qs_if (qw_or (qc_not (qc_tru (qe_callB call_isiP T.z_isinstance (qa_cons (qv 1) (qa_cons (qe_ty T.z_tuple) qa_nil))))) (qw_or (qc_cmp (op_eqP (room64 hr)) (qe_callB call_lenP T.z_len (qa_cons (qv 1) qa_nil)) qe_int) (qw_or1 (qc_not (qc_tru (qe_callB call_isiP T.z_isinstance (qa_cons (qe_ix ix_P (qv 1) qe_int) (qa_cons (qe_ty T.z_str) qa_nil)))))))).qc (qss_one (qs_ret qe_bl)) qss_nil)
  (qss_cons (qs_setLc 2 rfl sc__law_is_term.nd (sw_true rfl rfl rfl (by decide +kernel)) (blkOk_by (N := N__law_is_term) (sc := defScope s__law_is_term) (own := [("word", 3), ("parts", 4)]) (by decide +kernel)) (qi_seq (qv 0)) (fun _ => (qg_tup rfl (qgs_cons (qg_name 3 sc__law_is_term.nd) (qgs_cons (qg_name 4 sc__law_is_term.nd) qgs_nil)))) (fun _ => (qcs_one (qc_cmp (op_eqP (room64 hr)) (qv 3) (qe_ix ix_P (qv 1) qe_int)))) (fun _ => (qv 4)))
  (qss_cons (qs_if (qw_or (qc_cmp (op_eqP (room64 hr)) (qe_callB call_lenP T.z_len (qa_cons (qv 2) qa_nil)) qe_int) (qw_or1 (qc_cmp (op_neP (room64 hr)) (qe_ix ix_P (qv 2) qe_int) (qe_op op_subP (qe_callB call_lenP T.z_len (qa_cons (qv 1) qa_nil)) qe_int)))).qc (qss_one (qs_ret qe_bl)) qss_nil)
  (qss_one (qs_ret (qe_callB (call_allP rfl) T.z_all (qa_cons (qe_lc rfl sc__law_is_term.nd (blkOk_by (N := N__law_is_term) (sc := defScope s__law_is_term) (own := [("part", 5)]) (by decide +kernel)) (qi_seq (qe_slice sl_seq (qv 1) (qo_some qe_int) qo_none)) (fun _ => (qg_name 5 sc__law_is_term.nd)) (fun _ => qcs_nil) (fun _ => (qe_callH h__law_is_term hr (qa_cons (qv 0) (qa_cons (qv 5) qa_nil))))) qa_nil))))))))

/-! _law_names(term) -/
abbrev N__law_names : List Str := ["term", "found", "part", "name"]
theorem sc__law_names : FnScope N__law_names ["term"] (defScope s__law_names) := ⟨rfl, rfl, rfl, by decide +kernel, rfl, by decide +kernel, by decide +kernel⟩
def rd__law_names (q__law_names : FS) : QTS := (qSeq (qIf (qTru (qCB gIsi (qCons (qVar 0) (qCons (qK (.ty "str")) qNil)))) (qRet (qLst (qCons (qVar 0) qNil))) qNext)
  (qSeq (qSet 1 (qLst qNil))
  (qSeq (qFor (qIt (qSl gSl (qVar 0) (qPart (qK (.int 1))) qNo)) (qgN 2) (qSet 1 (qOp2 gAdd (qVar 1) (qLc (qIt (qCall q__law_names (qCons (qVar 2) qNil))) (qgN 3) (qB (qOp2 gNotIn (qVar 3) (qVar 1))) (qVar 3) [3]))))
  (qRet (qVar 1)))))
theorem dv__law_names {P : Program} {w : World} {K : PySem.W.Frag} {mg : Str → Option Value} {base : Heap} {k : Nat} {q__law_names : FS} (T : Txt K mg) (h__law_names : Has P w K mg base "_law_names" k ["term"] q__law_names) (S : FS) (lp : S.io.length = 1)
    (rd : ∀ pvs : List PV, pvs.length = S.io.length → S.pre pvs → rd__law_names q__law_names (endsOf S pvs) (mk S.io pvs ++ uns 3)) : Has P w K mg base "_law_names" (k + 1) ["term"] S := by
  obtain ⟨f, fd, F, m⟩ := T.d__law_names.ex
  refine ⟨f, fd, fn_p F sc__law_names lp (t := rd__law_names q__law_names) (fun cdv A outer s H E hr => ?_) rd, m, F.kp, F.binds (ps := ["term"]) fun _ _ _ _ _ _ us hl => match us, hl with | [_], _ => rfl, F.at⟩
  exact (qss_cons (qs_if (qc_tru (qe_callB call_isiP T.z_isinstance (qa_cons (qv 0) (qa_cons (qe_ty T.z_str) qa_nil)))) (qss_one (qs_ret (qe_lst (qa_cons (qv 0) qa_nil)))) qss_nil)
  (qss_cons (qs_set 1 sc__law_names.nd (qe_lst qa_nil))
  (qss_cons (qs_for PassesOwn.never rfl (qi_seq (qe_slice sl_seq (qv 0) (qo_some qe_int) qo_none)) (qg_name 2 sc__law_names.nd) (qss_one (qs_set 1 sc__law_names.nd (qe_op op_addP (qv 1) (qe_lc rfl sc__law_names.nd (blkOk_by (N := N__law_names) (sc := defScope s__law_names) (own := [("name", 3)]) (by decide +kernel)) (qi_seq (qe_callH h__law_names hr (qa_cons (qv 2) qa_nil))) (fun _ => (qg_name 3 sc__law_names.nd)) (fun _ => (qcs_one (qc_cmp (op_notInP (room65 hr)) (qv 3) (qv 1)))) (fun _ => (qv 3)))))))
  (qss_one (qs_ret (qv 1))))))

/-! _law_size(term) -/
abbrev N__law_size : List Str := ["term", "part"]
theorem sc__law_size : FnScope N__law_size ["term"] (defScope s__law_size) := ⟨rfl, rfl, rfl, by decide +kernel, rfl, by decide +kernel, by decide +kernel⟩
def rd__law_size (q__law_size : FS) : QTS := (qSeq (qIf (qTru (qCB gIsi (qCons (qVar 0) (qCons (qK (.ty "str")) qNil)))) (qRet (qK (.int 1))) qNext)
  (qRet (qOp2 gAdd (qK (.int 1)) (qCB gSum (qCons (qLc (qIt (qSl gSl (qVar 0) (qPart (qK (.int 1))) qNo)) (qgN 1) qYes (qCall q__law_size (qCons (qVar 1) qNil)) [1]) qNil)))))
theorem dv__law_size {P : Program} {w : World} {K : PySem.W.Frag} {mg : Str → Option Value} {base : Heap} {k : Nat} {q__law_size : FS} (T : Txt K mg) (h__law_size : Has P w K mg base "_law_size" k ["term"] q__law_size) (S : FS) (lp : S.io.length = 1)
    (rd : ∀ pvs : List PV, pvs.length = S.io.length → S.pre pvs → rd__law_size q__law_size (endsOf S pvs) (mk S.io pvs ++ uns 1)) : Has P w K mg base "_law_size" (k + 1) ["term"] S := by
  obtain ⟨f, fd, F, m⟩ := T.d__law_size.ex
  refine ⟨f, fd, fn_p F sc__law_size lp (t := rd__law_size q__law_size) (fun cdv A outer s H E hr => ?_) rd, m, F.kp, F.binds (ps := ["term"]) fun _ _ _ _ _ _ us hl => match us, hl with | [_], _ => rfl, F.at⟩
  exact (qss_cons (qs_if (qc_tru (qe_callB call_isiP T.z_isinstance (qa_cons (qv 0) (qa_cons (qe_ty T.z_str) qa_nil)))) (qss_one (qs_ret qe_int)) qss_nil)
  (qss_one (qs_ret (qe_op op_addP qe_int (qe_callB (call_sumP rfl) T.z_sum (qa_cons (qe_lc rfl sc__law_size.nd (blkOk_by (N := N__law_size) (sc := defScope s__law_size) (own := [("part", 1)]) (by decide +kernel)) (qi_seq (qe_slice sl_seq (qv 0) (qo_some qe_int) qo_none)) (fun _ => (qg_name 1 sc__law_size.nd)) (fun _ => qcs_nil) (fun _ => (qe_callH h__law_size hr (qa_cons (qv 1) qa_nil)))) qa_nil))))))

/-! _law_depth(term) -/
abbrev N__law_depth : List Str := ["term", "part"]
theorem sc__law_depth : FnScope N__law_depth ["term"] (defScope s__law_depth) := ⟨rfl, rfl, rfl, by decide +kernel, rfl, by decide +kernel, by decide +kernel⟩
def rd__law_depth (q__law_depth : FS) : QTS := (qSeq (qIf (qOr (qTru (qCB gIsi (qCons (qVar 0) (qCons (qK (.ty "str")) qNil)))) (qB (qOp2 gEq (qCB gLen (qCons (qVar 0) qNil)) (qK (.int 1))))) (qRet (qK (.int 1))) qNext)
  (qRet (qOp2 gAdd (qK (.int 1)) (qCB gMax (qCons (qLc (qIt (qSl gSl (qVar 0) (qPart (qK (.int 1))) qNo)) (qgN 1) qYes (qCall q__law_depth (qCons (qVar 1) qNil)) [1]) qNil)))))
theorem dv__law_depth {P : Program} {w : World} {K : PySem.W.Frag} {mg : Str → Option Value} {base : Heap} {k : Nat} {q__law_depth : FS} (T : Txt K mg) (h__law_depth : Has P w K mg base "_law_depth" k ["term"] q__law_depth) (S : FS) (lp : S.io.length = 1)
    (rd : ∀ pvs : List PV, pvs.length = S.io.length → S.pre pvs → rd__law_depth q__law_depth (endsOf S pvs) (mk S.io pvs ++ uns 1)) : Has P w K mg base "_law_depth" (k + 1) ["term"] S := by
  obtain ⟨f, fd, F, m⟩ := T.d__law_depth.ex
  refine ⟨f, fd, fn_p F sc__law_depth lp (t := rd__law_depth q__law_depth) (fun cdv A outer s H E hr => ?_) rd, m, F.kp, F.binds (ps := ["term"]) fun _ _ _ _ _ _ us hl => match us, hl with | [_], _ => rfl, F.at⟩
  exact (qss_cons (qs_if (qw_or (qc_tru (qe_callB call_isiP T.z_isinstance (qa_cons (qv 0) (qa_cons (qe_ty T.z_str) qa_nil)))) (qw_or1 (qc_cmp (op_eqP (room64 hr)) (qe_callB call_lenP T.z_len (qa_cons (qv 0) qa_nil)) qe_int))).qc (qss_one (qs_ret qe_int)) qss_nil)
  (qss_one (qs_ret (qe_op op_addP qe_int (qe_callB (call_maxP rfl) T.z_max (qa_cons (qe_lc rfl sc__law_depth.nd (blkOk_by (N := N__law_depth) (sc := defScope s__law_depth) (own := [("part", 1)]) (by decide +kernel)) (qi_seq (qe_slice sl_seq (qv 0) (qo_some qe_int) qo_none)) (fun _ => (qg_name 1 sc__law_depth.nd)) (fun _ => qcs_nil) (fun _ => (qe_callH h__law_depth hr (qa_cons (qv 1) qa_nil)))) qa_nil))))))

/-! _law_told(actual, due) -/
abbrev N__law_told : List Str := ["actual", "due"]
theorem sc__law_told : FnScope N__law_told ["actual", "due"] (defScope s__law_told) := ⟨rfl, rfl, rfl, by decide +kernel, rfl, by decide +kernel, by decide +kernel⟩
def rd__law_told : QTS := (qRet (qAndV (qCB gIsi (qCons (qVar 0) (qCons (qK (.ty "bool")) qNil))) (qOp2 gEq (qVar 0) (qVar 1))))
theorem dv__law_told {P : Program} {w : World} {K : PySem.W.Frag} {mg : Str → Option Value} {base : Heap} {k : Nat} (T : Txt K mg) (S : FS) (lp : S.io.length = 2)
    (rd : ∀ pvs : List PV, pvs.length = S.io.length → S.pre pvs → rd__law_told (endsOf S pvs) (mk S.io pvs ++ uns 0)) : Has P w K mg base "_law_told" (k + 1) ["actual", "due"] S := by
  obtain ⟨f, fd, F, m⟩ := T.d__law_told.ex
  refine ⟨f, fd, fn_p F sc__law_told lp (t := rd__law_told) (fun cdv A outer s H E hr => ?_) rd, m, F.kp, F.binds (ps := ["actual", "due"]) fun _ _ _ _ _ _ us hl => match us, hl with | [_, _], _ => rfl, F.at⟩
  exact (qss_one (qs_ret (qe_and (qe_callB call_isiP T.z_isinstance (qa_cons (qv 0) (qa_cons (qe_ty T.z_bool) qa_nil))) (qe_one (qe_cmp (op_eqP (room64 hr)) (qv 0) (qv 1))))))

/-! law(script)   owned: draws -/
abbrev N_law : List Str := ["script", "draws", "makers", "turn", "value", "due"]
theorem sc_law : FnScope N_law ["script"] (defScope s_law) := ⟨rfl, rfl, rfl, by decide +kernel, rfl, by decide +kernel, by decide +kernel⟩
def rd_law (q__law_draws q__law_makers q__law_term q__law_draw q__law_bent q__law_is_term q__law_told q_is_term q_is_tree q__law_names q_depth q__law_depth q_size q__law_size q_names_of : FS) : QTS := (qSeq (qOwn 1 (qCall q__law_draws (qCons (qVar 0) qNil)))
  (qSeq (qSet 2 (qCall q__law_makers (qCons (qVar 1) qNil)))
  (qSeq (qFor (qRng1 (qCons (qK (.int 8)) qNil)) (qgN 3) (qSeq (qSet 4 (qCall q__law_term (qCons (qVar 1) (qCons (qVar 2) (qCons (qLst (qCons (qK (.str (Str.ofString "a"))) (qCons (qK (.str (Str.ofString "b"))) (qCons (qK (.str (Str.ofString "c.1"))) (qCons (qK (.str (Str.ofString "d.2.1"))) qNil))))) (qCons (qCall q__law_draw (qCons (qVar 1) (qCons (qK (.int 5)) qNil))) qNil))))))
  (qSeq (qIf (qB (qOp2 gEq (qCall q__law_draw (qCons (qVar 1) (qCons (qK (.int 2)) qNil))) (qK (.int 0)))) (qSet 4 (qCall q__law_bent (qCons (qVar 1) (qCons (qVar 2) (qCons (qVar 4) qNil))))) qNext)
  (qSeq (qSet 5 (qCall q__law_is_term (qCons (qVar 2) (qCons (qVar 4) qNil))))
  (qSeq (qIf (qNot (qTru (qCall q__law_told (qCons (qCall q_is_term (qCons (qVar 2) (qCons (qVar 4) qNil))) (qCons (qVar 5) qNil))))) (qRet (qK (.bl false))) qNext)
  (qSeq (qIf (qNot (qTru (qCall q__law_told (qCons (qCall q_is_tree (qCons (qVar 2) (qCons (qVar 4) qNil))) (qCons (qAndV (qVar 5) (qOp2 gEq (qCall q__law_names (qCons (qVar 4) qNil)) (qLst qNil))) qNil))))) (qRet (qK (.bl false))) qNext)
  (qIf (qTru (qVar 5)) (qIf (qOr (qB (qOp2 gNe (qCall q_names_of (qCons (qVar 4) qNil)) (qCall q__law_names (qCons (qVar 4) qNil)))) (qOr (qB (qOp2 gNe (qCall q_size (qCons (qVar 4) qNil)) (qCall q__law_size (qCons (qVar 4) qNil)))) (qB (qOp2 gNe (qCall q_depth (qCons (qVar 4) qNil)) (qCall q__law_depth (qCons (qVar 4) qNil)))))) (qRet (qK (.bl false))) qNext) qNext)))))))
  (qRet (qK (.bl true))))))
theorem dv_law {P : Program} {w : World} {K : PySem.W.Frag} {mg : Str → Option Value} {base : Heap} {k : Nat} {q__law_draws q__law_makers q__law_term q__law_draw q__law_bent q__law_is_term q__law_told q_is_term q_is_tree q__law_names q_depth q__law_depth q_size q__law_size q_names_of : FS} (T : Txt K mg) (h__law_draws : Has P w K mg base "_law_draws" k ["script"] q__law_draws) (h__law_makers : Has P w K mg base "_law_makers" k ["draws"] q__law_makers) (h__law_term : Has P w K mg base "_law_term" k ["draws", "makers", "names", "deep"] q__law_term) (h__law_draw : Has P w K mg base "_law_draw" k ["draws", "limit"] q__law_draw) (h__law_bent : Has P w K mg base "_law_bent" k ["draws", "makers", "value"] q__law_bent) (h__law_is_term : Has P w K mg base "_law_is_term" k ["makers", "value"] q__law_is_term) (h__law_told : Has P w K mg base "_law_told" k ["actual", "due"] q__law_told) (h_is_term : Has P w K mg base "is_term" k ["makers", "value"] q_is_term) (h_is_tree : Has P w K mg base "is_tree" k ["makers", "value"] q_is_tree) (h__law_names : Has P w K mg base "_law_names" k ["term"] q__law_names) (h_depth : Has P w K mg base "depth" k ["term"] q_depth) (h__law_depth : Has P w K mg base "_law_depth" k ["term"] q__law_depth) (h_size : Has P w K mg base "size" k ["term"] q_size) (h__law_size : Has P w K mg base "_law_size" k ["term"] q__law_size) (h_names_of : Has P w K mg base "names_of" k ["term"] q_names_of) (S : FS) (lp : S.io.length = 1)
    (rd : ∀ pvs : List PV, pvs.length = S.io.length → S.pre pvs → rd_law q__law_draws q__law_makers q__law_term q__law_draw q__law_bent q__law_is_term q__law_told q_is_term q_is_tree q__law_names q_depth q__law_depth q_size q__law_size q_names_of (endsOf S pvs) (mk S.io pvs ++ uns 5)) : Has P w K mg base "law" (k + 1) ["script"] S := by
  obtain ⟨f, fd, F, m⟩ := T.d_law.ex
  refine ⟨f, fd, fn_p F sc_law lp (t := rd_law q__law_draws q__law_makers q__law_term q__law_draw q__law_bent q__law_is_term q__law_told q_is_term q_is_tree q__law_names q_depth q__law_depth q_size q__law_size q_names_of) (fun cdv A outer s H E hr => ?_) rd, m, F.kp, F.binds (ps := ["script"]) fun _ _ _ _ _ _ us hl => match us, hl with | [_], _ => rfl, F.at⟩
  exact (qss_cons (qs_own 1 sc_law.nd (qe_callH h__law_draws hr (qa_cons (qv 0) qa_nil)))
  (qss_cons (qs_set 2 sc_law.nd (qe_callH h__law_makers hr (qa_cons (qv 1) qa_nil)))
  (qss_cons (qs_for PassesOwn.never rfl (qi_range1 T.z_range (qa_cons qe_int qa_nil)) (qg_name 3 sc_law.nd) (qss_cons (qs_set 4 sc_law.nd (qe_callH h__law_term hr (qa_cons (qv 1) (qa_cons (qv 2) (qa_cons (qe_lst (qa_cons qe_str (qa_cons qe_str (qa_cons qe_str (qa_cons qe_str qa_nil))))) (qa_cons (qe_callH h__law_draw hr (qa_cons (qv 1) (qa_cons qe_int qa_nil))) qa_nil))))))
  (qss_cons (qs_if (qc_cmp (op_eqP (room64 hr)) (qe_callH h__law_draw hr (qa_cons (qv 1) (qa_cons qe_int qa_nil))) qe_int) (qss_one (qs_set 4 sc_law.nd (qe_callH h__law_bent hr (qa_cons (qv 1) (qa_cons (qv 2) (qa_cons (qv 4) qa_nil)))))) qss_nil)
  (qss_cons (qs_set 5 sc_law.nd (qe_callH h__law_is_term hr (qa_cons (qv 2) (qa_cons (qv 4) qa_nil))))
  (qss_cons (qs_if (qc_not (qc_tru (qe_callH h__law_told hr (qa_cons (qe_callH h_is_term hr (qa_cons (qv 2) (qa_cons (qv 4) qa_nil))) (qa_cons (qv 5) qa_nil))))) (qss_one (qs_ret qe_bl)) qss_nil)
  (qss_cons (qs_if (qc_not (qc_tru (qe_callH h__law_told hr (qa_cons (qe_callH h_is_tree hr (qa_cons (qv 2) (qa_cons (qv 4) qa_nil))) (qa_cons (qe_and (qv 5) (qe_one (qe_cmp (op_eqP (room64 hr)) (qe_callH h__law_names hr (qa_cons (qv 4) qa_nil)) (qe_lst qa_nil)))) qa_nil))))) (qss_one (qs_ret qe_bl)) qss_nil)
  (qss_one (qs_if (qc_tru (qv 5)) (qss_one (qs_if (qw_or (qc_cmp (op_neP (room64 hr)) (qe_callH h_names_of hr (qa_cons (qv 4) qa_nil)) (qe_callH h__law_names hr (qa_cons (qv 4) qa_nil))) (qw_or (qc_cmp (op_neP (room64 hr)) (qe_callH h_size hr (qa_cons (qv 4) qa_nil)) (qe_callH h__law_size hr (qa_cons (qv 4) qa_nil))) (qw_or1 (qc_cmp (op_neP (room64 hr)) (qe_callH h_depth hr (qa_cons (qv 4) qa_nil)) (qe_callH h__law_depth hr (qa_cons (qv 4) qa_nil)))))).qc (qss_one (qs_ret qe_bl)) qss_nil)) qss_nil))))))))
  (qss_one (qs_ret qe_bl)))))

end Lw
set_option maxHeartbeats 4000000
namespace Lw
open PySem L2 PyProof.Rows Px
local macro_rules | `(tactic| walk_at "px") => `(tactic| simp -dsimp only [qVar, qK, qNil, qCons, qTup, qLst, vals, looks, R.look, R.wk, qCB, qB, qOp2, qTru, truG, qAnd, qOr, qNot, qAndV, qOrV, qNotV, qIfE, qNo, qPart, qSl, gSl, qIt, qRng1, qRng2, qgN, qgNil, qgCons, qgT, notIo, notIos_nil, notIos_cons, qYes, qLc, qNext, qSeq, qBreak, qCont, qFrz, frz, qDrop, retG, qRet, qRetN, qIf, qSet, qOwn, qAsg, qFor, qMut, ownTy, gAppend, gExtend, gPop, isOwn, qSetIx, qCall, splitArgs, putOuts, setOwn, finOk, endsOf, mk, outsOf, uns,
  gAdd, gInt, gInt0, gEq, gNe, gIn, gNotIn, gIs, gIsNot, isNon, gIx, getP, gLen, gAbs, gIntC, gSum, gMax, gAll, gAny, gList, gTuple, gIsi, qNeg, qDict0, wipeE, lcGo_nil, br_t, br_f, atI_0, atI_1, atI_2, atI_3, ixN_0, ixN_1, ixN_2, ixN_3, List.length_map, List.length_set, cut_from1, isTy, tyN, tyOk_str, tyOk_tuple, tyOk_int, tyOk_bool, tyOk_list, tyOk_dict, Option.map_some, Option.map_none,
  eqOk_str, eqOk_int, eqOk_bl, eqOk_non, peq_str, peq_int, peq_bl, List.getElem?_cons_zero, List.getElem?_cons_succ, List.getElem?_nil, List.set_cons_zero, List.set_cons_succ, List.zipWith_cons_cons, List.zipWith_nil_left, List.replicate_succ, List.replicate_zero, List.cons_append, List.nil_append, List.length_cons, List.length_nil, List.map_cons, List.map_nil, ↓reduceIte, Bool.false_eq_true, and_true, true_and, Bool.not_true, Bool.not_false, Nat.reduceAdd, Nat.reduceLT, Nat.reduceLeDiff, Nat.zero_lt_succ, Nat.lt_add_one, ne_eq, not_true_eq_false, not_false_eq_true, String.reduceEq, String.reduceBEq, Bool.or_false, Bool.false_or, Bool.or_true, Bool.true_or, Bool.and_false, Bool.and_true, Bool.false_and, Bool.true_and, reduceCtorEq])
/-! ### draws -/
def DrOk (d : PV) : Prop := ∃ (ns : List Int) (pos cell seed : Int), d = .lst [.lst (ns.map PV.int), .int pos, .int cell, .int seed] ∧ 0 ≤ pos
def S_draws : FS := { io := [false], fr := true, pre := fun ps => ∃ ns : List Int, ps = [.scr ns], post := fun _ r _ => DrOk r }
def S_draw : FS := { io := [true, false], pre := fun ps => ∃ d n, ps = [d, .int n] ∧ DrOk d ∧ 0 < n ∧ n < 1000000, post := fun ps r outs => ∃ k d', r = .int k ∧ outs = [d'] ∧ DrOk d' ∧ 0 ≤ k ∧ ∀ d n, ps = [d, .int n] → k < n }
def S_pick : FS := { io := [true, false], pre := fun ps => ∃ d row, ps = [d, row] ∧ isRow row ∧ DrOk d ∧ items row ≠ [] ∧ (items row).length < 1000000, post := fun ps r outs => ∃ d', outs = [d'] ∧ DrOk d' ∧ ∀ d row, ps = [d, row] → r ∈ items row }
/-- makers -/
abbrev Ms := List (Str × Nat)
def encM (m : Str × Nat) : PV := .tup [.str m.1, .int (m.2 : Nat)]
def encMs (ms : Ms) : PV := .tup (ms.map encM)
def words5 : List Str := [Str.ofString "zero", Str.ofString "next", Str.ofString "pair", Str.ofString "top", Str.ofString "x"]
structure MsOk (ms : Ms) : Prop where
  len : ms.length ≤ 5
  two : ∀ m ∈ ms, m.2 ≤ 2
  zero : (Str.ofString "zero", 0) ∈ ms
  nd : (ms.map (·.1)).Nodup
  words : ∀ m ∈ ms, m.1 ∈ words5
def S_makers : FS := { io := [true], pre := fun ps => ∃ d, ps = [d] ∧ DrOk d, post := fun _ r outs => ∃ ms d', r = encMs ms ∧ MsOk ms ∧ outs = [d'] ∧ DrOk d' }
/-- terms over makers and what stands for names -/
inductive TermOf (ms : Ms) (names : List PV) : Nat → PV → Prop where
  | name {n : Nat} {q : PV} (h : q ∈ names) : TermOf ms names n q
  | leaf {n : Nat} {w : Str} (h : (w, 0) ∈ ms) : TermOf ms names n (.tup [.str w])
  | node {n : Nat} {w : Str} {k : Nat} {ps : List PV} (h : (w, k) ∈ ms) (l : ps.length = k) (t : ∀ p ∈ ps, TermOf ms names n p) : TermOf ms names (n + 1) (.tup (.str w :: ps))
def S_term (m : Nat) : FS := { io := [true, false, false, false], pre := fun ps => ∃ d ms names deep, ps = [d, encMs ms, .lst names, .int deep] ∧ DrOk d ∧ MsOk ms ∧ names ≠ [] ∧ names.length < 1000 ∧ 0 ≤ deep ∧ deep < (m : Int), post := fun ps r outs => ∃ d', outs = [d'] ∧ DrOk d' ∧ ∀ d ms names deep, ps = [d, encMs ms, .lst names, .int deep] → TermOf ms names deep.toNat r }
theorem encM_inj {a b : Str × Nat} (h : encM a = encM b) : a = b := by
  unfold encM at h
  injection h with h
  injection h with h1 h
  injection h with h2 h
  injection h1 with h1
  injection h2 with h2
  exact Prod.ext h1 (by omega)
theorem encMs_inj {a b : Ms} (h : encMs a = encMs b) : a = b := by
  unfold encMs at h
  injection h with h
  have := congrArg List.length h
  induction a generalizing b with
  | nil => cases b with
    | nil => rfl
    | cons _ _ => simp at h
  | cons x a ih => cases b with
    | nil => simp at h
    | cons y b =>
      simp only [List.map_cons, List.cons.injEq] at h
      rw [encM_inj h.1, ih h.2 (by simpa using this)]
/-! ### how they are called -/
theorem draw_i {ρ : En} {j : Nat} {b : Bool} {d : PV} {n : Int} {Q : PK1} {dm : Dum Q} (h : ρ[j]? = some (Sl.own b d)) (hd : DrOk d) (h0 : 0 < n) (h1 : n < 1000000) (k : ∀ m d', DrOk d' → 0 ≤ m → m < n → Q (.pv (.int m)) (setOwn ρ j d')) : callR S_draw [.sl j, .pv (.int n)] ρ Q dm := by
  refine call_1 (j := j) (ps := [d, .int n]) (by simp [S_draw, splitArgs, h]) rfl ⟨d, n, rfl, hd, h0, h1⟩ fun r d' hp => ?_
  obtain ⟨m, d2, rfl, e, hd', m0, m1⟩ := hp
  cases e
  exact k m d' hd' m0 (m1 _ _ rfl)
theorem pick_i {ρ : En} {j : Nat} {b : Bool} {d row : PV} {Q : PK1} {dm : Dum Q} (h : ρ[j]? = some (Sl.own b d)) (hd : DrOk d) (hr : isRow row) (hn : items row ≠ []) (hl : (items row).length < 1000000) (k : ∀ r d', DrOk d' → r ∈ items row → Q (.pv r) (setOwn ρ j d')) : callR S_pick [.sl j, .pv row] ρ Q dm := by
  refine call_1 (j := j) (ps := [d, row]) (by simp [S_pick, splitArgs, h]) rfl ⟨d, row, rfl, hr, hd, hn, hl⟩ fun r d' hp => ?_
  obtain ⟨d2, e, hd', hm⟩ := hp
  cases e
  exact k r d' hd' (hm _ _ rfl)
theorem makers_i {ρ : En} {j : Nat} {b : Bool} {d : PV} {Q : PK1} {dm : Dum Q} (h : ρ[j]? = some (Sl.own b d)) (hd : DrOk d) (k : ∀ ms d', DrOk d' → MsOk ms → Q (.pv (encMs ms)) (setOwn ρ j d')) : callR S_makers [.sl j] ρ Q dm := by
  refine call_1 (j := j) (ps := [d]) (by simp [S_makers, splitArgs, h]) rfl ⟨d, rfl, hd⟩ fun r d' hp => ?_
  obtain ⟨ms, d2, rfl, hm, e, hd'⟩ := hp
  cases e
  exact k ms d' hd' hm
theorem draws_i {ρ : En} {ns : List Int} {Q : PK1} {dm : Dum Q} (k : ∀ d, DrOk d → Q (.fr d) ρ) : callR S_draws [.pv (.scr ns)] ρ Q dm := by
  refine call_i (ps := [.scr ns]) (js := []) rfl List.nodup_nil ⟨ns, rfl⟩ fun r outs hp l => ?_
  have e : outs = [] := List.length_eq_zero_iff.mp l
  subst e
  exact k r hp
theorem term_i {ρ : En} {j n : Nat} {b : Bool} {d : PV} {ms : Ms} {names : List PV} {deep : Int} {Q : PK1} {dm : Dum Q} (h : ρ[j]? = some (Sl.own b d)) (hd : DrOk d) (hm : MsOk ms) (hn : names ≠ []) (hl : names.length < 1000) (h0 : 0 ≤ deep) (h1 : deep < (n : Int))
    (k : ∀ r d', DrOk d' → TermOf ms names deep.toNat r → Q (.pv r) (setOwn ρ j d')) : callR (S_term n) [.sl j, .pv (encMs ms), .pv (.lst names), .pv (.int deep)] ρ Q dm := by
  refine call_1 (j := j) (ps := [d, encMs ms, .lst names, .int deep]) (by simp [S_term, splitArgs, h]) rfl ⟨d, ms, names, deep, rfl, hd, hm, hn, hl, h0, h1⟩ fun r d' hp => ?_
  obtain ⟨d2, e, hd', ht⟩ := hp
  cases e
  exact k r d' hd' (ht _ _ _ _ rfl)
section
variable {P : Program} {w : World} {K : PySem.W.Frag} {mg : Str → Option Value} {base : Heap}
theorem ok_draws (T : Txt K mg) : Has P w K mg base "_law_draws" 1 ["script"] S_draws := by
  refine dv__law_draws T S_draws rfl fun pvs lp pre => ?_
  obtain ⟨ns, rfl⟩ := pre
  unfold rd__law_draws S_draws
  walk_at "px"
  exact ⟨small_of (by decide), ns, 0, 0, 1, rfl, Int.le_refl _⟩
theorem drDone {d0 : PV} {ns : List Int} {pos cell seed n c : Int} (hp : 0 ≤ pos) (h0 : 0 < n) : ∃ k d', PV.int (c % n) = PV.int k ∧ [PV.lst [PV.lst (List.map PV.int ns), PV.int pos, PV.int cell, PV.int seed]] = [d'] ∧ DrOk d' ∧ 0 ≤ k ∧ ∀ (d : PV) (m : Int), [d0, PV.int n] = [d, PV.int m] → k < m :=
  ⟨c % n, _, rfl, rfl, ⟨ns, pos, cell, seed, rfl, hp⟩, Int.emod_nonneg _ (by omega), fun d m e => by
    have e2 : n = m := by injection e with _ e; injection e with e _; injection e
    subst e2
    exact Int.emod_lt_of_pos _ h0⟩
theorem ok_draw (T : Txt K mg) : Has P w K mg base "_law_draw" 1 ["draws", "limit"] S_draw := by
  refine dv__law_draw T S_draw rfl fun pvs lp pre => ?_
  obtain ⟨d, n, rfl, ⟨ns, pos, cell, seed, rfl, hp⟩, h0, h1⟩ := pre
  unfold rd__law_draw S_draw
  have hd : ∀ c : Int, CDiv c n := fun c => ⟨h0, by omega⟩
  have h11 : ∀ c : Int, CDiv c 11 := fun c => ⟨by decide, by decide⟩
  have hm : ∀ c : Int, CMul c 69621 := fun c => cmul_r ⟨by decide, by decide⟩
  have hm2 : ∀ c : Int, CMul c 48271 := fun c => cmul_r ⟨by decide, by decide⟩
  have hw : CPow 10 18 := ⟨by decide, by decide, by decide⟩
  have h21 : (0 : Int) < 2147483647 := by decide
  have h22 : (0 : Int) < 2147483629 := by decide
  have hp1 : 0 ≤ pos + 1 := by omega
  walk_at "px"
  constructor
  · intro hc
    constructor
    · intro hl
      have hl' : pos < (ns.length : Int) := of_decide_eq_true hl
      obtain ⟨x, hx⟩ := atI_int hp hl'
      rw [hx]
      walk_at "px"
      refine ⟨hw, fun _ => ⟨hm2 _, h21, fun _ => ⟨h0, hd _, drDone hp1 h0⟩, fun _ => ⟨hm _, h22, h11 _, h0, drDone hp1 h0⟩⟩, fun _ => ⟨hm2 _, h21, fun _ => ⟨h0, hd _, drDone hp1 h0⟩, fun _ => ⟨hm _, h22, h11 _, h0, drDone hp1 h0⟩⟩⟩
    · intro hl
      exact ⟨fun _ => ⟨h0, hd _, drDone hp h0⟩, fun _ => ⟨hm _, h22, h11 _, h0, drDone hp h0⟩⟩
  · intro hc
    exact ⟨fun _ => ⟨h0, hd _, drDone hp h0⟩, fun _ => ⟨hm _, h22, h11 _, h0, drDone hp h0⟩⟩
theorem ok_pick (T : Txt K mg) : Has P w K mg base "_law_pick" 2 ["draws", "row"] S_pick := by
  refine dv__law_pick T (ok_draw T) S_pick rfl fun pvs lp pre => ?_
  obtain ⟨d, row, rfl, hr, hd, hne, hl⟩ := pre
  unfold rd__law_pick S_pick
  have h0 : 0 < (items row).length := List.length_pos_iff.mpr hne
  cases row with
  | lst qs =>
    have h0' : 0 < qs.length := h0
    have hl' : qs.length < 1000000 := hl
    walk_at "px"
    refine draw_i rfl hd (by omega) (by omega) fun k d' hd' k0 k1 => ?_
    walk_at "px"
    obtain ⟨x, e, m⟩ := atI_in k0 k1
    rw [e]
    exact ⟨d', rfl, hd', fun d2 row2 e2 => by injection e2 with _ e2; injection e2 with e2 _; subst e2; exact m⟩
  | tup qs =>
    have h0' : 0 < qs.length := h0
    have hl' : qs.length < 1000000 := hl
    walk_at "px"
    refine draw_i rfl hd (by omega) (by omega) fun k d' hd' k0 k1 => ?_
    walk_at "px"
    obtain ⟨x, e, m⟩ := atI_in k0 k1
    rw [e]
    exact ⟨d', rfl, hd', fun d2 row2 e2 => by injection e2 with _ e2; injection e2 with e2 _; subst e2; exact m⟩
  | _ => exact hr.elim
/-- ahead of the words that are left -/
structure RowsOk (ws : List Str) (ms : Ms) : Prop where
  len : ms.length + ws.length ≤ 5
  two : ∀ m ∈ ms, m.2 ≤ 2
  zero : (Str.ofString "zero", 0) ∈ ms
  nd : (ms.map (·.1) ++ ws).Nodup
  words : (∀ m ∈ ms, m.1 ∈ words5) ∧ ∀ w ∈ ws, w ∈ words5
theorem RowsOk.skip {w : Str} {ws : List Str} {ms : Ms} (h : RowsOk (w :: ws) ms) : RowsOk ws ms := by
  refine ⟨by have := h.len; simp only [List.length_cons] at this; omega, h.two, h.zero, ?_, h.words.1, fun x hx => h.words.2 x (List.mem_cons_of_mem _ hx)⟩
  exact h.nd.sublist (List.Sublist.append_left (List.sublist_cons_self w ws) _)
theorem RowsOk.add {w : Str} {ws : List Str} {ms : Ms} {k : Nat} (h : RowsOk (w :: ws) ms) (hk : k ≤ 2) : RowsOk ws (ms ++ [(w, k)]) := by
  refine ⟨by have := h.len; simp only [List.length_cons, List.length_append, List.length_nil] at this ⊢; omega, fun m hm => ?_, List.mem_append_left _ h.zero, ?_, fun m hm => ?_, fun x hx => h.words.2 x (List.mem_cons_of_mem _ hx)⟩
  · rcases List.mem_append.mp hm with hm | hm
    · exact h.two m hm
    · have : m = (w, k) := by simpa using hm
      rw [this]; exact hk
  · have e : (ms ++ [(w, k)]).map (·.1) ++ ws = ms.map (·.1) ++ w :: ws := by simp
    rw [e]; exact h.nd
  · rcases List.mem_append.mp hm with hm | hm
    · exact h.words.1 m hm
    · have : m = (w, k) := by simpa using hm
      rw [this]; exact h.words.2 w List.mem_cons_self
theorem cut_map {α β : Type} (f : α → β) (xs : List α) (lo hi : Option Int) : cutP (xs.map f) lo hi = (cutP xs lo hi).map f := by
  unfold cutP
  rw [List.length_map, List.map_take, List.map_drop]
theorem cut_hi {α : Type} (xs : List α) (k : Nat) (h : k ≤ xs.length) : cutP xs (some (k : Int)) none = xs.drop k := by
  unfold cutP
  have e1 : HT.sIx xs.length 0 (some (k : Int)) = k := by rw [HT.sIx_nat]; omega
  have e2 : HT.sIx xs.length xs.length none = xs.length := rfl
  rw [e1, e2, List.take_of_length_le (by simp)]
theorem cut_lo {α : Type} (xs : List α) (k : Nat) (h : k ≤ xs.length) : cutP xs none (some (k : Int)) = xs.take k := by
  unfold cutP
  have e1 : HT.sIx xs.length xs.length (some (k : Int)) = k := by rw [HT.sIx_nat]; omega
  have e2 : HT.sIx xs.length 0 none = 0 := rfl
  rw [e1, e2]
  simp
theorem MsOk.turn {ms : Ms} (h : RowsOk [] ms) (k : Nat) : MsOk (ms.drop k ++ ms.take k) := by
  have p : (ms.drop k ++ ms.take k).Perm ms := by
    have := (List.perm_append_comm (l₁ := ms.drop k) (l₂ := ms.take k))
    rw [List.take_append_drop] at this
    exact this
  refine ⟨by rw [p.length_eq]; have := h.len; simpa using this, fun m hm => h.two m (p.mem_iff.mp hm), p.mem_iff.mpr h.zero, ?_, fun m hm => h.words.1 m (p.mem_iff.mp hm)⟩
  have n := h.nd
  rw [List.append_nil] at n
  exact ((p.map (·.1)).nodup_iff).mpr n
theorem makersEnd {ms : Ms} {d' : PV} {k : Int} (hr : RowsOk [] ms) (hd' : DrOk d') (k0 : 0 ≤ k) (k2 : k < (ms.length : Int)) : small ((cutP (ms.map encM) (some k) none).length + (cutP (ms.map encM) none (some k)).length) ∧ ∃ ms_1 d'_1, PV.tup (cutP (ms.map encM) (some k) none ++ cutP (ms.map encM) none (some k)) = encMs ms_1 ∧ MsOk ms_1 ∧ [d'] = [d'_1] ∧ DrOk d'_1 := by
  obtain ⟨j, rfl⟩ : ∃ j : Nat, k = (j : Int) := ⟨k.toNat, by omega⟩
  rw [cut_map, cut_map, cut_hi _ _ (by omega), cut_lo _ _ (by omega)]
  refine ⟨small_of ?_, ms.drop j ++ ms.take j, d', by unfold encMs; rw [List.map_append], MsOk.turn hr j, rfl, hd'⟩
  have := hr.len
  simp only [List.length_map, List.length_drop, List.length_take]
  simp only [List.length_nil] at this
  omega
theorem ok_makers (T : Txt K mg) : Has P w K mg base "_law_makers" 2 ["draws"] S_makers := by
  refine dv__law_makers T (ok_draw T) S_makers rfl fun pvs lp pre => ?_
  obtain ⟨d, rfl, hd⟩ := pre
  unfold rd__law_makers S_makers
  walk_at "px"
  refine ⟨small_of (by decide), small_of (by decide), small_of (by decide), ?_⟩
  refine for_ind (fun ps ρ => ∃ (ws : List Str) (ms : Ms) (d : PV) (s2 : Sl), ps = ws.map PV.str ∧ ρ = [.own true d, .own false (.lst (ms.map encM)), s2, .un] ∧ Pl s2 ∧ DrOk d ∧ RowsOk ws ms) ?_ ?_ _ _ ⟨[Str.ofString "next", Str.ofString "pair", Str.ofString "top", Str.ofString "x"], [(Str.ofString "zero", 0)], d, .un, rfl, rfl, pl_un, hd, ?_⟩
  · rintro ρ ⟨ws, ms, d, s2, e, rfl, ps2, hd, hr⟩
    have ew : ws = [] := by cases ws with
      | nil => rfl
      | cons _ _ => simp at e
    subst ew
    walk_at "px"
    have hl0 : 0 < ms.length := List.length_pos_of_mem hr.zero
    have hl5 := hr.len
    refine draw_i rfl hd (by omega) (by omega) fun k d' hd' k0 k2 => ?_
    · rcases ps2 with rfl | ⟨p2, rfl⟩
      all_goals
       walk_at "px"
       exact makersEnd hr hd' k0 k2
  · rintro p ps ρ ⟨ws, ms, d, s2, e, rfl, ps2, hd, hr⟩ N ih
    cases ws with
    | nil => simp at e
    | cons w ws =>
      simp only [List.map_cons, List.cons.injEq] at e
      obtain ⟨rfl, rfl⟩ := e
      have goal : ∀ s2, Pl s2 → qgN 2 (.str w) [.own true d, .own false (.lst (ms.map encM)), s2, .un] = qgN 2 (.str w) [.own true d, .own false (.lst (ms.map encM)), s2, .un] := fun _ _ => rfl
      rcases ps2 with rfl | ⟨p2, rfl⟩
      all_goals
        walk_at "px"
        refine draw_i rfl hd (by decide) (by decide) fun k d' hd' k0 k1 => ?_
        walk_at "px"
        refine ⟨fun hk => draw_i rfl hd' (by decide) (by decide) fun k' d'' hd'' k0' k2 => ?_, fun hk => ih _ ⟨ws, ms, d', .val (.str w), rfl, rfl, pl_val, hd', hr.skip⟩⟩
        walk_at "px"
        obtain ⟨j, rfl⟩ : ∃ j : Nat, k' = (j : Int) := ⟨k'.toNat, by omega⟩
        refine ⟨small_of (by decide), small_of ?_, ih _ ⟨ws, ms ++ [(w, j)], d'', .val (.str w), rfl, ?_, pl_val, hd'', hr.add (by omega)⟩⟩
        · have := hr.len
          omega
        · rw [List.map_append]; rfl
  · exact ⟨by decide, fun m hm => by have : m = (Str.ofString "zero", 0) := by simpa using hm
                                     rw [this]; decide, by simp, by decide +kernel, by decide +kernel, by decide +kernel⟩
end

end Lw
set_option maxHeartbeats 4000000
namespace Lw
open PySem L2 PyProof.Rows Px
theorem S_term_fr (n : Nat) : (S_term n).fr = false := rfl
theorem S_term_io (n : Nat) : (S_term n).io = [true, false, false, false] := rfl
local macro_rules | `(tactic| walk_at "px") => `(tactic| simp -dsimp only [qVar, qK, qNil, qCons, qTup, qLst, vals, looks, R.look, R.wk, qCB, qB, qOp2, qTru, truG, qAnd, qOr, qNot, qAndV, qOrV, qNotV, qIfE, qNo, qPart, qSl, gSl, qIt, qRng1, qRng2, qgN, qgNil, qgCons, qgT, notIo, notIos_nil, notIos_cons, qYes, qLc, qNext, qSeq, qBreak, qCont, qFrz, frz, qDrop, retG, qRet, qRetN, qIf, qSet, qOwn, qAsg, qFor, qMut, ownTy, gAppend, gExtend, gPop, isOwn, qSetIx, qCall, splitArgs, putOuts, setOwn, finOk, endsOf, mk, outsOf, uns,
  gAdd, gInt, gInt0, gEq, gNe, gIn, gNotIn, gIs, gIsNot, isNon, gIx, getP, gLen, gAbs, gIntC, gSum, gMax, gAll, gAny, gList, gTuple, gIsi, qNeg, qDict0, wipeE, lcGo_nil, br_t, br_f, atI_0, atI_1, atI_2, atI_3, ixN_0, ixN_1, ixN_2, ixN_3, List.length_map, List.length_set, cut_from1, isTy, tyN, tyOk_str, tyOk_tuple, tyOk_int, tyOk_bool, tyOk_list, tyOk_dict, Option.map_some, Option.map_none,
  eqOk_str, eqOk_int, eqOk_bl, eqOk_non, peq_str, peq_int, peq_bl, List.getElem?_cons_zero, List.getElem?_cons_succ, List.getElem?_nil, List.set_cons_zero, List.set_cons_succ, List.zipWith_cons_cons, List.zipWith_nil_left, List.replicate_succ, List.replicate_zero, List.cons_append, List.nil_append, List.length_cons, List.length_nil, List.map_cons, List.map_nil, ↓reduceIte, Bool.false_eq_true, and_true, true_and, Bool.not_true, Bool.not_false, Nat.reduceAdd, Nat.reduceLT, Nat.reduceLeDiff, Nat.zero_lt_succ, Nat.lt_add_one, ne_eq, not_true_eq_false, not_false_eq_true, String.reduceEq, String.reduceBEq, Bool.or_false, Bool.false_or, Bool.or_true, Bool.true_or, Bool.and_false, Bool.and_true, Bool.false_and, Bool.true_and, reduceCtorEq, S_term_fr, S_term_io])
/-- the makers without parts -/
def leaves (ms : Ms) : List PV := (ms.filter fun m => m.2 == 0).map fun m => PV.tup [.str m.1]
theorem leaves_mem {ms : Ms} {p : PV} (h : p ∈ leaves ms) : ∃ v, (v, 0) ∈ ms ∧ p = .tup [.str v] := by
  unfold leaves at h
  obtain ⟨m, hm, rfl⟩ := List.mem_map.mp h
  obtain ⟨h1, h2⟩ := List.mem_filter.mp hm
  have : m.2 = 0 := by simpa using h2
  exact ⟨m.1, by rw [← this]; exact h1, rfl⟩
theorem leaves_ne {ms : Ms} (h : MsOk ms) : leaves ms ≠ [] := by
  have : PV.tup [.str (Str.ofString "zero")] ∈ leaves ms := List.mem_map.mpr ⟨_, List.mem_filter.mpr ⟨h.zero, rfl⟩, rfl⟩
  intro e
  rw [e] at this
  cases this
theorem leaves_len (ms : Ms) : (leaves ms).length ≤ ms.length := by
  unfold leaves
  rw [List.length_map]
  exact List.length_filter_le _ _
section
variable {P : Program} {w : World} {K : PySem.W.Frag} {mg : Str → Option Value} {base : Heap}
theorem ok_term (T : Txt K mg) : ∀ n : Nat, Has P w K mg base "_law_term" (n + 2) ["draws", "makers", "names", "deep"] (S_term n)
  | 0 => by
    refine (Px.has_none T.d__law_term (fun F => F.binds (ps := ["draws", "makers", "names", "deep"]) fun _ _ _ _ _ _ us hl => match us, hl with | [_, _, _, _], _ => rfl) fun pvs h => ?_).mono (by omega)
    obtain ⟨_, _, _, _, _, _, _, _, _, h1, h2⟩ := h
    omega
  | n + 1 => by
    refine dv__law_term T ((ok_draw T).mono (by omega)) ((ok_pick T).mono (by omega)) (ok_term T n) (S_term (n + 1)) rfl fun pvs lp pre => ?_
    obtain ⟨d, ms, names, deep, rfl, hd, hms, hne, hnl, h0, h1⟩ := pre
    have hl5 := hms.len
    -- what is told of the answer
    have told : ∀ {p d' : PV}, DrOk d' → TermOf ms names deep.toNat p → (S_term (n + 1)).post [d, encMs ms, .lst names, .int deep] p [d'] := fun {p d'} hd' ht => ⟨d', rfl, hd', fun d2 ms2 names2 deep2 e => by
      injection e with _ e; injection e with e1 e; injection e with e2 e; injection e with e3 _
      injection e2 with e2; injection e3 with e3
      rw [← encMs_inj e1, ← e2, ← e3]; exact ht⟩
    unfold rd__law_term
    have ends : ∀ D : PEnds, D = endsOf (S_term (n + 1)) [d, encMs ms, .lst names, .int deep] → ∀ d', DrOk d' → qSeq (qIf (qB (qOp2 gEq (qCall S_draw (qCons (qVar 0) (qCons (qK (.int 4)) qNil))) (qK (.int 0)))) (qRet (qCall S_pick (qCons (qVar 0) (qCons (qLc (qIt (qVar 1)) (qgT 2 (qgCons (qgN 4) (qgCons (qgN 5) qgNil))) (qB (qOp2 gEq (qVar 5) (qK (.int 0)))) (qTup (qCons (qVar 4) qNil)) [4, 5]) qNil)))) qNext) (qRet (qCall S_pick (qCons (qVar 0) (qCons (qVar 2) qNil)))) D [.own true d', .val (encMs ms), .val (.lst names), .val (.int deep), .un, .un, .un] := by
      intro D hD d' hd'
      subst hD
      walk_at "px"
      refine draw_i rfl hd' (by decide) (by decide) fun k d2 hd2 k0 k1 => ?_
      walk_at "px"
      refine ⟨fun _ => ?_, fun _ => ?_⟩
      · unfold encMs
        walk_at "px"
        refine lcR_i (lc_ind (fun ps acc ρ => ∃ ms1 ms2 : Ms, ms = ms1 ++ ms2 ∧ ps = ms2.map encM ∧ acc = leaves ms1 ∧ ρ = [.own true d2, .val (.tup (ms.map encM)), .val (.lst names), .val (.int deep), .un, .un, .un]) ?_ ?_ _ _ _ ⟨[], ms, rfl, rfl, rfl, rfl⟩)
        · rintro acc ρ ⟨ms1, ms2, e, e2, rfl, rfl⟩
          have e3 : ms2 = [] := by cases ms2 with
            | nil => rfl
            | cons _ _ => simp at e2
          subst e3
          rw [List.append_nil] at e
          subst e
          walk_at "px"
          have hll := leaves_len ms
          refine pick_i rfl hd2 trivial (leaves_ne hms) (by show (leaves ms).length < _; omega) fun r d3 hd3 hr => ?_
          walk_at "px"
          obtain ⟨v, hv, rfl⟩ := leaves_mem hr
          exact told hd3 (.leaf hv)
        · rintro p ps acc ρ ⟨ms1, ms2, e, e2, rfl, rfl⟩ N ih
          cases ms2 with
          | nil => simp at e2
          | cons m ms2 =>
            simp only [List.map_cons, List.cons.injEq] at e2
            obtain ⟨rfl, rfl⟩ := e2
            unfold encM
            walk_at "px"
            have hs : (leaves ms1).length ≤ ms1.length := leaves_len ms1
            have hl : ms1.length ≤ ms.length := by rw [e]; simp
            refine ⟨fun hz => ⟨small_of (by decide), small_of (by omega), ih _ _ ⟨ms1 ++ [m], ms2, by rw [e]; simp, rfl, ?_, rfl⟩⟩, fun hz => ih _ _ ⟨ms1 ++ [m], ms2, by rw [e]; simp, rfl, ?_, rfl⟩⟩
            · have hm : (m.2 == 0) = true := by simpa using hz
              unfold leaves
              rw [List.filter_append, List.map_append, List.filter_cons, hm]; rfl
            · have hm : (m.2 == 0) = false := by simpa using hz
              unfold leaves
              rw [List.filter_append, List.map_append, List.filter_cons, hm]; simp
      · refine pick_i rfl hd2 trivial hne (by show names.length < _; omega) fun r d3 hd3 hr => ?_
        walk_at "px"
        exact told hd3 (.name hr)
    walk_at "px"
    refine ⟨fun _ => ends _ rfl d hd, fun hz => draw_i rfl hd (by decide) (by decide) fun k d2 hd2 k0 k1 => ?_⟩
    have hz' : deep ≠ 0 := by simpa using hz
    walk_at "px"
    refine ⟨fun _ => ends _ rfl d2 hd2, fun _ => ?_⟩
    have hms0 : ms ≠ [] := fun e => by have := hms.zero; rw [e] at this; cases this
    refine pick_i rfl hd2 trivial (by show ms.map encM ≠ []; simpa using hms0) (by show (ms.map encM).length < _; rw [List.length_map]; omega) fun r d3 hd3 hr => ?_
    obtain ⟨m, hm, rfl⟩ := List.mem_map.mp hr
    have hm2 := hms.two m hm
    unfold encM
    walk_at "px"
    refine ⟨small_of (by decide), ⟨by omega, by omega⟩, ?_⟩
    rw [Int.toNat_natCast]
    refine lcR_i (lc_ind (fun ps acc ρ => ∃ (d : PV) (s6 : Sl), ρ = [.own true d, .val (encMs ms), .val (.lst names), .val (.int deep), .val (.str m.1), .val (.int (m.2 : Nat)), .un] ∧ DrOk d ∧ acc.length + ps.length = m.2 ∧ (∀ p ∈ ps, ∃ i : Int, p = .int i) ∧ ∀ p ∈ acc, TermOf ms names (deep - 1).toNat p) ?_ ?_ _ _ _ ⟨d3, .un, rfl, hd3, by simp [rng], fun p hp => ?_, fun p hp => by cases hp⟩)
    · rintro acc ρ ⟨d4, s6, rfl, hd4, hl, _, ht⟩
      walk_at "px"
      simp only [List.length_nil, Nat.add_zero] at hl
      refine ⟨small_of (by omega), told hd4 ?_⟩
      have e : deep.toNat = (deep - 1).toNat + 1 := by omega
      rw [e]
      exact .node (by rw [hl]; exact hm) rfl ht
    · rintro p ps acc ρ ⟨d4, s6, rfl, hd4, hl, hps, ht⟩ N ih
      obtain ⟨i, rfl⟩ := hps p List.mem_cons_self
      simp only [List.length_cons] at hl
      walk_at "px"
      refine term_i rfl hd4 hms hne hnl (by omega) (by omega) fun r d5 hd5 htr => ?_
      walk_at "px"
      refine ⟨small_of (by omega), ih _ _ ⟨d5, .un, rfl, hd5, by simp only [List.length_append, List.length_cons, List.length_nil]; omega, fun p hp => hps p (List.mem_cons_of_mem _ hp), fun p hp => ?_⟩⟩
      rcases List.mem_append.mp hp with hp | hp
      · exact ht p hp
      · have : p = r := by simpa using hp
        rw [this]; exact htr
    · obtain ⟨i, _, rfl⟩ := List.mem_map.mp hp
      exact ⟨_, rfl⟩
end

end Lw
set_option maxHeartbeats 4000000
namespace Lw
open PySem L2 PyProof.Rows Px
local macro_rules | `(tactic| walk_at "px") => `(tactic| simp -dsimp only [qVar, qK, qNil, qCons, qTup, qLst, vals, looks, R.look, R.wk, qCB, qB, qOp2, qTru, truG, qAnd, qOr, qNot, qAndV, qOrV, qNotV, qIfE, qNo, qPart, qSl, gSl, qIt, qRng1, qRng2, qgN, qgNil, qgCons, qgT, notIo, notIos_nil, notIos_cons, qYes, qLc, qNext, qSeq, qBreak, qCont, qFrz, frz, qDrop, retG, qRet, qRetN, qIf, qSet, qOwn, qAsg, qFor, qMut, ownTy, gAppend, gExtend, gPop, isOwn, qSetIx, qCall, splitArgs, putOuts, setOwn, finOk, endsOf, mk, outsOf, uns,
  gAdd, gInt, gInt0, gEq, gNe, gIn, gNotIn, gIs, gIsNot, isNon, gIx, getP, gLen, gAbs, gIntC, gSum, gMax, gAll, gAny, gList, gTuple, gIsi, qNeg, qDict0, wipeE, lcGo_nil, br_t, br_f, atI_0, atI_1, atI_2, atI_3, ixN_0, ixN_1, ixN_2, ixN_3, List.length_map, List.length_set, cut_from1, isTy, tyN, tyOk_str, tyOk_tuple, tyOk_int, tyOk_bool, tyOk_list, tyOk_dict, Option.map_some, Option.map_none,
  eqOk_str, eqOk_int, eqOk_bl, eqOk_non, peq_str, peq_int, peq_bl, List.getElem?_cons_zero, List.getElem?_cons_succ, List.getElem?_nil, List.set_cons_zero, List.set_cons_succ, List.zipWith_cons_cons, List.zipWith_nil_left, List.replicate_succ, List.replicate_zero, List.cons_append, List.nil_append, List.length_cons, List.length_nil, List.map_cons, List.map_nil, ↓reduceIte, Bool.false_eq_true, and_true, true_and, Bool.not_true, Bool.not_false, Nat.reduceAdd, Nat.reduceLT, Nat.reduceLeDiff, Nat.zero_lt_succ, Nat.lt_add_one, ne_eq, not_true_eq_false, not_false_eq_true, String.reduceEq, String.reduceBEq, Bool.or_false, Bool.false_or, Bool.or_true, Bool.true_or, Bool.and_false, Bool.and_true, Bool.false_and, Bool.true_and, reduceCtorEq])
mutual
/-- data that isinstance may be asked of -/
def good : PV → Bool
  | .tup ps => goods ps
  | .lst ps => goods ps
  | .scr _ => false
  | .ty _ => false
  | .non => true
  | .bl _ => true
  | .int _ => true
  | .str _ => true
  | .dic _ _ => true
def goods : List PV → Bool
  | [] => true
  | p :: ps => good p && goods ps
end
mutual
/-- how many places data has -/
def psz : PV → Nat
  | .tup ps => pszs ps + 1
  | .lst ps => pszs ps + 1
  | .scr _ => 1
  | .ty _ => 1
  | .non => 1
  | .bl _ => 1
  | .int _ => 1
  | .str _ => 1
  | .dic _ _ => 1
def pszs : List PV → Nat
  | [] => 0
  | p :: ps => psz p + pszs ps
end
theorem psz_pos (p : PV) : 0 < psz p := by cases p <;> simp [psz]
theorem pszs_append : ∀ ps qs : List PV, pszs (ps ++ qs) = pszs ps + pszs qs
  | [], qs => by simp [pszs]
  | p :: ps, qs => by simp [pszs, pszs_append ps qs]; omega
theorem goods_append : ∀ ps qs : List PV, goods (ps ++ qs) = (goods ps && goods qs)
  | [], qs => by simp [goods]
  | p :: ps, qs => by simp [goods, goods_append ps qs, Bool.and_assoc]
theorem good_ty {p : PV} (h : good p = true) : tyN p ≠ "" := by cases p <;> first | (simp [good] at h; done) | simp [tyN]
mutual
/-- is it a term over the makers -/
def isTm (ms : Ms) : PV → Bool
  | .str s => !(ms.any fun m => m.1 == s)
  | .tup [] => false
  | .tup (p :: ps) => (match p with
    | .str v => match ms.find? fun m => m.1 == v with
      | some m => m.2 == ps.length
      | none => false
    | _ => false) && isTms ms ps
  | .lst _ => false
  | .scr _ => false
  | .ty _ => false
  | .non => false
  | .bl _ => false
  | .int _ => false
  | .dic _ _ => false
def isTms (ms : Ms) : List PV → Bool
  | [] => true
  | p :: ps => isTm ms p && isTms ms ps
end
theorem isTms_append (ms : Ms) : ∀ ps qs : List PV, isTms ms (ps ++ qs) = (isTms ms ps && isTms ms qs)
  | [], qs => by simp [isTms]
  | p :: ps, qs => by simp [isTms, isTms_append ms ps qs, Bool.and_assoc]
/-- the number of parts, or -1 -/
def pOf (ms : Ms) (s : Str) : Int := match ms.find? fun m => m.1 == s with
  | some m => (m.2 : Nat)
  | none => -1
def S_parts_of : FS := { io := [false, false], pre := fun ps => ∃ ms s, ps = [encMs ms, .str s], post := fun ps r _ => ∀ ms s, ps = [encMs ms, .str s] → r = .int (pOf ms s) }
theorem parts_i {ρ : En} {ms : Ms} {s : Str} {Q : PK1} {dm : Dum Q} (k : Q (.pv (.int (pOf ms s))) ρ) : callR S_parts_of [.pv (encMs ms), .pv (.str s)] ρ Q dm :=
  call_p (ps := [encMs ms, .str s]) rfl rfl ⟨ms, s, rfl⟩ fun r hp => by rw [hp _ _ rfl]; exact k
def S_is_term : FS := { io := [false, false], pre := fun ps => ∃ ms v, ps = [encMs ms, v] ∧ good v = true ∧ psz v ≤ 100000, post := fun ps r _ => ∀ ms v, ps = [encMs ms, v] → r = .bl (isTm ms v) }
theorem is_term_i {ρ : En} {ms : Ms} {v : PV} {Q : PK1} {dm : Dum Q} (h : good v = true) (hz : psz v ≤ 100000) (k : Q (.pv (.bl (isTm ms v))) ρ) : callR S_is_term [.pv (encMs ms), .pv v] ρ Q dm :=
  call_p (ps := [encMs ms, v]) rfl rfl ⟨ms, v, rfl, h, hz⟩ fun r hp => by rw [hp _ _ rfl]; exact k
theorem pOf_ge {ms : Ms} {s : Str} : decide (0 ≤ pOf ms s) = ms.any fun m => m.1 == s := by
  unfold pOf
  cases e : ms.find? fun m => m.1 == s with
  | none =>
    rw [List.find?_eq_none] at e
    have : (ms.any fun m => m.1 == s) = false := by
      rw [List.any_eq_false]
      intro m hm; simpa using e m hm
    rw [this]; rfl
  | some m =>
    have h1 := List.find?_some e
    have h2 := List.mem_of_find?_eq_some e
    have : (ms.any fun m => m.1 == s) = true := List.any_eq_true.mpr ⟨m, h2, h1⟩
    rw [this]
    simp
theorem pOf_len {ms : Ms} {s : Str} {n : Nat} : (pOf ms s == (n : Int)) = match ms.find? fun m => m.1 == s with
    | some m => m.2 == n
    | none => false := by
  unfold pOf
  cases e : ms.find? fun m => m.1 == s with
  | none =>
    simp
  | some m =>
    simp only
    rw [Bool.eq_iff_iff]
    simp only [beq_iff_eq]
    omega
theorem getLast_split {α : Type} {xs : List α} {x : α} (h : xs.getLast? = some x) : xs = xs.dropLast ++ [x] := by
  have ne : xs ≠ [] := fun e => by rw [e] at h; cases h
  have := List.dropLast_concat_getLast ne
  rw [List.getLast?_eq_some_getLast ne] at h
  cases h
  exact this.symm
section
variable {P : Program} {w : World} {K : PySem.W.Frag} {mg : Str → Option Value} {base : Heap}
theorem ok_parts_of (T : Txt K mg) : Has P w K mg base "parts_of" 1 ["makers", "word"] S_parts_of := by
  refine dv_parts_of T S_parts_of rfl fun pvs lp pre => ?_
  obtain ⟨ms, s, rfl⟩ := pre
  have told : ∀ {r : PV}, r = .int (pOf ms s) → S_parts_of.post [encMs ms, .str s] r [] := fun {r} e ms2 s2 e2 => by
    injection e2 with e3 e2; injection e2 with e4 _; injection e4 with e4
    rw [← encMs_inj e3, ← e4]; exact e
  unfold rd_parts_of
  show qSeq _ _ (endsOf S_parts_of _) [.val (.tup (ms.map encM)), .val (.str s), .un, .un]
  walk_at "px"
  refine for_ind (fun ps ρ => ∃ (m1 : Ms) (s2 s3 : Sl), ps = m1.map encM ∧ ρ = [.val (.tup (ms.map encM)), .val (.str s), s2, s3] ∧ Pl s2 ∧ Pl s3 ∧ pOf m1 s = pOf ms s) ?_ ?_ _ _ ⟨ms, .un, .un, rfl, rfl, pl_un, pl_un, rfl⟩
  · rintro ρ ⟨m1, s2, s3, e, rfl, p2, p3, ho⟩
    have e1 : m1 = [] := by cases m1 with
      | nil => rfl
      | cons _ _ => simp at e
    subst e1
    walk_at "px"
    exact told (by rw [← ho]; rfl)
  · rintro p ps ρ ⟨m1, s2, s3, e, rfl, p2, p3, ho⟩ N ih
    cases m1 with
    | nil => simp at e
    | cons m m1 =>
      simp only [List.map_cons, List.cons.injEq] at e
      obtain ⟨rfl, rfl⟩ := e
      unfold encM
      rcases p2 with rfl | ⟨q2, rfl⟩ <;> rcases p3 with rfl | ⟨q3, rfl⟩
      all_goals
        walk_at "px"
        refine ⟨fun hz => told ?_, fun hz => ih _ ⟨m1, _, _, rfl, rfl, pl_val, pl_val, ?_⟩⟩
        · rw [← ho]
          unfold pOf
          rw [List.find?_cons, hz]
        · rw [← ho]
          unfold pOf
          rw [List.find?_cons, hz]
theorem ok_is_term (T : Txt K mg) : Has P w K mg base "is_term" 2 ["makers", "value"] S_is_term := by
  refine dv_is_term T (ok_parts_of T) S_is_term rfl fun pvs lp pre => ?_
  obtain ⟨ms, v, rfl, hg, hz⟩ := pre
  have told : ∀ {r : PV}, r = .bl (isTm ms v) → S_is_term.post [encMs ms, v] r [] := fun {r} e ms2 s2 e2 => by
    injection e2 with e3 e2; injection e2 with e4 _
    rw [← encMs_inj e3, ← e4]; exact e
  unfold rd_is_term
  show qSeq _ _ (endsOf S_is_term _) [.val (encMs ms), .val v, .un, .un]
  walk_at "px"
  refine ⟨small_of (by decide), ?_⟩
  refine while_i (fun m ρ => ∃ (qs : List PV) (s3 : Sl), ρ = [.val (encMs ms), .val v, .own false (.lst qs), s3] ∧ Pl s3 ∧ goods qs = true ∧ pszs qs ≤ 100000 ∧ isTms ms qs = isTm ms v ∧ m = pszs qs) _ ⟨[v], .un, rfl, pl_un, by simp [goods, hg], by simp [pszs]; exact hz, by simp [isTms], rfl⟩ ?_
  rintro m ρ ⟨qs, s3, rfl, p3, hgs, hzs, hq, rfl⟩
  walk_at "px"
  refine ⟨fun hne => ?_, fun he => ?_⟩
  · have ne : qs ≠ [] := fun e => by rw [e] at hne; simp at hne
    obtain ⟨one, e1⟩ : ∃ x, qs.getLast? = some x := ⟨_, List.getLast?_eq_some_getLast ne⟩
    have es := getLast_split e1
    generalize qs.dropLast = init at *
    rw [es] at hgs hzs hq
    rw [goods_append, Bool.and_eq_true] at hgs
    rw [pszs_append] at hzs
    rw [isTms_append] at hq
    have hg1 : good one = true := by have := hgs.2; simpa [goods] using this
    have hz1 : pszs init + psz one ≤ 100000 := by simpa [pszs] using hzs
    have hq1 : (isTms ms init && isTm ms one) = isTm ms v := by simpa [isTms] using hq
    have hm : pszs qs = pszs init + psz one := by rw [es, pszs_append]; simp [pszs]
    have hpos := psz_pos one
    have ht := good_ty hg1
    rw [e1]
    have no : isTm ms one = false → S_is_term.post [encMs ms, v] (.bl false) [] := fun e => told (by rw [← hq1, e, Bool.and_false])
    have go : ∀ (D : Nat → En → Prop), isTm ms one = true → ∃ m', m' < pszs qs ∧ ∃ (qs : List PV) (s3 : Sl), ([.val (encMs ms), .val v, .own false (.lst init), .val one] : En) = [.val (encMs ms), .val v, .own false (.lst qs), s3] ∧ Pl s3 ∧ goods qs = true ∧ pszs qs ≤ 100000 ∧ isTms ms qs = isTm ms v ∧ m' = pszs qs := fun _ e =>
      ⟨pszs init, by omega, init, .val one, rfl, pl_val, hgs.1, by omega, by rw [← hq1, e, Bool.and_true], rfl⟩
    rcases p3 with rfl | ⟨q3, rfl⟩
    all_goals
      cases one with
      | str s =>
        walk_at "px"
        refine parts_i ?_
        walk_at "px"
        have hs : isTm ms (.str s) = !(ms.any fun m => m.1 == s) := by rw [isTm]
        refine ⟨fun h => no (by rw [hs, ← pOf_ge, h]; rfl), fun h => go (fun _ _ => True) (by rw [hs, ← pOf_ge, h]; rfl)⟩
      | tup ps =>
        cases ps with
        | nil =>
          walk_at "px"
          exact ⟨fun _ => no rfl, fun h => by simp at h⟩
        | cons p ps =>
          have hgp : goods (p :: ps) = true := by rw [good] at hg1; exact hg1
          rw [goods, Bool.and_eq_true] at hgp
          have htp := good_ty hgp.1
          cases p with
          | str t =>
            walk_at "px"
            refine ⟨fun h => ?_, fun _ => parts_i ?_⟩
            · simp at h
              omega
            · walk_at "px"
              have hs : isTm ms (.tup (.str t :: ps)) = ((match ms.find? fun m => m.1 == t with
                | some m => m.2 == ps.length
                | none => false) && isTms ms ps) := by rw [isTm]
              have hz2 : pszs init + pszs ps ≤ 100000 := by simp only [psz, pszs] at hz1; omega
              have hl : ((ps.length + 1 : Nat) : Int) - 1 = (ps.length : Int) := by omega
              rw [hl]
              rw [pOf_len]
              refine ⟨fun h => no ?_, fun h => ?_⟩
              · have h' := Bool.not_eq_true' _ ▸ h
                rw [hs, h', Bool.false_and]
              · have h' : (match ms.find? fun m => m.1 == t with
                  | some m => m.2 == ps.length
                  | none => false) = true := by simpa using h
                rw [h', Bool.true_and] at hs
                refine ⟨small_of ?_, ?_⟩
                · have h1 : ∀ xs : List PV, xs.length ≤ pszs xs := by
                    intro xs
                    induction xs with
                    | nil => simp
                    | cons x xs ih => have := psz_pos x; simp only [List.length_cons, pszs]; omega
                  have := h1 init
                  have := h1 ps
                  omega
                · exact ⟨pszs (init ++ ps), by rw [pszs_append]; simp only [psz, pszs] at hm; omega, init ++ ps, _, rfl, pl_val, by rw [goods_append, hgs.1, hgp.2]; rfl, by rw [pszs_append]; exact hz2, by rw [isTms_append, ← hq1, hs], rfl⟩
          | scr _ => simp [good] at hgp
          | ty _ => simp [good] at hgp
          | _ =>
            walk_at "px"
            refine ⟨fun h => no ?_, fun _ => no ?_⟩
            all_goals simp [isTm]
      | scr _ => simp [good] at hg1
      | ty _ => simp [good] at hg1
      | _ =>
        walk_at "px"
        exact no (by rw [isTm])
  · have e : qs = [] := by cases qs with
      | nil => rfl
      | cons _ _ => simp at he
    subst e
    exact told (by rw [← hq]; rfl)
end

end Lw
set_option maxHeartbeats 4000000
namespace Lw
open PySem L2 PyProof.Rows Px
local macro_rules | `(tactic| walk_at "px") => `(tactic| simp -dsimp only [qVar, qK, qNil, qCons, qTup, qLst, vals, looks, R.look, R.wk, qCB, qB, qOp2, qTru, truG, qAnd, qOr, qNot, qAndV, qOrV, qNotV, qIfE, qNo, qPart, qSl, gSl, qIt, qRng1, qRng2, qgN, qgNil, qgCons, qgT, notIo, notIos_nil, notIos_cons, qYes, qLc, qNext, qSeq, qBreak, qCont, qFrz, frz, qDrop, retG, qRet, qRetN, qIf, qSet, qOwn, qAsg, qFor, qMut, ownTy, gAppend, gExtend, gPop, isOwn, qSetIx, qCall, splitArgs, putOuts, setOwn, finOk, endsOf, mk, outsOf, uns,
  gAdd, gInt, gInt0, gEq, gNe, gIn, gNotIn, gIs, gIsNot, isNon, gIx, getP, gLen, gAbs, gIntC, gSum, gMax, gAll, gAny, gList, gTuple, gIsi, qNeg, qDict0, wipeE, lcGo_nil, br_t, br_f, atI_0, atI_1, atI_2, atI_3, ixN_0, ixN_1, ixN_2, ixN_3, List.length_map, List.length_set, cut_from1, isTy, tyN, tyOk_str, tyOk_tuple, tyOk_int, tyOk_bool, tyOk_list, tyOk_dict, Option.map_some, Option.map_none,
  eqOk_str, eqOk_int, eqOk_bl, eqOk_non, peq_str, peq_int, peq_bl, List.getElem?_cons_zero, List.getElem?_cons_succ, List.getElem?_nil, List.set_cons_zero, List.set_cons_succ, List.zipWith_cons_cons, List.zipWith_nil_left, List.replicate_succ, List.replicate_zero, List.cons_append, List.nil_append, List.length_cons, List.length_nil, List.map_cons, List.map_nil, ↓reduceIte, Bool.false_eq_true, and_true, true_and, Bool.not_true, Bool.not_false, Nat.reduceAdd, Nat.reduceLT, Nat.reduceLeDiff, Nat.zero_lt_succ, Nat.lt_add_one, ne_eq, not_true_eq_false, not_false_eq_true, String.reduceEq, String.reduceBEq, Bool.or_false, Bool.false_or, Bool.or_true, Bool.true_or, Bool.and_false, Bool.and_true, Bool.false_and, Bool.true_and, reduceCtorEq])
mutual
/-- the shape of a term -/
def tsh : PV → Bool
  | .str _ => true
  | .tup [] => false
  | .tup (p :: ps) => (match p with
    | .str _ => true
    | _ => false) && tshs ps
  | .lst _ => false
  | .scr _ => false
  | .ty _ => false
  | .non => false
  | .bl _ => false
  | .int _ => false
  | .dic _ _ => false
def tshs : List PV → Bool
  | [] => true
  | p :: ps => tsh p && tshs ps
end
theorem tsh_cases {p : PV} (h : tsh p = true) : (∃ s, p = .str s) ∨ ∃ v ps, p = .tup (.str v :: ps) ∧ tshs ps = true := by
  cases p with
  | str s => exact .inl ⟨s, rfl⟩
  | tup ps =>
    cases ps with
    | nil => simp [tsh] at h
    | cons q ps =>
      cases q with
      | str v => exact .inr ⟨v, ps, rfl, by rw [tsh] at h; simpa using h⟩
      | _ => simp [tsh] at h
  | _ => simp [tsh] at h
theorem tshs_mem {ps : List PV} (h : tshs ps = true) : ∀ p ∈ ps, tsh p = true := by
  induction ps with
  | nil => intro p hp; cases hp
  | cons q ps ih =>
    rw [tshs, Bool.and_eq_true] at h
    intro p hp
    rcases List.mem_cons.mp hp with rfl | hp
    · exact h.1
    · exact ih h.2 p hp
theorem dep_mem {ps : List PV} : ∀ p ∈ ps, dep p ≤ deps ps := by
  induction ps with
  | nil => intro p hp; cases hp
  | cons q ps ih =>
    intro p hp
    rw [deps]
    rcases List.mem_cons.mp hp with rfl | hp
    · omega
    · have := ih p hp; omega
theorem psz_mem {ps : List PV} : ∀ p ∈ ps, psz p ≤ pszs ps := by
  induction ps with
  | nil => intro p hp; cases hp
  | cons q ps ih =>
    intro p hp
    rw [pszs]
    rcases List.mem_cons.mp hp with rfl | hp
    · omega
    · have := ih p hp; omega
theorem len_pszs : ∀ xs : List PV, xs.length ≤ pszs xs
  | [] => by simp
  | x :: xs => by have := psz_pos x; have := len_pszs xs; simp only [List.length_cons, pszs]; omega
/-! ### names, size, depth of terms -/
mutual
def nms : PV → List Str
  | .str s => [s]
  | .tup [] => []
  | .tup (_ :: ps) => nmsGo [] ps
  | .lst _ => []
  | .scr _ => []
  | .ty _ => []
  | .non => []
  | .bl _ => []
  | .int _ => []
  | .dic _ _ => []
def nmsGo : List Str → List PV → List Str
  | acc, [] => acc
  | acc, p :: ps => nmsGo (acc ++ (nms p).filter fun s => !acc.contains s) ps
end
mutual
def sz : PV → Int
  | .tup [] => 1
  | .tup (_ :: ps) => 1 + szs ps
  | .str _ => 1
  | .lst _ => 1
  | .scr _ => 1
  | .ty _ => 1
  | .non => 1
  | .bl _ => 1
  | .int _ => 1
  | .dic _ _ => 1
def szs : List PV → Int
  | [] => 0
  | p :: ps => sz p + szs ps
end
mutual
def dpt : PV → Int
  | .tup [] => 1
  | .tup (_ :: ps) => 1 + dpts 0 ps
  | .str _ => 1
  | .lst _ => 1
  | .scr _ => 1
  | .ty _ => 1
  | .non => 1
  | .bl _ => 1
  | .int _ => 1
  | .dic _ _ => 1
def dpts : Int → List PV → Int
  | m, [] => m
  | m, p :: ps => dpts (if dpt p > m then dpt p else m) ps
end
mutual
theorem nms_len : ∀ p : PV, (nms p).length ≤ psz p
  | .str s => by simp [nms, psz]
  | .tup [] => by simp [nms]
  | .tup (p :: ps) => by
    have := nmsGo_len [] ps
    have h := psz_pos p
    rw [nms, psz, pszs]
    simp only [List.length_nil, Nat.zero_add] at this
    omega
  | .lst _ => by simp [nms]
  | .scr _ => by simp [nms]
  | .ty _ => by simp [nms]
  | .non => by simp [nms]
  | .bl _ => by simp [nms]
  | .int _ => by simp [nms]
  | .dic _ _ => by simp [nms]
theorem nmsGo_len : ∀ (acc : List Str) (ps : List PV), (nmsGo acc ps).length ≤ acc.length + pszs ps
  | acc, [] => by simp [nmsGo]
  | acc, p :: ps => by
    have h1 := nms_len p
    have h2 := nmsGo_len (acc ++ (nms p).filter fun s => !acc.contains s) ps
    have h3 := List.length_filter_le (fun s => !acc.contains s) (nms p)
    rw [nmsGo, pszs]
    simp only [List.length_append] at h2
    omega
end
theorem dpt_pos : ∀ p : PV, 1 ≤ dpt p
  | .tup [] => by simp [dpt]
  | .tup (_ :: ps) => by
    have : ∀ (ps : List PV) (m : Int), m ≤ dpts m ps := by
      intro ps
      induction ps with
      | nil => intro m; simp [dpts]
      | cons p ps ih => intro m; rw [dpts]; have := ih (if dpt p > m then dpt p else m); split at this <;> split <;> omega
    have h := this ps 0
    rw [dpt]; omega
  | .str _ => by simp [dpt]
  | .lst _ => by simp [dpt]
  | .scr _ => by simp [dpt]
  | .ty _ => by simp [dpt]
  | .non => by simp [dpt]
  | .bl _ => by simp [dpt]
  | .int _ => by simp [dpt]
  | .dic _ _ => by simp [dpt]
theorem asInts_map {α : Type} (f : α → Int) : ∀ xs : List α, asInts (xs.map fun x => PV.int (f x)) = some (xs.map f)
  | [] => rfl
  | x :: xs => by
    show (asInts (xs.map fun x => PV.int (f x))).map (f x :: ·) = _
    rw [asInts_map f xs]; rfl
theorem sum_szs : ∀ ps : List PV, (ps.map sz).sum = szs ps
  | [] => rfl
  | p :: ps => by rw [List.map_cons, List.sum_cons, sum_szs ps, szs]
theorem maxI_dpts : ∀ (ps : List PV) (m : Int), maxI m (ps.map dpt) = dpts m ps
  | [], m => rfl
  | p :: ps, m => by rw [List.map_cons, maxI, maxI_dpts ps, dpts]
theorem plains_strs : ∀ ss : List Str, plains (ss.map PV.str) = true
  | [] => rfl
  | s :: ss => by simp [plains, Px.plain, plains_strs ss]
theorem deps_strs : ∀ ss : List Str, deps (ss.map PV.str) = 0
  | [] => rfl
  | s :: ss => by simp [deps, dep, deps_strs ss]
theorem eqOk_strs (ss : List Str) : eqOk (.lst (ss.map PV.str)) := ⟨by rw [Px.plain]; exact plains_strs ss, by rw [dep, deps_strs]; decide⟩
theorem memP_strs (s : Str) : ∀ ss : List Str, memP (.str s) (ss.map PV.str) = ss.contains s
  | [] => rfl
  | t :: ss => by
    have ih := memP_strs s ss
    unfold memP at ih ⊢
    rw [List.map_cons, List.any_cons, ih, peq_str, List.contains_cons, Bool.eq_iff_iff]
    simp only [Bool.or_eq_true, beq_iff_eq]
    constructor
    · rintro (h | h)
      · exact .inl h.symm
      · exact .inr h
    · rintro (h | h)
      · exact .inl h.symm
      · exact .inr h
theorem peqs_strs : ∀ as bs : List Str, peqs (as.map PV.str) (bs.map PV.str) = (as == bs)
  | [], [] => rfl
  | [], _ :: _ => rfl
  | _ :: _, [] => rfl
  | a :: as, b :: bs => by
    rw [List.map_cons, List.map_cons, peqs_cons, peq_str, peqs_strs as bs]
    rfl
/-- a def of one term, by recursion: level n serves terms nested less than n deep -/
def S_tm (f : PV → PV) (n : Nat) : FS := { io := [false], pre := fun ps => ∃ p, ps = [p] ∧ tsh p = true ∧ dep p < n ∧ psz p ≤ 100000, post := fun ps r _ => ∀ p, ps = [p] → r = f p }
theorem tm_i {f : PV → PV} {n : Nat} {ρ : En} {p : PV} {Q : PK1} {dm : Dum Q} (h : tsh p = true) (hd : dep p < n) (hz : psz p ≤ 100000) (k : Q (.pv (f p)) ρ) : callR (S_tm f n) [.pv p] ρ Q dm :=
  call_p (ps := [p]) rfl rfl ⟨p, rfl, h, hd, hz⟩ fun r hp => by rw [hp _ rfl]; exact k
theorem S_tm_fr (f : PV → PV) (n : Nat) : (S_tm f n).fr = false := rfl
theorem S_tm_io (f : PV → PV) (n : Nat) : (S_tm f n).io = [false] := rfl
theorem tm_told {f : PV → PV} {n : Nat} {p r : PV} (e : r = f p) : (S_tm f n).post [p] r [] := fun q e2 => by injection e2 with e2 _; rw [← e2]; exact e
abbrev S_names := S_tm fun p => .lst ((nms p).map PV.str)
abbrev S_size := S_tm fun p => .int (sz p)
abbrev S_depth := S_tm fun p => .int (dpt p)

end Lw
set_option maxHeartbeats 4000000
namespace Lw
open PySem L2 PyProof.Rows Px
local macro_rules | `(tactic| walk_at "px") => `(tactic| simp -dsimp only [qVar, qK, qNil, qCons, qTup, qLst, vals, looks, R.look, R.wk, qCB, qB, qOp2, qTru, truG, qAnd, qOr, qNot, qAndV, qOrV, qNotV, qIfE, qNo, qPart, qSl, gSl, qIt, qRng1, qRng2, qgN, qgNil, qgCons, qgT, notIo, notIos_nil, notIos_cons, qYes, qLc, qNext, qSeq, qBreak, qCont, qFrz, frz, qDrop, retG, qRet, qRetN, qIf, qSet, qOwn, qAsg, qFor, qMut, ownTy, gAppend, gExtend, gPop, isOwn, qSetIx, qCall, splitArgs, putOuts, setOwn, finOk, endsOf, mk, outsOf, uns,
  gAdd, gInt, gInt0, gEq, gNe, gIn, gNotIn, gIs, gIsNot, isNon, gIx, getP, gLen, gAbs, gIntC, gSum, gMax, gAll, gAny, gList, gTuple, gIsi, qNeg, qDict0, wipeE, lcGo_nil, br_t, br_f, atI_0, atI_1, atI_2, atI_3, ixN_0, ixN_1, ixN_2, ixN_3, List.length_map, List.length_set, cut_from1, isTy, tyN, tyOk_str, tyOk_tuple, tyOk_int, tyOk_bool, tyOk_list, tyOk_dict, Option.map_some, Option.map_none,
  eqOk_str, eqOk_int, eqOk_bl, eqOk_non, peq_str, peq_int, peq_bl, List.getElem?_cons_zero, List.getElem?_cons_succ, List.getElem?_nil, List.set_cons_zero, List.set_cons_succ, List.zipWith_cons_cons, List.zipWith_nil_left, List.replicate_succ, List.replicate_zero, List.cons_append, List.nil_append, List.length_cons, List.length_nil, List.map_cons, List.map_nil, ↓reduceIte, Bool.false_eq_true, and_true, true_and, Bool.not_true, Bool.not_false, Nat.reduceAdd, Nat.reduceLT, Nat.reduceLeDiff, Nat.zero_lt_succ, Nat.lt_add_one, ne_eq, not_true_eq_false, not_false_eq_true, String.reduceEq, String.reduceBEq, Bool.or_false, Bool.false_or, Bool.or_true, Bool.true_or, Bool.and_false, Bool.and_true, Bool.false_and, Bool.true_and, reduceCtorEq, S_tm_fr, S_tm_io])
section
variable {P : Program} {w : World} {K : PySem.W.Frag} {mg : Str → Option Value} {base : Heap}
theorem tm_zero {f : PV → PV} {x : Str} {st : Stmt} (d : IsDef K mg x st) (b : ∀ {f : Addr} {fd : FuncData}, Fun K x x st f fd → Binds K fd ["term"] []) : Has P w K mg base x 0 ["term"] (S_tm f 0) := by
  refine Px.has_none d b fun pvs h => ?_
  obtain ⟨_, _, _, h, _⟩ := h
  omega
theorem ok_size (T : Txt K mg) : ∀ n : Nat, Has P w K mg base "size" n ["term"] (S_size n)
  | 0 => tm_zero T.d_size fun F => F.binds (ps := ["term"]) fun _ _ _ _ _ _ us hl => match us, hl with | [_], _ => rfl
  | n + 1 => by
    refine dv_size T (ok_size T n) (S_size (n + 1)) rfl fun pvs lp pre => ?_
    obtain ⟨p, rfl, ht, hd, hz⟩ := pre
    unfold rd_size
    show qSeq _ _ (endsOf _ _) [.val p, .un]
    rcases tsh_cases ht with ⟨s, rfl⟩ | ⟨v, ps, rfl, hts⟩
    · walk_at "px"
      exact tm_told rfl
    · walk_at "px"
      have hd2 : deps ps < n := by rw [dep, deps] at hd; omega
      have hz2 : pszs ps ≤ 100000 := by rw [psz, pszs] at hz; omega
      refine lcR_i (lc_ind (fun qs acc ρ => ∃ done : List PV, ps = done ++ qs ∧ acc = done.map (fun p => PV.int (sz p)) ∧ ρ = [.val (.tup (.str v :: ps)), .un]) ?_ ?_ _ _ _ ⟨[], rfl, rfl, rfl⟩)
      · rintro acc ρ ⟨done, e, rfl, rfl⟩
        rw [List.append_nil] at e
        subst e
        walk_at "px"
        rw [asInts_map]
        walk_at "px"
        exact tm_told (by rw [sum_szs, sz])
      · rintro q qs acc ρ ⟨done, e, rfl, rfl⟩ N ih
        have hm : q ∈ ps := by rw [e]; simp
        walk_at "px"
        refine tm_i (tshs_mem hts q hm) (by have := dep_mem q hm; omega) (by have := psz_mem q hm; omega) ?_
        walk_at "px"
        refine ⟨small_of ?_, ih _ _ ⟨done ++ [q], by rw [e]; simp, by simp, rfl⟩⟩
        have := len_pszs ps
        rw [e] at this
        simp only [List.length_append, List.length_cons] at this
        rw [← e] at this
        omega
theorem ok_depth (T : Txt K mg) : ∀ n : Nat, Has P w K mg base "depth" n ["term"] (S_depth n)
  | 0 => tm_zero T.d_depth fun F => F.binds (ps := ["term"]) fun _ _ _ _ _ _ us hl => match us, hl with | [_], _ => rfl
  | n + 1 => by
    refine dv_depth T (ok_depth T n) (S_depth (n + 1)) rfl fun pvs lp pre => ?_
    obtain ⟨p, rfl, ht, hd, hz⟩ := pre
    unfold rd_depth
    show qSeq _ _ (endsOf _ _) [.val p, .un]
    rcases tsh_cases ht with ⟨s, rfl⟩ | ⟨v, ps, rfl, hts⟩
    · walk_at "px"
      exact tm_told rfl
    · walk_at "px"
      have hd2 : deps ps < n := by rw [dep, deps] at hd; omega
      have hz2 : pszs ps ≤ 100000 := by rw [psz, pszs] at hz; omega
      refine ⟨small_of (by decide), lcR_i (lc_ind (fun qs acc ρ => ∃ done : List PV, ps = done ++ qs ∧ acc = done.map (fun p => PV.int (dpt p)) ∧ ρ = [.val (.tup (.str v :: ps)), .un]) ?_ ?_ _ _ _ ⟨[], rfl, rfl, rfl⟩)⟩
      · rintro acc ρ ⟨done, e, rfl, rfl⟩
        rw [List.append_nil] at e
        subst e
        walk_at "px"
        have hl := len_pszs ps
        refine ⟨small_of (by omega), ?_⟩
        have ei : asInts (PV.int 0 :: ps.map fun p => PV.int (dpt p)) = some (0 :: ps.map dpt) := by
          show (asInts (ps.map fun p => PV.int (dpt p))).map (0 :: ·) = _
          rw [asInts_map]; rfl
        rw [ei]
        walk_at "px"
        exact tm_told (by rw [maxI_dpts, dpt])
      · rintro q qs acc ρ ⟨done, e, rfl, rfl⟩ N ih
        have hm : q ∈ ps := by rw [e]; simp
        walk_at "px"
        refine tm_i (tshs_mem hts q hm) (by have := dep_mem q hm; omega) (by have := psz_mem q hm; omega) ?_
        walk_at "px"
        refine ⟨small_of ?_, ih _ _ ⟨done ++ [q], by rw [e]; simp, by simp, rfl⟩⟩
        have := len_pszs ps
        rw [e] at this
        simp only [List.length_append, List.length_cons] at this
        rw [← e] at this
        omega
end

end Lw
set_option maxHeartbeats 4000000
namespace Lw
open PySem L2 PyProof.Rows Px
local macro_rules | `(tactic| walk_at "px") => `(tactic| simp -dsimp only [qVar, qK, qNil, qCons, qTup, qLst, vals, looks, R.look, R.wk, qCB, qB, qOp2, qTru, truG, qAnd, qOr, qNot, qAndV, qOrV, qNotV, qIfE, qNo, qPart, qSl, gSl, qIt, qRng1, qRng2, qgN, qgNil, qgCons, qgT, notIo, notIos_nil, notIos_cons, qYes, qLc, qNext, qSeq, qBreak, qCont, qFrz, frz, qDrop, retG, qRet, qRetN, qIf, qSet, qOwn, qAsg, qFor, qMut, ownTy, gAppend, gExtend, gPop, isOwn, qSetIx, qCall, splitArgs, putOuts, setOwn, finOk, endsOf, mk, outsOf, uns,
  gAdd, gInt, gInt0, gEq, gNe, gIn, gNotIn, gIs, gIsNot, isNon, gIx, getP, gLen, gAbs, gIntC, gSum, gMax, gAll, gAny, gList, gTuple, gIsi, qNeg, qDict0, wipeE, lcGo_nil, br_t, br_f, atI_0, atI_1, atI_2, atI_3, ixN_0, ixN_1, ixN_2, ixN_3, List.length_map, List.length_set, cut_from1, isTy, tyN, tyOk_str, tyOk_tuple, tyOk_int, tyOk_bool, tyOk_list, tyOk_dict, Option.map_some, Option.map_none,
  eqOk_str, eqOk_int, eqOk_bl, eqOk_non, peq_str, peq_int, peq_bl, List.getElem?_cons_zero, List.getElem?_cons_succ, List.getElem?_nil, List.set_cons_zero, List.set_cons_succ, List.zipWith_cons_cons, List.zipWith_nil_left, List.replicate_succ, List.replicate_zero, List.cons_append, List.nil_append, List.length_cons, List.length_nil, List.map_cons, List.map_nil, ↓reduceIte, Bool.false_eq_true, and_true, true_and, Bool.not_true, Bool.not_false, Nat.reduceAdd, Nat.reduceLT, Nat.reduceLeDiff, Nat.zero_lt_succ, Nat.lt_add_one, ne_eq, not_true_eq_false, not_false_eq_true, String.reduceEq, String.reduceBEq, Bool.or_false, Bool.false_or, Bool.or_true, Bool.true_or, Bool.and_false, Bool.and_true, Bool.false_and, Bool.true_and, reduceCtorEq, S_tm_fr, S_tm_io])
theorem nmsGo_cons (acc : List Str) (p : PV) (ps : List PV) : nmsGo acc (p :: ps) = nmsGo (acc ++ (nms p).filter fun s => !acc.contains s) ps := by rw [nmsGo]
theorem nmsGo_nil (acc : List Str) : nmsGo acc [] = acc := by rw [nmsGo]
section
variable {P : Program} {w : World} {K : PySem.W.Frag} {mg : Str → Option Value} {base : Heap}
theorem ok_names_of (T : Txt K mg) : ∀ n : Nat, Has P w K mg base "names_of" n ["term"] (S_names n)
  | 0 => tm_zero T.d_names_of fun F => F.binds (ps := ["term"]) fun _ _ _ _ _ _ us hl => match us, hl with | [_], _ => rfl
  | n + 1 => by
    refine dv_names_of T (ok_names_of T n) (S_names (n + 1)) rfl fun pvs lp pre => ?_
    obtain ⟨p, rfl, ht, hd, hz⟩ := pre
    unfold rd_names_of
    show qSeq _ _ (endsOf _ _) [.val p, .un, .un, .un]
    rcases tsh_cases ht with ⟨s, rfl⟩ | ⟨v, ps, rfl, hts⟩
    · walk_at "px"
      exact ⟨small_of (by decide), tm_told (by rw [nms]; rfl)⟩
    · walk_at "px"
      have hd2 : deps ps < n := by rw [dep, deps] at hd; omega
      have hz2 : pszs ps ≤ 100000 := by rw [psz, pszs] at hz; omega
      refine ⟨small_of (by decide), for_ind (fun qs ρ => ∃ (done : List PV) (acc : List Str) (s2 : Sl), ps = done ++ qs ∧ nmsGo acc qs = nmsGo [] ps ∧ acc.length + pszs qs ≤ 100000 ∧ ρ = [.val (.tup (.str v :: ps)), .own false (.lst (acc.map PV.str)), s2, .un] ∧ Pl s2) ?_ ?_ _ _ ⟨[], [], .un, rfl, rfl, by simpa using hz2, rfl, pl_un⟩⟩
      · rintro ρ ⟨done, acc, s2, e, hn, hl, rfl, p2⟩
        rw [nmsGo_nil] at hn
        walk_at "px"
        exact tm_told (by rw [nms, ← hn])
      · rintro q qs ρ ⟨done, acc, s2, e, hn, hl, rfl, p2⟩ N ih
        have hm : q ∈ ps := by rw [e]; simp
        rw [nmsGo_cons] at hn
        rw [pszs] at hl
        have hlq := nms_len q
        rcases p2 with rfl | ⟨q2, rfl⟩
        all_goals
          walk_at "px"
          refine tm_i (tshs_mem hts q hm) (by have := dep_mem q hm; omega) (by have := psz_mem q hm; omega) ?_
          walk_at "px"
          refine lcR_i (lc_ind (fun rs acc2 ρ => ∃ d2 r2 : List Str, nms q = d2 ++ r2 ∧ rs = r2.map PV.str ∧ acc2 = (d2.filter fun s => !acc.contains s).map PV.str ∧ ρ = [.val (.tup (.str v :: ps)), .own false (.lst (acc.map PV.str)), .val q, .un]) ?_ ?_ _ _ _ ⟨[], nms q, rfl, rfl, rfl, rfl⟩)
          · rintro acc2 ρ ⟨d2, r2, e2, e3, rfl, rfl⟩
            have e4 : r2 = [] := by cases r2 with
              | nil => rfl
              | cons _ _ => simp at e3
            subst e4
            rw [List.append_nil] at e2
            walk_at "px"
            have hf := List.length_filter_le (fun s => !acc.contains s) (nms q)
            refine ⟨small_of (by rw [← e2]; omega), ih _ ⟨done ++ [q], acc ++ (nms q).filter fun s => !acc.contains s, .val q, by rw [e]; simp, hn, by simp only [List.length_append]; omega, ?_, pl_val⟩⟩
            rw [List.map_append, e2]
          · rintro r rs acc2 ρ ⟨d2, r2, e2, e3, rfl, rfl⟩ N2 ih2
            cases r2 with
            | nil => simp at e3
            | cons s r2 =>
              simp only [List.map_cons, List.cons.injEq] at e3
              obtain ⟨rfl, rfl⟩ := e3
              walk_at "px"
              rw [memP_strs]
              have hl3 : (d2.filter fun s => !acc.contains s).length ≤ d2.length := List.length_filter_le _ _
              have hl4 : d2.length ≤ (nms q).length := by rw [e2]; simp
              refine ⟨eqOk_strs _, fun h => ⟨small_of (by omega), ih2 _ _ ⟨d2 ++ [s], r2, by rw [e2]; simp, rfl, ?_, rfl⟩⟩, fun h => ih2 _ _ ⟨d2 ++ [s], r2, by rw [e2]; simp, rfl, ?_, rfl⟩⟩
              · rw [List.filter_append, List.map_append, List.filter_cons, h]; rfl
              · rw [List.filter_append, List.map_append, List.filter_cons, h]; simp
theorem ok_law_names (T : Txt K mg) : ∀ n : Nat, Has P w K mg base "_law_names" n ["term"] (S_names n)
  | 0 => tm_zero T.d__law_names fun F => F.binds (ps := ["term"]) fun _ _ _ _ _ _ us hl => match us, hl with | [_], _ => rfl
  | n + 1 => by
    refine dv__law_names T (ok_law_names T n) (S_names (n + 1)) rfl fun pvs lp pre => ?_
    obtain ⟨p, rfl, ht, hd, hz⟩ := pre
    unfold rd__law_names
    show qSeq _ _ (endsOf _ _) [.val p, .un, .un, .un]
    rcases tsh_cases ht with ⟨s, rfl⟩ | ⟨v, ps, rfl, hts⟩
    · walk_at "px"
      exact ⟨small_of (by decide), tm_told (by rw [nms]; rfl)⟩
    · walk_at "px"
      have hd2 : deps ps < n := by rw [dep, deps] at hd; omega
      have hz2 : pszs ps ≤ 100000 := by rw [psz, pszs] at hz; omega
      refine ⟨small_of (by decide), for_ind (fun qs ρ => ∃ (done : List PV) (acc : List Str) (s2 : Sl), ps = done ++ qs ∧ nmsGo acc qs = nmsGo [] ps ∧ acc.length + pszs qs ≤ 100000 ∧ ρ = [.val (.tup (.str v :: ps)), .val (.lst (acc.map PV.str)), s2, .un] ∧ Pl s2) ?_ ?_ _ _ ⟨[], [], .un, rfl, rfl, by simpa using hz2, rfl, pl_un⟩⟩
      · rintro ρ ⟨done, acc, s2, e, hn, hl, rfl, p2⟩
        rw [nmsGo_nil] at hn
        walk_at "px"
        exact tm_told (by rw [nms, ← hn])
      · rintro q qs ρ ⟨done, acc, s2, e, hn, hl, rfl, p2⟩ N ih
        have hm : q ∈ ps := by rw [e]; simp
        rw [nmsGo_cons] at hn
        rw [pszs] at hl
        have hlq := nms_len q
        rcases p2 with rfl | ⟨q2, rfl⟩
        all_goals
          walk_at "px"
          refine tm_i (tshs_mem hts q hm) (by have := dep_mem q hm; omega) (by have := psz_mem q hm; omega) ?_
          walk_at "px"
          refine lcR_i (lc_ind (fun rs acc2 ρ => ∃ d2 r2 : List Str, nms q = d2 ++ r2 ∧ rs = r2.map PV.str ∧ acc2 = (d2.filter fun s => !acc.contains s).map PV.str ∧ ρ = [.val (.tup (.str v :: ps)), .val (.lst (acc.map PV.str)), .val q, .un]) ?_ ?_ _ _ _ ⟨[], nms q, rfl, rfl, rfl, rfl⟩)
          · rintro acc2 ρ ⟨d2, r2, e2, e3, rfl, rfl⟩
            have e4 : r2 = [] := by cases r2 with
              | nil => rfl
              | cons _ _ => simp at e3
            subst e4
            rw [List.append_nil] at e2
            walk_at "px"
            have hf := List.length_filter_le (fun s => !acc.contains s) (nms q)
            refine ⟨small_of (by rw [← e2]; omega), ih _ ⟨done ++ [q], acc ++ (nms q).filter fun s => !acc.contains s, .val q, by rw [e]; simp, hn, by simp only [List.length_append]; omega, ?_, pl_val⟩⟩
            rw [List.map_append, e2]
          · rintro r rs acc2 ρ ⟨d2, r2, e2, e3, rfl, rfl⟩ N2 ih2
            cases r2 with
            | nil => simp at e3
            | cons s r2 =>
              simp only [List.map_cons, List.cons.injEq] at e3
              obtain ⟨rfl, rfl⟩ := e3
              walk_at "px"
              rw [memP_strs]
              have hl3 : (d2.filter fun s => !acc.contains s).length ≤ d2.length := List.length_filter_le _ _
              have hl4 : d2.length ≤ (nms q).length := by rw [e2]; simp
              refine ⟨eqOk_strs _, fun h => ⟨small_of (by omega), ih2 _ _ ⟨d2 ++ [s], r2, by rw [e2]; simp, rfl, ?_, rfl⟩⟩, fun h => ih2 _ _ ⟨d2 ++ [s], r2, by rw [e2]; simp, rfl, ?_, rfl⟩⟩
              · rw [List.filter_append, List.map_append, List.filter_cons, h]; rfl
              · rw [List.filter_append, List.map_append, List.filter_cons, h]; simp
theorem ok_law_size (T : Txt K mg) : ∀ n : Nat, Has P w K mg base "_law_size" n ["term"] (S_size n)
  | 0 => tm_zero T.d__law_size fun F => F.binds (ps := ["term"]) fun _ _ _ _ _ _ us hl => match us, hl with | [_], _ => rfl
  | n + 1 => by
    refine dv__law_size T (ok_law_size T n) (S_size (n + 1)) rfl fun pvs lp pre => ?_
    obtain ⟨p, rfl, ht, hd, hz⟩ := pre
    unfold rd__law_size
    show qSeq _ _ (endsOf _ _) [.val p, .un]
    rcases tsh_cases ht with ⟨s, rfl⟩ | ⟨v, ps, rfl, hts⟩
    · walk_at "px"
      exact tm_told rfl
    · walk_at "px"
      have hd2 : deps ps < n := by rw [dep, deps] at hd; omega
      have hz2 : pszs ps ≤ 100000 := by rw [psz, pszs] at hz; omega
      refine lcR_i (lc_ind (fun qs acc ρ => ∃ done : List PV, ps = done ++ qs ∧ acc = done.map (fun p => PV.int (sz p)) ∧ ρ = [.val (.tup (.str v :: ps)), .un]) ?_ ?_ _ _ _ ⟨[], rfl, rfl, rfl⟩)
      · rintro acc ρ ⟨done, e, rfl, rfl⟩
        rw [List.append_nil] at e
        subst e
        walk_at "px"
        rw [asInts_map]
        walk_at "px"
        exact tm_told (by rw [sum_szs, sz])
      · rintro q qs acc ρ ⟨done, e, rfl, rfl⟩ N ih
        have hm : q ∈ ps := by rw [e]; simp
        walk_at "px"
        refine tm_i (tshs_mem hts q hm) (by have := dep_mem q hm; omega) (by have := psz_mem q hm; omega) ?_
        walk_at "px"
        refine ⟨small_of ?_, ih _ _ ⟨done ++ [q], by rw [e]; simp, by simp, rfl⟩⟩
        have := len_pszs ps
        rw [e] at this
        simp only [List.length_append, List.length_cons] at this
        rw [← e] at this
        omega
theorem ok_law_depth (T : Txt K mg) : ∀ n : Nat, Has P w K mg base "_law_depth" n ["term"] (S_depth n)
  | 0 => tm_zero T.d__law_depth fun F => F.binds (ps := ["term"]) fun _ _ _ _ _ _ us hl => match us, hl with | [_], _ => rfl
  | n + 1 => by
    refine dv__law_depth T (ok_law_depth T n) (S_depth (n + 1)) rfl fun pvs lp pre => ?_
    obtain ⟨p, rfl, ht, hd, hz⟩ := pre
    unfold rd__law_depth
    show qSeq _ _ (endsOf _ _) [.val p, .un]
    rcases tsh_cases ht with ⟨s, rfl⟩ | ⟨v, ps, rfl, hts⟩
    · walk_at "px"
      exact tm_told rfl
    · cases ps with
      | nil =>
        walk_at "px"
        refine ⟨fun _ => tm_told (by simp [dpt, dpts]), fun h => by simp at h⟩
      | cons p0 ps0 =>
        generalize ep : p0 :: ps0 = ps at *
        have hne : ps ≠ [] := by rw [← ep]; simp
        walk_at "px"
        have hd2 : deps ps < n := by rw [dep, deps] at hd; omega
        have hz2 : pszs ps ≤ 100000 := by rw [psz, pszs] at hz; omega
        refine ⟨fun h => ?_, fun _ => lcR_i (lc_ind (fun qs acc ρ => ∃ done : List PV, ps = done ++ qs ∧ acc = done.map (fun p => PV.int (dpt p)) ∧ ρ = [.val (.tup (.str v :: ps)), .un]) ?_ ?_ _ _ _ ⟨[], rfl, rfl, rfl⟩)⟩
        · have h2 : ps.length = 0 := by
            have h3 : ((ps.length + 1 : Nat) : Int) = 1 := by simpa using h
            omega
          exact absurd (List.length_eq_zero_iff.mp h2) hne
        · rintro acc ρ ⟨done, e, rfl, rfl⟩
          rw [List.append_nil] at e
          subst e
          walk_at "px"
          rw [asInts_map, ← ep, List.map_cons]
          walk_at "px"
          refine tm_told ?_
          have h1 := dpt_pos p0
          rw [maxI_dpts, dpt, dpts]
          have : (if dpt p0 > 0 then dpt p0 else 0) = dpt p0 := by rw [if_pos (by omega)]
          rw [this]
        · rintro q qs acc ρ ⟨done, e, rfl, rfl⟩ N ih
          have hm : q ∈ ps := by rw [e]; simp
          walk_at "px"
          refine tm_i (tshs_mem hts q hm) (by have := dep_mem q hm; omega) (by have := psz_mem q hm; omega) ?_
          walk_at "px"
          refine ⟨small_of ?_, ih _ _ ⟨done ++ [q], by rw [e]; simp, by simp, rfl⟩⟩
          have := len_pszs ps
          rw [e] at this
          simp only [List.length_append, List.length_cons] at this
          rw [← e] at this
          omega
end

end Lw
set_option maxHeartbeats 4000000
namespace Lw
open PySem L2 PyProof.Rows Px
def S_told : FS := { io := [false, false], pre := fun ps => ∃ a b, ps = [.bl a, .bl b], post := fun ps r _ => ∀ a b, ps = [.bl a, .bl b] → r = .bl (a == b) }
def S_tree (n : Nat) : FS := { io := [false, false], pre := fun ps => ∃ ms v, ps = [encMs ms, v] ∧ good v = true ∧ psz v ≤ 100000 ∧ dep v < n, post := fun ps r _ => ∀ ms v, ps = [encMs ms, v] → r = .bl (isTm ms v && (nms v).isEmpty) }
theorem S_tree_fr (n : Nat) : (S_tree n).fr = false := rfl
theorem S_tree_io (n : Nat) : (S_tree n).io = [false, false] := rfl
def S_odd : FS := { io := [true, false], pre := fun ps => ∃ d ms, ps = [d, encMs ms] ∧ DrOk d ∧ MsOk ms, post := fun _ r outs => ∃ d', outs = [d'] ∧ DrOk d' ∧ good r = true ∧ dep r ≤ 2 ∧ psz r ≤ 3 }
def S_bent (n : Nat) : FS := { io := [true, false, false], pre := fun ps => ∃ d ms v, ps = [d, encMs ms, v] ∧ DrOk d ∧ MsOk ms ∧ tsh v = true ∧ psz v ≤ 50000 ∧ dep v < n, post := fun ps r outs => ∃ d', outs = [d'] ∧ DrOk d' ∧ good r = true ∧ ∀ d ms v, ps = [d, encMs ms, v] → dep r ≤ dep v + 3 ∧ psz r ≤ psz v + 20 }
theorem S_bent_fr (n : Nat) : (S_bent n).fr = false := rfl
theorem S_bent_io (n : Nat) : (S_bent n).io = [true, false, false] := rfl
def S_lit (n : Nat) : FS := { io := [false, false], pre := fun ps => ∃ ms v, ps = [encMs ms, v] ∧ MsOk ms ∧ good v = true ∧ psz v ≤ 100000 ∧ dep v < n, post := fun ps r _ => ∀ ms v, ps = [encMs ms, v] → r = .bl (isTm ms v) }
theorem S_lit_fr (n : Nat) : (S_lit n).fr = false := rfl
theorem S_lit_io (n : Nat) : (S_lit n).io = [false, false] := rfl
local macro_rules | `(tactic| walk_at "px") => `(tactic| simp -dsimp only [qVar, qK, qNil, qCons, qTup, qLst, vals, looks, R.look, R.wk, qCB, qB, qOp2, qTru, truG, qAnd, qOr, qNot, qAndV, qOrV, qNotV, qIfE, qNo, qPart, qSl, gSl, qIt, qRng1, qRng2, qgN, qgNil, qgCons, qgT, notIo, notIos_nil, notIos_cons, qYes, qLc, qNext, qSeq, qBreak, qCont, qFrz, frz, qDrop, retG, qRet, qRetN, qIf, qSet, qOwn, qAsg, qFor, qMut, ownTy, gAppend, gExtend, gPop, isOwn, qSetIx, qCall, splitArgs, putOuts, setOwn, finOk, endsOf, mk, outsOf, uns,
  gAdd, gInt, gInt0, gEq, gNe, gIn, gNotIn, gIs, gIsNot, isNon, gIx, getP, gLen, gAbs, gIntC, gSum, gMax, gAll, gAny, gList, gTuple, gIsi, qNeg, qDict0, wipeE, lcGo_nil, br_t, br_f, atI_0, atI_1, atI_2, atI_3, ixN_0, ixN_1, ixN_2, ixN_3, List.length_map, List.length_set, cut_from1, isTy, tyN, tyOk_str, tyOk_tuple, tyOk_int, tyOk_bool, tyOk_list, tyOk_dict, Option.map_some, Option.map_none,
  eqOk_str, eqOk_int, eqOk_bl, eqOk_non, peq_str, peq_int, peq_bl, List.getElem?_cons_zero, List.getElem?_cons_succ, List.getElem?_nil, List.set_cons_zero, List.set_cons_succ, List.zipWith_cons_cons, List.zipWith_nil_left, List.replicate_succ, List.replicate_zero, List.cons_append, List.nil_append, List.length_cons, List.length_nil, List.map_cons, List.map_nil, ↓reduceIte, Bool.false_eq_true, and_true, true_and, Bool.not_true, Bool.not_false, Nat.reduceAdd, Nat.reduceLT, Nat.reduceLeDiff, Nat.zero_lt_succ, Nat.lt_add_one, ne_eq, not_true_eq_false, not_false_eq_true, String.reduceEq, String.reduceBEq, Bool.or_false, Bool.false_or, Bool.or_true, Bool.true_or, Bool.and_false, Bool.and_true, Bool.false_and, Bool.true_and, reduceCtorEq, S_tm_fr, S_tm_io, S_bent_fr, S_bent_io, S_lit_fr, S_lit_io, S_tree_fr, S_tree_io])
theorem told_i {ρ : En} {a b : Bool} {Q : PK1} {dm : Dum Q} (k : Q (.pv (.bl (a == b))) ρ) : callR S_told [.pv (.bl a), .pv (.bl b)] ρ Q dm :=
  call_p (ps := [.bl a, .bl b]) rfl rfl ⟨a, b, rfl⟩ fun r hp => by rw [hp _ _ rfl]; exact k
theorem tree_i {n : Nat} {ρ : En} {ms : Ms} {v : PV} {Q : PK1} {dm : Dum Q} (h : good v = true) (hz : psz v ≤ 100000) (hd : dep v < n) (k : Q (.pv (.bl (isTm ms v && (nms v).isEmpty))) ρ) : callR (S_tree n) [.pv (encMs ms), .pv v] ρ Q dm :=
  call_p (ps := [encMs ms, v]) rfl rfl ⟨ms, v, rfl, h, hz, hd⟩ fun r hp => by rw [hp _ _ rfl]; exact k
theorem lit_i {n : Nat} {ρ : En} {ms : Ms} {v : PV} {Q : PK1} {dm : Dum Q} (hm : MsOk ms) (h : good v = true) (hz : psz v ≤ 100000) (hd : dep v < n) (k : Q (.pv (.bl (isTm ms v))) ρ) : callR (S_lit n) [.pv (encMs ms), .pv v] ρ Q dm :=
  call_p (ps := [encMs ms, v]) rfl rfl ⟨ms, v, rfl, hm, h, hz, hd⟩ fun r hp => by rw [hp _ _ rfl]; exact k
theorem odd_i {ρ : En} {j : Nat} {b : Bool} {d : PV} {ms : Ms} {Q : PK1} {dm : Dum Q} (h : ρ[j]? = some (Sl.own b d)) (hd : DrOk d) (hm : MsOk ms) (k : ∀ r d', DrOk d' → good r = true → dep r ≤ 2 → psz r ≤ 3 → Q (.pv r) (setOwn ρ j d')) : callR S_odd [.sl j, .pv (encMs ms)] ρ Q dm := by
  refine call_1 (j := j) (ps := [d, encMs ms]) (by simp [S_odd, splitArgs, h]) rfl ⟨d, ms, rfl, hd, hm⟩ fun r d' hp => ?_
  obtain ⟨d2, e, hd', hg, h1, h2⟩ := hp
  cases e
  exact k r d' hd' hg h1 h2
theorem bent_i {n : Nat} {ρ : En} {j : Nat} {b : Bool} {d v : PV} {ms : Ms} {Q : PK1} {dm : Dum Q} (h : ρ[j]? = some (Sl.own b d)) (hd : DrOk d) (hm : MsOk ms) (ht : tsh v = true) (hz : psz v ≤ 50000) (hn : dep v < n) (k : ∀ r d', DrOk d' → good r = true → dep r ≤ dep v + 3 → psz r ≤ psz v + 20 → Q (.pv r) (setOwn ρ j d')) : callR (S_bent n) [.sl j, .pv (encMs ms), .pv v] ρ Q dm := by
  refine call_1 (j := j) (ps := [d, encMs ms, v]) (by simp [S_bent, splitArgs, h]) rfl ⟨d, ms, v, rfl, hd, hm, ht, hz, hn⟩ fun r d' hp => ?_
  obtain ⟨d2, e, hd', hg, h1⟩ := hp
  cases e
  obtain ⟨h1, h2⟩ := h1 _ _ _ rfl
  exact k r d' hd' hg h1 h2
mutual
theorem isTm_tsh (ms : Ms) : ∀ p : PV, isTm ms p = true → tsh p = true
  | .str _, _ => by rw [tsh]
  | .tup [], h => by simp [isTm] at h
  | .tup (p :: ps), h => by
    cases p with
    | str v =>
      rw [isTm, Bool.and_eq_true] at h
      rw [tsh, isTms_tshs ms ps h.2]; rfl
    | _ => simp [isTm] at h
  | .lst _, h => by simp [isTm] at h
  | .scr _, h => by simp [isTm] at h
  | .ty _, h => by simp [isTm] at h
  | .non, h => by simp [isTm] at h
  | .bl _, h => by simp [isTm] at h
  | .int _, h => by simp [isTm] at h
  | .dic _ _, h => by simp [isTm] at h
theorem isTms_tshs (ms : Ms) : ∀ ps : List PV, isTms ms ps = true → tshs ps = true
  | [], _ => by rw [tshs]
  | p :: ps, h => by
    rw [isTms, Bool.and_eq_true] at h
    rw [tshs, isTm_tsh ms p h.1, isTms_tshs ms ps h.2]; rfl
end
mutual
theorem tsh_good : ∀ p : PV, tsh p = true → good p = true
  | .str _, _ => by rw [good]
  | .tup [], h => by simp [tsh] at h
  | .tup (p :: ps), h => by
    cases p with
    | str v =>
      rw [tsh, Bool.true_and] at h
      rw [good, goods, good, tshs_goods ps h]; rfl
    | _ => simp [tsh] at h
  | .lst _, h => by simp [tsh] at h
  | .scr _, h => by simp [tsh] at h
  | .ty _, h => by simp [tsh] at h
  | .non, h => by simp [tsh] at h
  | .bl _, h => by simp [tsh] at h
  | .int _, h => by simp [tsh] at h
  | .dic _ _, h => by simp [tsh] at h
theorem tshs_goods : ∀ ps : List PV, tshs ps = true → goods ps = true
  | [], _ => by rw [goods]
  | p :: ps, h => by
    rw [tshs, Bool.and_eq_true] at h
    rw [goods, tsh_good p h.1, tshs_goods ps h.2]; rfl
end
theorem goods_iff : ∀ ps : List PV, goods ps = true ↔ ∀ p ∈ ps, good p = true
  | [] => by simp [goods]
  | p :: ps => by simp [goods, goods_iff ps]
theorem deps_le {n : Nat} : ∀ ps : List PV, deps ps ≤ n ↔ ∀ p ∈ ps, dep p ≤ n
  | [] => by simp [deps]
  | p :: ps => by
    rw [deps, List.forall_mem_cons, ← deps_le ps]; omega
theorem deps_append (as bs : List PV) : deps (as ++ bs) = max (deps as) (deps bs) := by
  induction as with
  | nil => simp [deps]
  | cons a as ih => rw [List.cons_append, deps, deps, ih]; omega
theorem cut_sub {α : Type} (xs : List α) (lo hi : Option Int) : (cutP xs lo hi).Sublist xs := (List.take_sublist _ _).trans (List.drop_sublist _ _)
theorem pszs_sub {as bs : List PV} (h : as.Sublist bs) : pszs as ≤ pszs bs := by
  induction h with
  | slnil => exact Nat.le_refl _
  | cons a _ ih => rw [pszs]; omega
  | cons_cons a _ ih => rw [pszs, pszs]; omega
theorem deps_sub {as bs : List PV} (h : as.Sublist bs) : deps as ≤ deps bs := (deps_le as).mpr fun p hp => dep_mem p (h.subset hp)
theorem goods_sub {as bs : List PV} (h : as.Sublist bs) (g : goods bs = true) : goods as = true := (goods_iff as).mpr fun p hp => (goods_iff bs).mp g p (h.subset hp)
theorem msCons {ms : Ms} (h : MsOk ms) : ∃ m ms', ms = m :: ms' := by
  cases ms with
  | nil => have := h.zero; cases this
  | cons m ms' => exact ⟨m, ms', rfl⟩
theorem asBls_map {α : Type} (f : α → Bool) : ∀ xs : List α, asBls (xs.map fun x => PV.bl (f x)) = some (xs.map f)
  | [] => rfl
  | x :: xs => by
    show (asBls (xs.map fun x => PV.bl (f x))).map (f x :: ·) = _
    rw [asBls_map f xs]; rfl
theorem all_isTms (ms : Ms) : ∀ ps : List PV, (ps.map (isTm ms)).all id = isTms ms ps
  | [] => by rw [isTms]; rfl
  | p :: ps => by rw [List.map_cons, List.all_cons, all_isTms ms ps, isTms]; rfl
theorem contains_any (s : Str) : ∀ ms : Ms, (ms.map (·.1)).contains s = ms.any fun m => m.1 == s
  | [] => rfl
  | m :: ms => by
    rw [List.map_cons, List.contains_cons, List.any_cons, contains_any s ms, Bool.eq_iff_iff]
    simp only [Bool.or_eq_true, beq_iff_eq]
    constructor
    · rintro (h | h)
      · exact .inl h.symm
      · exact .inr h
    · rintro (h | h)
      · exact .inl h.symm
      · exact .inr h
section
variable {P : Program} {w : World} {K : PySem.W.Frag} {mg : Str → Option Value} {base : Heap}
theorem ok_told (T : Txt K mg) : Has P w K mg base "_law_told" 1 ["actual", "due"] S_told := by
  refine dv__law_told T S_told rfl fun pvs lp pre => ?_
  obtain ⟨a, b, rfl⟩ := pre
  have told : ∀ {r : PV}, r = .bl (a == b) → S_told.post [.bl a, .bl b] r [] := fun {r} e a2 b2 e2 => by
    injection e2 with e3 e2; injection e2 with e4 _; injection e3 with e3; injection e4 with e4
    rw [← e3, ← e4]; exact e
  unfold rd__law_told
  show qRet _ (endsOf S_told _) [.val (.bl a), .val (.bl b)]
  walk_at "px"
  exact told rfl
theorem ok_is_tree (T : Txt K mg) (n : Nat) : Has P w K mg base "is_tree" (n + 3) ["makers", "value"] (S_tree n) := by
  refine dv_is_tree T ((ok_names_of T n).mono (by omega)) ((ok_is_term T).mono (by omega)) (S_tree n) rfl fun pvs lp pre => ?_
  obtain ⟨ms, v, rfl, hg, hz, hd⟩ := pre
  have told : ∀ {r : PV}, r = .bl (isTm ms v && (nms v).isEmpty) → (S_tree n).post [encMs ms, v] r [] := fun {r} e ms2 v2 e2 => by
    injection e2 with e3 e2; injection e2 with e4 _
    rw [← encMs_inj e3, ← e4]; exact e
  unfold rd_is_tree
  show qRet _ (endsOf (S_tree n) _) [.val (encMs ms), .val v]
  walk_at "px"
  refine is_term_i hg hz ?_
  walk_at "px"
  refine ⟨fun h => tm_i (isTm_tsh ms v h) hd hz ?_, fun h => told (by rw [h, Bool.false_and])⟩
  walk_at "px"
  have e0 : eqOk (.lst []) := eqOk_strs []
  refine ⟨small_of (by decide), eqOk_strs _, e0, told ?_⟩
  have := peqs_strs (nms v) []
  rw [List.map_nil] at this
  rw [peq_lst, this, h, Bool.true_and]
  cases nms v <;> rfl
theorem ok_odd (T : Txt K mg) : Has P w K mg base "_law_odd" 3 ["draws", "makers"] S_odd := by
  refine dv__law_odd T (ok_pick T) S_odd rfl fun pvs lp pre => ?_
  obtain ⟨d, ms, rfl, hd, hm⟩ := pre
  obtain ⟨m, ms', rfl⟩ := msCons hm
  unfold rd__law_odd
  show qSeq _ _ (endsOf S_odd _) [.own true d, .val (.tup (encM m :: ms'.map encM)), .un]
  unfold encM
  walk_at "px"
  have sm : ∀ n : Nat, n ≤ 20 → small n := fun n h => small_of (by omega)
  simp only [sm 0 (by decide), sm 1 (by decide), sm 2 (by decide), sm 3 (by decide), sm 16 (by decide), sm 19 (by decide), true_and, and_true]
  refine pick_i rfl hd trivial (by simp [items]) (by simp [items]) fun r d' hd' hr => ?_
  walk_at "px"
  refine ⟨d', rfl, hd', ?_⟩
  revert r
  simp [items, good, goods, dep, deps, psz, pszs]
theorem ok_bent (T : Txt K mg) : ∀ n : Nat, Has P w K mg base "_law_bent" (n + 3) ["draws", "makers", "value"] (S_bent n)
  | 0 => by
    refine (Px.has_none T.d__law_bent (fun F => F.binds (ps := ["draws", "makers", "value"]) fun _ _ _ _ _ _ us hl => match us, hl with | [_, _, _], _ => rfl) fun pvs h => ?_ : Has P w K mg base "_law_bent" 0 _ _).mono (by omega)
    obtain ⟨_, _, _, _, _, _, _, _, h⟩ := h
    omega
  | n + 1 => by
    refine dv__law_bent T ((ok_draw T).mono (by omega)) ((ok_odd T).mono (by omega)) (ok_bent T n) (S_bent (n + 1)) rfl fun pvs lp pre => ?_
    obtain ⟨d, ms, v, rfl, hd, hm, ht, hz, hn⟩ := pre
    have told : ∀ {r d' : PV}, DrOk d' → good r = true → dep r ≤ dep v + 3 → psz r ≤ psz v + 20 → (S_bent (n + 1)).post [d, encMs ms, v] r [d'] := fun {r d'} h1 h2 h3 h4 => ⟨d', rfl, h1, h2, fun d2 ms2 v2 e2 => by
      injection e2 with _ e2; injection e2 with _ e2; injection e2 with e2 _
      rw [← e2]; exact ⟨h3, h4⟩⟩
    unfold rd__law_bent
    show qSeq _ _ (endsOf _ _) [.own true d, .val (encMs ms), .val v, .un, .un]
    rcases tsh_cases ht with ⟨s, rfl⟩ | ⟨t, ps, rfl, hts⟩
    · walk_at "px"
      refine odd_i rfl hd hm fun r d' hd' hg h1 h2 => ?_
      walk_at "px"
      exact told hd' hg (by omega) (by have := psz_pos (.str s); omega)
    · have hzz := hz
      rw [psz, pszs, psz] at hzz
      have hdd := hn
      rw [dep, deps, dep] at hdd
      have hgg := tsh_good _ ht
      have hgp : goods (.str t :: ps) = true := by rw [good] at hgg; exact hgg
      have hlen := len_pszs ps
      walk_at "px"
      refine draw_i rfl hd (by decide) (by decide) fun k d1 hd1 k0 k1 => ?_
      walk_at "px"
      refine ⟨fun _ => odd_i rfl hd1 hm fun r d' hd' hg h1 h2 => ?_, fun _ => draw_i rfl hd1 (by decide) (by decide) fun way d2 hd2 w0 w1 => ?_⟩
      · walk_at "px"
        exact told hd' hg (by omega) (by omega)
      walk_at "px"
      refine ⟨fun _ => ?_, fun _ => ⟨fun _ => odd_i rfl hd2 hm fun r d' hd' hg h1 h2 => ?_, fun _ => ⟨fun _ => ?_, fun _ => ?_⟩⟩⟩
      · have hs := cut_sub (.str t :: ps) none (some (-1))
        refine told hd2 (by rw [good]; exact goods_sub hs hgp) ?_ ?_
        · rw [dep, dep]; have := deps_sub hs; omega
        · rw [psz, psz]; have := pszs_sub hs; omega
      · walk_at "px"
        refine ⟨small_of (by decide), small_of (by omega), told hd' ?_ ?_ ?_⟩
        · rw [good, ← List.cons_append, goods_append, hgp, goods, hg]; rfl
        · rw [dep, dep, ← List.cons_append, deps_append, deps]; simp only [deps]; omega
        · rw [psz, psz, ← List.cons_append, pszs_append]; simp only [pszs]; omega
      · exact told hd2 (by rw [good]; exact hgp) (by rw [dep, dep]; omega) (by rw [psz, psz]; omega)
      refine ⟨fun _ => odd_i rfl hd2 hm fun r d' hd' hg h1 h2 => ?_, fun h1 => ?_⟩
      · walk_at "px"
        exact ⟨small_of (by decide), told hd' (by rw [good, goods, hg]; rfl) (by rw [dep, deps, deps]; omega) (by rw [psz, pszs, pszs]; omega)⟩
      have hl1 : 0 < ps.length := by
        have h2 : ¬ ((ps.length + 1 : Nat) : Int) = 1 := by simpa using h1
        omega
      refine draw_i rfl hd2 (by omega) (by omega) fun at' d3 hd3 a0 a1 => ?_
      obtain ⟨j, rfl⟩ : ∃ j : Nat, at' = (j : Int) := ⟨at'.toNat, by omega⟩
      have hj : j < ps.length := by omega
      have e1 : (1 : Int) + (j : Int) = ((j + 1 : Nat) : Int) := by omega
      obtain ⟨x, hx, hxm⟩ : ∃ x, ps[j]? = some x ∧ x ∈ ps := ⟨ps[j], List.getElem?_eq_getElem hj, List.getElem_mem hj⟩
      have hix : atI (PV.str t :: ps) ((j + 1 : Nat) : Int) = some x := atI_nat (by rw [List.getElem?_cons_succ]; exact hx)
      walk_at "px"
      rw [e1, hix]
      walk_at "px"
      have dx := dep_mem x hxm
      have zx := psz_mem x hxm
      refine bent_i rfl hd3 hm (tshs_mem hts x hxm) (by omega) (by omega) fun r d4 hd4 hg h3 h4 => ?_
      walk_at "px"
      rw [cut_lo (.str t :: ps) (j + 1) (by rw [List.length_cons]; omega)]
      have e2 : (((j + 1 : Nat) : Int) + 1) = ((j + 2 : Nat) : Int) := by omega
      rw [e2, cut_hi (.str t :: ps) (j + 2) (by rw [List.length_cons]; omega)]
      have es : PV.str t :: ps = (PV.str t :: ps).take (j + 1) ++ x :: (PV.str t :: ps).drop (j + 2) := by
        have h5 : (PV.str t :: ps)[j + 1]? = some x := by rw [List.getElem?_cons_succ]; exact hx
        obtain ⟨h6, h7⟩ := List.getElem?_eq_some_iff.mp h5
        have h8 := List.drop_eq_getElem_cons h6
        rw [h7] at h8
        have h9 := List.take_append_drop (j + 1) (PV.str t :: ps)
        rw [h8] at h9
        exact h9.symm
      generalize (PV.str t :: ps).take (j + 1) = c1 at es ⊢
      generalize (PV.str t :: ps).drop (j + 2) = c2 at es ⊢
      have q1 := congrArg pszs es
      have q2 := congrArg deps es
      have q3 := congrArg List.length es
      rw [pszs_append] at q1
      rw [deps_append] at q2
      rw [es, goods_append] at hgp
      simp only [pszs, deps, psz, dep, List.length_append, List.length_cons] at q1 q2 q3
      rw [goods, Bool.and_eq_true, Bool.and_eq_true] at hgp
      refine ⟨small_of (by decide), small_of (by omega), small_of (by simp only [List.length_append, List.length_cons, List.length_nil]; omega), told hd4 ?_ ?_ ?_⟩
      · rw [good, goods_append, goods_append, hgp.1, hgp.2.2, goods, hg]; rfl
      · simp only [dep, deps, deps_append]; omega
      · simp only [psz, pszs, pszs_append]; omega
def S_lit0 : Nat := 0
theorem ok_lit (T : Txt K mg) : ∀ n : Nat, Has P w K mg base "_law_is_term" n ["makers", "value"] (S_lit n)
  | 0 => by
    refine (Px.has_none T.d__law_is_term (fun F => F.binds (ps := ["makers", "value"]) fun _ _ _ _ _ _ us hl => match us, hl with | [_, _], _ => rfl) fun pvs h => ?_ : Has P w K mg base "_law_is_term" 0 _ _)
    obtain ⟨_, _, _, _, _, _, h⟩ := h
    omega
  | n + 1 => by
    refine dv__law_is_term T (ok_lit T n) (S_lit (n + 1)) rfl fun pvs lp pre => ?_
    obtain ⟨ms, v, rfl, hm, hg, hz, hn⟩ := pre
    have told : ∀ {r : PV}, r = .bl (isTm ms v) → (S_lit (n + 1)).post [encMs ms, v] r [] := fun {r} e ms2 v2 e2 => by
      injection e2 with e3 e2; injection e2 with e4 _
      rw [← encMs_inj e3, ← e4]; exact e
    have tn := good_ty hg
    have ml := hm.len
    unfold rd__law_is_term
    show qSeq _ _ (endsOf _ _) [.val (.tup (ms.map encM)), .val v, .un, .un, .un, .un]
    cases v with
    | str s =>
      walk_at "px"
      refine lcR_i (lc_ind (fun ps acc ρ => ∃ ms1 ms2 : Ms, ms = ms1 ++ ms2 ∧ ps = ms2.map encM ∧ acc = (ms1.map (·.1)).map PV.str ∧ ρ = [.val (.tup (ms.map encM)), .val (.str s), .un, .un, .un, .un]) ?_ ?_ _ _ _ ⟨[], ms, rfl, rfl, rfl, rfl⟩)
      · rintro acc ρ ⟨ms1, ms2, e, e2, rfl, rfl⟩
        have e3 : ms2 = [] := by cases ms2 with
          | nil => rfl
          | cons _ _ => simp at e2
        subst e3
        rw [List.append_nil] at e
        subst e
        walk_at "px"
        refine ⟨eqOk_strs _, told ?_⟩
        rw [memP_strs, isTm]
        rw [contains_any]
      · rintro p ps acc ρ ⟨ms1, ms2, e, e2, rfl, rfl⟩ N ih
        cases ms2 with
        | nil => simp at e2
        | cons m ms2 =>
          simp only [List.map_cons, List.cons.injEq] at e2
          obtain ⟨rfl, rfl⟩ := e2
          unfold encM
          walk_at "px"
          have hl : ms1.length ≤ ms.length := by rw [e]; simp
          refine ⟨small_of (by omega), ih _ _ ⟨ms1 ++ [m], ms2, by rw [e]; simp, rfl, ?_, rfl⟩⟩
          rw [List.map_append, List.map_append]; rfl
    | tup ps =>
      cases ps with
      | nil =>
        walk_at "px"
        exact ⟨fun _ => told (by rw [isTm]), fun h => by simp at h⟩
      | cons p ps =>
        have hgs := hg
        rw [good, goods, Bool.and_eq_true] at hg
        have tp := good_ty hg.1
        rw [psz, pszs] at hz
        rw [dep, deps] at hn
        have ne0 : (((ps.length + 1 : Nat) : Int) == 0) = false := by
          rw [beq_eq_false_iff_ne]; omega
        cases p with
        | str t =>
          walk_at "px"
          rw [ne0, br_f]
          refine lcR_i (lc_ind (fun qs acc ρ => ∃ ms1 ms2 : Ms, ms = ms1 ++ ms2 ∧ qs = ms2.map encM ∧ acc = (ms1.filter fun m => m.1 == t).map (fun m => PV.int (m.2 : Nat)) ∧ ρ = [.val (.tup (ms.map encM)), .val (.tup (.str t :: ps)), .un, .un, .un, .un]) ?_ ?_ _ _ _ ⟨[], ms, rfl, rfl, rfl, rfl⟩)
          · rintro acc ρ ⟨ms1, ms2, e, e2, rfl, rfl⟩
            have e3 : ms2 = [] := by cases ms2 with
              | nil => rfl
              | cons _ _ => simp at e2
            subst e3
            rw [List.append_nil] at e
            subst e
            have hf : (ms.filter fun m => m.1 == t).head? = ms.find? fun m => m.1 == t := List.head?_filter ..
            have ht : isTm ms (.tup (.str t :: ps)) = ((match ms.find? fun m => m.1 == t with
                | some m => m.2 == ps.length
                | none => false) && isTms ms ps) := by first | (rw [isTm]; done) | (rw [isTm]; rfl)
            rw [← hf] at ht
            generalize (ms.filter fun m => m.1 == t) = fs at ht ⊢
            cases fs with
            | nil =>
              walk_at "px"
              exact ⟨fun _ => told (by rw [ht]; rfl), fun h => by simp at h⟩
            | cons m fs =>
              walk_at "px"
              have ne1 : (((fs.length + 1 : Nat) : Int) == 0) = false := by
                rw [beq_eq_false_iff_ne]; omega
              rw [ne1, br_f]
              have ht2 : isTm ms (.tup (.str t :: ps)) = ((m.2 == ps.length) && isTms ms ps) := ht
              have hb : ((m.2 : Int) == ((ps.length + 1 : Nat) : Int) - 1) = (m.2 == ps.length) := by
                rw [Bool.eq_iff_iff, beq_iff_eq, beq_iff_eq]; omega
              rw [hb]
              refine ⟨fun h => told ?_, fun h => ?_⟩
              · have h2 : (m.2 == ps.length) = false := by simpa using h
                rw [ht2, h2, Bool.false_and]
              have h2 : (m.2 == ps.length) = true := by simpa using h
              rw [h2, Bool.true_and] at ht2
              refine lcR_i (lc_ind (fun qs acc ρ => ∃ done : List PV, ps = done ++ qs ∧ acc = done.map (fun p => PV.bl (isTm ms p)) ∧ ∃ s2 : Sl, ρ = [.val (encMs ms), .val (.tup (.str t :: ps)), s2, .un, .un, .un]) ?_ ?_ _ _ _ ⟨[], rfl, rfl, _, rfl⟩)
              · rintro acc ρ ⟨done, e, rfl, s2, rfl⟩
                rw [List.append_nil] at e
                subst e
                walk_at "px"
                rw [asBls_map]
                walk_at "px"
                exact told (by rw [ht2, all_isTms])
              · rintro q qs acc ρ ⟨done, e, rfl, s2, rfl⟩ N ih
                have hmq : q ∈ ps := by rw [e]; simp
                have dq := dep_mem q hmq
                have zq := psz_mem q hmq
                walk_at "px"
                refine lit_i hm ((goods_iff ps).mp hg.2 q hmq) (by omega) (by omega) ?_
                walk_at "px"
                refine ⟨small_of ?_, ih _ _ ⟨done ++ [q], by rw [e]; simp, by simp, s2, rfl⟩⟩
                have := len_pszs ps
                rw [e] at this
                simp only [List.length_append, List.length_cons] at this
                rw [← e] at this
                omega
          · rintro p qs acc ρ ⟨ms1, ms2, e, e2, rfl, rfl⟩ N ih
            cases ms2 with
            | nil => simp at e2
            | cons m ms2 =>
              simp only [List.map_cons, List.cons.injEq] at e2
              obtain ⟨rfl, rfl⟩ := e2
              unfold encM
              walk_at "px"
              have hl : ms1.length ≤ ms.length := by rw [e]; simp
              have hl2 := List.length_filter_le (fun m : Str × Nat => m.1 == t) ms1
              refine ⟨fun h => ⟨small_of (by omega), ih _ _ ⟨ms1 ++ [m], ms2, by rw [e]; simp, rfl, ?_, rfl⟩⟩, fun h => ih _ _ ⟨ms1 ++ [m], ms2, by rw [e]; simp, rfl, ?_, rfl⟩⟩
              · rw [List.filter_append, List.map_append, List.filter_cons, h]; rfl
              · rw [List.filter_append, List.map_append, List.filter_cons, h]; simp
        | scr _ => simp [good] at hg
        | ty _ => simp [good] at hg
        | _ =>
          walk_at "px"
          rw [ne0, br_f]
          exact told (by simp [isTm])
    | scr _ => simp [good] at hg
    | ty _ => simp [good] at hg
    | _ =>
      walk_at "px"
      exact told (by rw [isTm])
end
def namesL : List PV := [.str (Str.ofString "a"), .str (Str.ofString "b"), .str (Str.ofString "c.1"), .str (Str.ofString "d.2.1")]
theorem names_at {p : PV} (h : p ∈ namesL) : ∃ s, p = .str s := by
  have : ∀ p ∈ namesL, ∃ s, p = PV.str s := by simp [namesL]
  exact this p h
def big : Nat → Nat
  | 0 => 2
  | n + 1 => 2 * big n + 2
theorem big_pos : ∀ n : Nat, 2 ≤ big n
  | 0 => by simp [big]
  | n + 1 => by rw [big]; have := big_pos n; omega
theorem pszs_le {n : Nat} : ∀ ps : List PV, (∀ p ∈ ps, psz p ≤ n) → pszs ps ≤ ps.length * n
  | [], _ => by simp [pszs]
  | p :: ps, h => by
    have h1 := h p List.mem_cons_self
    have h2 := pszs_le ps fun q hq => h q (List.mem_cons_of_mem _ hq)
    rw [pszs, List.length_cons, Nat.succ_mul]; omega
theorem tshs_all : ∀ ps : List PV, (∀ p ∈ ps, tsh p = true) → tshs ps = true
  | [], _ => by rw [tshs]
  | p :: ps, h => by
    rw [tshs, h p List.mem_cons_self, tshs_all ps fun q hq => h q (List.mem_cons_of_mem _ hq)]; rfl
theorem term_ok {ms : Ms} (hm : MsOk ms) {n : Nat} {p : PV} (h : TermOf ms namesL n p) : tsh p = true ∧ dep p ≤ n + 1 ∧ psz p ≤ big n := by
  induction h with
  | name h =>
    obtain ⟨s, rfl⟩ := names_at h
    exact ⟨by rw [tsh], by rw [dep]; omega, by rw [psz]; have := big_pos ‹Nat›; omega⟩
  | leaf h => exact ⟨by rw [tsh, tshs]; rfl, by simp [dep, deps], by simp only [psz, pszs]; exact big_pos _⟩
  | @node n w k ps h l t ih =>
    refine ⟨?_, ?_, ?_⟩
    · rw [tsh, tshs_all ps fun q hq => (ih q hq).1]; rfl
    · rw [dep, deps, dep]
      have := (deps_le (n := n + 1) ps).mpr fun q hq => (ih q hq).2.1
      omega
    · rw [psz, pszs, psz, big]
      have h1 := pszs_le (n := big n) ps fun q hq => (ih q hq).2.2
      have h2 := hm.two _ h
      have h3 : ps.length * big n ≤ 2 * big n := Nat.mul_le_mul_right _ (by rw [l]; exact h2)
      omega
theorem big_mono {a b : Nat} (h : a ≤ b) : big a ≤ big b := by
  induction h with
  | refl => exact Nat.le_refl _
  | step _ ih => rw [big]; omega

end Lw
set_option maxHeartbeats 4000000
namespace Lw
open PySem L2 PyProof.Rows Px
local macro_rules | `(tactic| walk_at "px") => `(tactic| simp -dsimp only [qVar, qK, qNil, qCons, qTup, qLst, vals, looks, R.look, R.wk, qCB, qB, qOp2, qTru, truG, qAnd, qOr, qNot, qAndV, qOrV, qNotV, qIfE, qNo, qPart, qSl, gSl, qIt, qRng1, qRng2, qgN, qgNil, qgCons, qgT, notIo, notIos_nil, notIos_cons, qYes, qLc, qNext, qSeq, qBreak, qCont, qFrz, frz, qDrop, retG, qRet, qRetN, qIf, qSet, qOwn, qAsg, qFor, qMut, ownTy, gAppend, gExtend, gPop, isOwn, qSetIx, qCall, splitArgs, putOuts, setOwn, finOk, endsOf, mk, outsOf, uns,
  gAdd, gInt, gInt0, gEq, gNe, gIn, gNotIn, gIs, gIsNot, isNon, gIx, getP, gLen, gAbs, gIntC, gSum, gMax, gAll, gAny, gList, gTuple, gIsi, qNeg, qDict0, wipeE, lcGo_nil, br_t, br_f, atI_0, atI_1, atI_2, atI_3, ixN_0, ixN_1, ixN_2, ixN_3, List.length_map, List.length_set, cut_from1, isTy, tyN, tyOk_str, tyOk_tuple, tyOk_int, tyOk_bool, tyOk_list, tyOk_dict, Option.map_some, Option.map_none,
  eqOk_str, eqOk_int, eqOk_bl, eqOk_non, peq_str, peq_int, peq_bl, List.getElem?_cons_zero, List.getElem?_cons_succ, List.getElem?_nil, List.set_cons_zero, List.set_cons_succ, List.zipWith_cons_cons, List.zipWith_nil_left, List.replicate_succ, List.replicate_zero, List.cons_append, List.nil_append, List.length_cons, List.length_nil, List.map_cons, List.map_nil, ↓reduceIte, Bool.false_eq_true, and_true, true_and, Bool.not_true, Bool.not_false, Nat.reduceAdd, Nat.reduceLT, Nat.reduceLeDiff, Nat.zero_lt_succ, Nat.lt_add_one, ne_eq, not_true_eq_false, not_false_eq_true, String.reduceEq, String.reduceBEq, Bool.or_false, Bool.false_or, Bool.or_true, Bool.true_or, Bool.and_false, Bool.and_true, Bool.false_and, Bool.true_and, reduceCtorEq, S_tm_fr, S_tm_io, S_bent_fr, S_bent_io, S_lit_fr, S_lit_io, S_tree_fr, S_tree_io, S_term_fr, S_term_io])
section
variable {P : Program} {w : World} {K : PySem.W.Frag} {mg : Str → Option Value} {base : Heap}
theorem ok_law (T : Txt K mg) : Has P w K mg base "law" 20 ["script"] sLaw := by
  refine dv_law T ((ok_draws T).mono (by omega)) ((ok_makers T).mono (by omega)) ((ok_term T 5).mono (by omega)) ((ok_draw T).mono (by omega)) ((ok_bent T 8).mono (by omega)) ((ok_lit T 12).mono (by omega)) ((ok_told T).mono (by omega)) ((ok_is_term T).mono (by omega)) ((ok_is_tree T 12).mono (by omega)) ((ok_law_names T 12).mono (by omega)) ((ok_depth T 12).mono (by omega)) ((ok_law_depth T 12).mono (by omega)) ((ok_size T 12).mono (by omega)) ((ok_law_size T 12).mono (by omega)) ((ok_names_of T 12).mono (by omega)) sLaw rfl fun pvs lp pre => ?_
  obtain ⟨ns, rfl, hl⟩ := pre
  unfold rd_law
  show qSeq _ _ (endsOf sLaw _) [.val (.scr ns), .un, .un, .un, .un, .un]
  walk_at "px"
  refine draws_i fun d hd => ?_
  walk_at "px"
  refine makers_i rfl hd fun ms d1 hd1 hm => ?_
  walk_at "px"
  refine ⟨by unfold rngOk; decide, ?_⟩
  refine for_ind (fun ps ρ => ∃ (d : PV) (s3 s4 s5 : Sl), ρ = [.val (.scr ns), .own false d, .val (encMs ms), s3, s4, s5] ∧ DrOk d ∧ Pl s3 ∧ Pl s4 ∧ Pl s5 ∧ ∀ p ∈ ps, ∃ i : Int, p = .int i) ?_ ?_ _ _ ⟨d1, .un, .un, .un, rfl, hd1, pl_un, pl_un, pl_un, fun p hp => ?_⟩
  · rintro ρ ⟨d, s3, s4, s5, rfl, hd, p3, p4, p5, _⟩
    walk_at "px"
    rfl
  · rintro p ps ρ ⟨d, s3, s4, s5, rfl, hd, p3, p4, p5, hps⟩ N ih
    obtain ⟨i, rfl⟩ := hps p List.mem_cons_self
    have nx : ∀ (d : PV) (v w : PV), DrOk d → N [.val (.scr ns), .own false d, .val (encMs ms), .val (.int i), .val v, .val w] := fun d v w h => ih _ ⟨d, _, _, _, rfl, h, pl_val, pl_val, pl_val, fun q hq => hps q (List.mem_cons_of_mem _ hq)⟩
    have n3 : notIo [.val (.scr ns), .own false d, .val (encMs ms), s3, s4, s5] 3 = true := by rcases p3 with rfl | ⟨q, rfl⟩ <;> rfl
    rcases p3 with rfl | ⟨q3, rfl⟩ <;> rcases p4 with rfl | ⟨q4, rfl⟩ <;> rcases p5 with rfl | ⟨q5, rfl⟩
    all_goals
      walk_at "px"
      refine ⟨small_of (by decide), draw_i rfl hd (by decide) (by decide) fun k d2 hd2 k0 k1 => ?_⟩
      walk_at "px"
      refine term_i rfl hd2 hm (by simp) (by simp) k0 (by omega) fun v d3 hd3 hv => ?_
      obtain ⟨ht, hdp, hz⟩ := term_ok hm hv
      have hg := tsh_good _ ht
      have hb := big_mono (show k.toNat ≤ 4 by omega)
      have hb4 : big 4 = 62 := rfl
      walk_at "px"
      refine draw_i rfl hd3 (by decide) (by decide) fun t d4 hd4 t0 t1 => ?_
      walk_at "px"
      refine ⟨fun _ => bent_i rfl hd4 hm ht (by omega) (by omega) fun v d4 hd4 hg hdp hz => ?_, fun _ => ?_⟩
      all_goals
        try walk_at "px"
        have hz' : psz v ≤ 100000 := by omega
        have hd' : dep v < 12 := by omega
        refine lit_i hm hg hz' hd' ?_
        walk_at "px"
        refine is_term_i hg hz' ?_
        walk_at "px"
        refine told_i ?_
        walk_at "px"
        rw [beq_self_eq_true]
        walk_at "px"
        refine tree_i hg hz' hd' ?_
        walk_at "px"
        refine ⟨fun hT => tm_i (isTm_tsh _ _ hT) hd' hz' ?_, fun hF => ?_⟩
        · have ht2 := isTm_tsh _ _ hT
          have e0 : eqOk (.lst []) := eqOk_strs []
          have eq0 : peq (.lst ((nms v).map PV.str)) (.lst []) = (nms v).isEmpty := by
            have := peqs_strs (nms v) []
            rw [List.map_nil] at this
            rw [peq_lst, this]
            cases nms v <;> rfl
          walk_at "px"
          refine ⟨small_of (by decide), eqOk_strs _, e0, ?_⟩
          rw [eq0, hT, Bool.true_and]
          refine told_i ?_
          walk_at "px"
          rw [beq_self_eq_true]
          walk_at "px"
          refine tm_i ht2 hd' hz' ?_
          walk_at "px"
          refine tm_i ht2 hd' hz' ?_
          walk_at "px"
          refine ⟨eqOk_strs _, eqOk_strs _, ?_⟩
          rw [peq_lst, peqs_strs, beq_self_eq_true]
          walk_at "px"
          refine tm_i ht2 hd' hz' ?_
          walk_at "px"
          refine tm_i ht2 hd' hz' ?_
          walk_at "px"
          rw [beq_self_eq_true]
          walk_at "px"
          refine tm_i ht2 hd' hz' ?_
          walk_at "px"
          refine tm_i ht2 hd' hz' ?_
          walk_at "px"
          rw [beq_self_eq_true]
          walk_at "px"
          exact nx _ _ _ hd4
        · rw [hF, Bool.false_and]
          refine told_i ?_
          rw [beq_self_eq_true]
          walk_at "px"
          exact nx _ _ _ hd4
  · obtain ⟨j, _, rfl⟩ := List.mem_map.mp hp
    exact ⟨_, rfl⟩
end

end Lw
namespace Lw
open PySem L2 PyProof.Rows Px
theorem all_mk {l : PySem.W.OpenLaw} {w : World} {K : PySem.W.Frag} {h : Heap} {mg : Str → Option Value} {fa : Addr} (X : K.In h) (G : h.Ns mainGlobals mg) (hfa : mg "law" = some (.ref fa))
    {f0 f1 f2 f3 f4 f5 f6 f7 f8 f9 f10 f11 f12 f13 f14 f15 f16 f17 f18 : Addr}
    {od0 an0 od1 an1 od2 an2 od3 an3 od4 an4 od5 an5 od6 an6 od7 an7 od8 an8 od9 an9 od10 an10 od11 an11 od12 an12 od13 an13 od14 an14 od15 an15 od16 an16 od17 an17 od18 an18 : Option Addr} {sl0 sl1 sl2 sl3 sl4 sl5 sl6 sl7 sl8 sl9 sl10 sl11 sl12 sl13 sl14 sl15 sl16 sl17 sl18 : Array (Option Value)} {oc0 kV0 dc0 pm0 cd0 ct0 oc1 kV1 dc1 pm1 cd1 ct1 oc2 kV2 dc2 pm2 cd2 ct2 oc3 kV3 dc3 pm3 cd3 ct3 oc4 kV4 dc4 pm4 cd4 ct4 oc5 kV5 dc5 pm5 cd5 ct5 oc6 kV6 dc6 pm6 cd6 ct6 oc7 kV7 dc7 pm7 cd7 ct7 oc8 kV8 dc8 pm8 cd8 ct8 oc9 kV9 dc9 pm9 cd9 ct9 oc10 kV10 dc10 pm10 cd10 ct10 oc11 kV11 dc11 pm11 cd11 ct11 oc12 kV12 dc12 pm12 cd12 ct12 oc13 kV13 dc13 pm13 cd13 ct13 oc14 kV14 dc14 pm14 cd14 ct14 oc15 kV15 dc15 pm15 cd15 ct15 oc16 kV16 dc16 pm16 cd16 ct16 oc17 kV17 dc17 pm17 cd17 ct17 oc18 kV18 dc18 pm18 cd18 ct18 : Value}
    (a0 : PySem.W.nsIn K mainGlobals "parts_of" = some (some (.ref f0))) (l0 : K.lookup f0 = some ⟨oc0, od0, .func (PySem.W.fnOf "parts_of" "parts_of" (defArgs s_parts_of) (defBody s_parts_of) (defScope s_parts_of) .none kV0 dc0 pm0 an0 cd0 ct0), sl0⟩) (c0 : PySem.W.codeIn K cd0 "parts_of" = true) (k0 : PySem.W.keepIn K (.ref f0) = true)
    (a1 : PySem.W.nsIn K mainGlobals "is_term" = some (some (.ref f1))) (l1 : K.lookup f1 = some ⟨oc1, od1, .func (PySem.W.fnOf "is_term" "is_term" (defArgs s_is_term) (defBody s_is_term) (defScope s_is_term) .none kV1 dc1 pm1 an1 cd1 ct1), sl1⟩) (c1 : PySem.W.codeIn K cd1 "is_term" = true) (k1 : PySem.W.keepIn K (.ref f1) = true)
    (a2 : PySem.W.nsIn K mainGlobals "is_tree" = some (some (.ref f2))) (l2 : K.lookup f2 = some ⟨oc2, od2, .func (PySem.W.fnOf "is_tree" "is_tree" (defArgs s_is_tree) (defBody s_is_tree) (defScope s_is_tree) .none kV2 dc2 pm2 an2 cd2 ct2), sl2⟩) (c2 : PySem.W.codeIn K cd2 "is_tree" = true) (k2 : PySem.W.keepIn K (.ref f2) = true)
    (a3 : PySem.W.nsIn K mainGlobals "size" = some (some (.ref f3))) (l3 : K.lookup f3 = some ⟨oc3, od3, .func (PySem.W.fnOf "size" "size" (defArgs s_size) (defBody s_size) (defScope s_size) .none kV3 dc3 pm3 an3 cd3 ct3), sl3⟩) (c3 : PySem.W.codeIn K cd3 "size" = true) (k3 : PySem.W.keepIn K (.ref f3) = true)
    (a4 : PySem.W.nsIn K mainGlobals "depth" = some (some (.ref f4))) (l4 : K.lookup f4 = some ⟨oc4, od4, .func (PySem.W.fnOf "depth" "depth" (defArgs s_depth) (defBody s_depth) (defScope s_depth) .none kV4 dc4 pm4 an4 cd4 ct4), sl4⟩) (c4 : PySem.W.codeIn K cd4 "depth" = true) (k4 : PySem.W.keepIn K (.ref f4) = true)
    (a5 : PySem.W.nsIn K mainGlobals "names_of" = some (some (.ref f5))) (l5 : K.lookup f5 = some ⟨oc5, od5, .func (PySem.W.fnOf "names_of" "names_of" (defArgs s_names_of) (defBody s_names_of) (defScope s_names_of) .none kV5 dc5 pm5 an5 cd5 ct5), sl5⟩) (c5 : PySem.W.codeIn K cd5 "names_of" = true) (k5 : PySem.W.keepIn K (.ref f5) = true)
    (a6 : PySem.W.nsIn K mainGlobals "_law_draws" = some (some (.ref f6))) (l6 : K.lookup f6 = some ⟨oc6, od6, .func (PySem.W.fnOf "_law_draws" "_law_draws" (defArgs s__law_draws) (defBody s__law_draws) (defScope s__law_draws) .none kV6 dc6 pm6 an6 cd6 ct6), sl6⟩) (c6 : PySem.W.codeIn K cd6 "_law_draws" = true) (k6 : PySem.W.keepIn K (.ref f6) = true)
    (a7 : PySem.W.nsIn K mainGlobals "_law_draw" = some (some (.ref f7))) (l7 : K.lookup f7 = some ⟨oc7, od7, .func (PySem.W.fnOf "_law_draw" "_law_draw" (defArgs s__law_draw) (defBody s__law_draw) (defScope s__law_draw) .none kV7 dc7 pm7 an7 cd7 ct7), sl7⟩) (c7 : PySem.W.codeIn K cd7 "_law_draw" = true) (k7 : PySem.W.keepIn K (.ref f7) = true)
    (a8 : PySem.W.nsIn K mainGlobals "_law_pick" = some (some (.ref f8))) (l8 : K.lookup f8 = some ⟨oc8, od8, .func (PySem.W.fnOf "_law_pick" "_law_pick" (defArgs s__law_pick) (defBody s__law_pick) (defScope s__law_pick) .none kV8 dc8 pm8 an8 cd8 ct8), sl8⟩) (c8 : PySem.W.codeIn K cd8 "_law_pick" = true) (k8 : PySem.W.keepIn K (.ref f8) = true)
    (a9 : PySem.W.nsIn K mainGlobals "_law_makers" = some (some (.ref f9))) (l9 : K.lookup f9 = some ⟨oc9, od9, .func (PySem.W.fnOf "_law_makers" "_law_makers" (defArgs s__law_makers) (defBody s__law_makers) (defScope s__law_makers) .none kV9 dc9 pm9 an9 cd9 ct9), sl9⟩) (c9 : PySem.W.codeIn K cd9 "_law_makers" = true) (k9 : PySem.W.keepIn K (.ref f9) = true)
    (a10 : PySem.W.nsIn K mainGlobals "_law_term" = some (some (.ref f10))) (l10 : K.lookup f10 = some ⟨oc10, od10, .func (PySem.W.fnOf "_law_term" "_law_term" (defArgs s__law_term) (defBody s__law_term) (defScope s__law_term) .none kV10 dc10 pm10 an10 cd10 ct10), sl10⟩) (c10 : PySem.W.codeIn K cd10 "_law_term" = true) (k10 : PySem.W.keepIn K (.ref f10) = true)
    (a11 : PySem.W.nsIn K mainGlobals "_law_odd" = some (some (.ref f11))) (l11 : K.lookup f11 = some ⟨oc11, od11, .func (PySem.W.fnOf "_law_odd" "_law_odd" (defArgs s__law_odd) (defBody s__law_odd) (defScope s__law_odd) .none kV11 dc11 pm11 an11 cd11 ct11), sl11⟩) (c11 : PySem.W.codeIn K cd11 "_law_odd" = true) (k11 : PySem.W.keepIn K (.ref f11) = true)
    (a12 : PySem.W.nsIn K mainGlobals "_law_bent" = some (some (.ref f12))) (l12 : K.lookup f12 = some ⟨oc12, od12, .func (PySem.W.fnOf "_law_bent" "_law_bent" (defArgs s__law_bent) (defBody s__law_bent) (defScope s__law_bent) .none kV12 dc12 pm12 an12 cd12 ct12), sl12⟩) (c12 : PySem.W.codeIn K cd12 "_law_bent" = true) (k12 : PySem.W.keepIn K (.ref f12) = true)
    (a13 : PySem.W.nsIn K mainGlobals "_law_is_term" = some (some (.ref f13))) (l13 : K.lookup f13 = some ⟨oc13, od13, .func (PySem.W.fnOf "_law_is_term" "_law_is_term" (defArgs s__law_is_term) (defBody s__law_is_term) (defScope s__law_is_term) .none kV13 dc13 pm13 an13 cd13 ct13), sl13⟩) (c13 : PySem.W.codeIn K cd13 "_law_is_term" = true) (k13 : PySem.W.keepIn K (.ref f13) = true)
    (a14 : PySem.W.nsIn K mainGlobals "_law_names" = some (some (.ref f14))) (l14 : K.lookup f14 = some ⟨oc14, od14, .func (PySem.W.fnOf "_law_names" "_law_names" (defArgs s__law_names) (defBody s__law_names) (defScope s__law_names) .none kV14 dc14 pm14 an14 cd14 ct14), sl14⟩) (c14 : PySem.W.codeIn K cd14 "_law_names" = true) (k14 : PySem.W.keepIn K (.ref f14) = true)
    (a15 : PySem.W.nsIn K mainGlobals "_law_size" = some (some (.ref f15))) (l15 : K.lookup f15 = some ⟨oc15, od15, .func (PySem.W.fnOf "_law_size" "_law_size" (defArgs s__law_size) (defBody s__law_size) (defScope s__law_size) .none kV15 dc15 pm15 an15 cd15 ct15), sl15⟩) (c15 : PySem.W.codeIn K cd15 "_law_size" = true) (k15 : PySem.W.keepIn K (.ref f15) = true)
    (a16 : PySem.W.nsIn K mainGlobals "_law_depth" = some (some (.ref f16))) (l16 : K.lookup f16 = some ⟨oc16, od16, .func (PySem.W.fnOf "_law_depth" "_law_depth" (defArgs s__law_depth) (defBody s__law_depth) (defScope s__law_depth) .none kV16 dc16 pm16 an16 cd16 ct16), sl16⟩) (c16 : PySem.W.codeIn K cd16 "_law_depth" = true) (k16 : PySem.W.keepIn K (.ref f16) = true)
    (a17 : PySem.W.nsIn K mainGlobals "_law_told" = some (some (.ref f17))) (l17 : K.lookup f17 = some ⟨oc17, od17, .func (PySem.W.fnOf "_law_told" "_law_told" (defArgs s__law_told) (defBody s__law_told) (defScope s__law_told) .none kV17 dc17 pm17 an17 cd17 ct17), sl17⟩) (c17 : PySem.W.codeIn K cd17 "_law_told" = true) (k17 : PySem.W.keepIn K (.ref f17) = true)
    (a18 : PySem.W.nsIn K mainGlobals "law" = some (some (.ref f18))) (l18 : K.lookup f18 = some ⟨oc18, od18, .func (PySem.W.fnOf "law" "law" (defArgs s_law) (defBody s_law) (defScope s_law) .none kV18 dc18 pm18 an18 cd18 ct18), sl18⟩) (c18 : PySem.W.codeIn K cd18 "law" = true) (k18 : PySem.W.keepIn K (.ref f18) = true)
    (z0 : PySem.W.nsIn K mainGlobals "isinstance" = some none)
    (z1 : PySem.W.nsIn K mainGlobals "str" = some none)
    (z2 : PySem.W.nsIn K mainGlobals "len" = some none)
    (z3 : PySem.W.nsIn K mainGlobals "tuple" = some none)
    (z4 : PySem.W.nsIn K mainGlobals "sum" = some none)
    (z5 : PySem.W.nsIn K mainGlobals "max" = some none)
    (z6 : PySem.W.nsIn K mainGlobals "list" = some none)
    (z7 : PySem.W.nsIn K mainGlobals "abs" = some none)
    (z8 : PySem.W.nsIn K mainGlobals "int" = some none)
    (z9 : PySem.W.nsIn K mainGlobals "range" = some none)
    (z10 : PySem.W.nsIn K mainGlobals "all" = some none)
    (z11 : PySem.W.nsIn K mainGlobals "bool" = some none)
    : ∃ fd : FuncData, (∀ (s : Shared) (v : Value), BindsTo s fd ⟨[v], []⟩ [("script", v)]) ∧ ∀ base : Heap, K.In base → base.Ns mainGlobals mg → FnOk l.prog w K mg base CX0 20 fa fd ["script"] (spP K sLaw) := by
  have e := hfa.symm.trans (PySem.W.mg_of X G a18)
  cases e
  have T : Txt K mg := {
    d_parts_of := ⟨f0, _, fun_mk (st := s_parts_of) l0 c0 k0, PySem.W.mg_of X G a0⟩
    d_is_term := ⟨f1, _, fun_mk (st := s_is_term) l1 c1 k1, PySem.W.mg_of X G a1⟩
    d_is_tree := ⟨f2, _, fun_mk (st := s_is_tree) l2 c2 k2, PySem.W.mg_of X G a2⟩
    d_size := ⟨f3, _, fun_mk (st := s_size) l3 c3 k3, PySem.W.mg_of X G a3⟩
    d_depth := ⟨f4, _, fun_mk (st := s_depth) l4 c4 k4, PySem.W.mg_of X G a4⟩
    d_names_of := ⟨f5, _, fun_mk (st := s_names_of) l5 c5 k5, PySem.W.mg_of X G a5⟩
    d__law_draws := ⟨f6, _, fun_mk (st := s__law_draws) l6 c6 k6, PySem.W.mg_of X G a6⟩
    d__law_draw := ⟨f7, _, fun_mk (st := s__law_draw) l7 c7 k7, PySem.W.mg_of X G a7⟩
    d__law_pick := ⟨f8, _, fun_mk (st := s__law_pick) l8 c8 k8, PySem.W.mg_of X G a8⟩
    d__law_makers := ⟨f9, _, fun_mk (st := s__law_makers) l9 c9 k9, PySem.W.mg_of X G a9⟩
    d__law_term := ⟨f10, _, fun_mk (st := s__law_term) l10 c10 k10, PySem.W.mg_of X G a10⟩
    d__law_odd := ⟨f11, _, fun_mk (st := s__law_odd) l11 c11 k11, PySem.W.mg_of X G a11⟩
    d__law_bent := ⟨f12, _, fun_mk (st := s__law_bent) l12 c12 k12, PySem.W.mg_of X G a12⟩
    d__law_is_term := ⟨f13, _, fun_mk (st := s__law_is_term) l13 c13 k13, PySem.W.mg_of X G a13⟩
    d__law_names := ⟨f14, _, fun_mk (st := s__law_names) l14 c14 k14, PySem.W.mg_of X G a14⟩
    d__law_size := ⟨f15, _, fun_mk (st := s__law_size) l15 c15 k15, PySem.W.mg_of X G a15⟩
    d__law_depth := ⟨f16, _, fun_mk (st := s__law_depth) l16 c16 k16, PySem.W.mg_of X G a16⟩
    d__law_told := ⟨f17, _, fun_mk (st := s__law_told) l17 c17 k17, PySem.W.mg_of X G a17⟩
    d_law := ⟨fa, _, fun_mk (st := s_law) l18 c18 k18, PySem.W.mg_of X G a18⟩
    z_isinstance := PySem.W.mg_none_of X G z0
    z_str := PySem.W.mg_none_of X G z1
    z_len := PySem.W.mg_none_of X G z2
    z_tuple := PySem.W.mg_none_of X G z3
    z_sum := PySem.W.mg_none_of X G z4
    z_max := PySem.W.mg_none_of X G z5
    z_list := PySem.W.mg_none_of X G z6
    z_abs := PySem.W.mg_none_of X G z7
    z_int := PySem.W.mg_none_of X G z8
    z_range := PySem.W.mg_none_of X G z9
    z_all := PySem.W.mg_none_of X G z10
    z_bool := PySem.W.mg_none_of X G z11
  }
  refine ⟨PySem.W.fnOf "law" "law" (defArgs s_law) (defBody s_law) (defScope s_law) .none kV18 dc18 pm18 an18 cd18 ct18, fun s v => .of_eq rfl, fun base _ _ => ?_⟩
  obtain ⟨f, fd, F, m, kk, b, at_⟩ := (ok_law (P := l.prog) (w := w) (base := base) T).ex
  rw [PySem.W.mg_of X G a18] at m
  cases m
  exact same_fd (fun_mk (st := s_law) l18 c18 k18) F at_
theorem walk {l : PySem.W.OpenLaw} {q : Program} {loose : List Str} {XP : (Str → Option Value) → Heap → Prop} {YP : World → Heap → Prop} {d : DefRec} {K : Params → PySem.W.Frag} (hn : l.most = some 63) (hdf : d.params.defaults = [])
    (hY : ∀ (w : World) (h : Heap), YP w h → (K w.params).In h)
    (F : ∀ (w : World) (mg : Str → Option Value) (fa : Addr) (h : Heap), (K w.params).In h → h.Ns mainGlobals mg → mg d.name = some (.ref fa) →
      ∃ fd : FuncData, (∀ (s : Shared) (u : Value), BindsTo s fd ⟨[u], []⟩ [("script", u)]) ∧ ∀ base : Heap, (K w.params).In base → base.Ns mainGlobals mg → FnOk l.prog w (K w.params) mg base CX0 20 fa fd ["script"] (spP (K w.params) sLaw)) :
    PySem.W.WalkO q loose XP YP l.row.toRowW d [] (fun f vs => PySem.call f vs) :=
  L2.walk_of (n := 63) (k := 20) (x := "script") (CX := fun _ => CX0) (sp := fun w => spP (K w.params) sLaw) hn (by decide) hdf ⟨rfl, by decide, by decide⟩ hY F (fun _ _ a ns hl ho hS => law_sp hl ho hS) fun _ _ _ _ _ z => z
end Lw
open PySem PySem.W PyProof.Rows
set_option maxRecDepth 100000 in
set_option maxHeartbeats 0 in
theorem PySem.Challenge.cw_exactkinds_k01_terms_and_trees_holds : PySem.Challenge.rw_exactkinds_k01_terms_and_trees.Holds := by
  w_on; o_law; k_head; (case hw => w_witness2)
  k_fill
  refine Lw.walk (l := PySem.Challenge.rw_exactkinds_k01_terms_and_trees) rfl rfl (fun w h Y => PySem.W.kIn_of Y) ?F
  case F =>
    intro w mg fa h KX G hmg
    refine' Lw.all_mk KX G hmg ?a0 ?l0 ?c0 ?k0 ?a1 ?l1 ?c1 ?k1 ?a2 ?l2 ?c2 ?k2 ?a3 ?l3 ?c3 ?k3 ?a4 ?l4 ?c4 ?k4 ?a5 ?l5 ?c5 ?k5 ?a6 ?l6 ?c6 ?k6 ?a7 ?l7 ?c7 ?k7 ?a8 ?l8 ?c8 ?k8 ?a9 ?l9 ?c9 ?k9 ?a10 ?l10 ?c10 ?k10 ?a11 ?l11 ?c11 ?k11 ?a12 ?l12 ?c12 ?k12 ?a13 ?l13 ?c13 ?k13 ?a14 ?l14 ?c14 ?k14 ?a15 ?l15 ?c15 ?k15 ?a16 ?l16 ?c16 ?k16 ?a17 ?l17 ?c17 ?k17 ?a18 ?l18 ?c18 ?k18 ?z0 ?z1 ?z2 ?z3 ?z4 ?z5 ?z6 ?z7 ?z8 ?z9 ?z10 ?z11
    (case a0 => k_is)
    (case l0 => k_is)
    (case c0 => k_is)
    (case k0 => k_is)
    (case a1 => k_is)
    (case l1 => k_is)
    (case c1 => k_is)
    (case k1 => k_is)
    (case a2 => k_is)
    (case l2 => k_is)
    (case c2 => k_is)
    (case k2 => k_is)
    (case a3 => k_is)
    (case l3 => k_is)
    (case c3 => k_is)
    (case k3 => k_is)
    (case a4 => k_is)
    (case l4 => k_is)
    (case c4 => k_is)
    (case k4 => k_is)
    (case a5 => k_is)
    (case l5 => k_is)
    (case c5 => k_is)
    (case k5 => k_is)
    (case a6 => k_is)
    (case l6 => k_is)
    (case c6 => k_is)
    (case k6 => k_is)
    (case a7 => k_is)
    (case l7 => k_is)
    (case c7 => k_is)
    (case k7 => k_is)
    (case a8 => k_is)
    (case l8 => k_is)
    (case c8 => k_is)
    (case k8 => k_is)
    (case a9 => k_is)
    (case l9 => k_is)
    (case c9 => k_is)
    (case k9 => k_is)
    (case a10 => k_is)
    (case l10 => k_is)
    (case c10 => k_is)
    (case k10 => k_is)
    (case a11 => k_is)
    (case l11 => k_is)
    (case c11 => k_is)
    (case k11 => k_is)
    (case a12 => k_is)
    (case l12 => k_is)
    (case c12 => k_is)
    (case k12 => k_is)
    (case a13 => k_is)
    (case l13 => k_is)
    (case c13 => k_is)
    (case k13 => k_is)
    (case a14 => k_is)
    (case l14 => k_is)
    (case c14 => k_is)
    (case k14 => k_is)
    (case a15 => k_is)
    (case l15 => k_is)
    (case c15 => k_is)
    (case k15 => k_is)
    (case a16 => k_is)
    (case l16 => k_is)
    (case c16 => k_is)
    (case k16 => k_is)
    (case a17 => k_is)
    (case l17 => k_is)
    (case c17 => k_is)
    (case k17 => k_is)
    (case a18 => k_is)
    (case l18 => k_is)
    (case c18 => k_is)
    (case k18 => k_is)
    (case z0 => k_is)
    (case z1 => k_is)
    (case z2 => k_is)
    (case z3 => k_is)
    (case z4 => k_is)
    (case z5 => k_is)
    (case z6 => k_is)
    (case z7 => k_is)
    (case z8 => k_is)
    (case z9 => k_is)
    (case z10 => k_is)
    (case z11 => k_is)
