import PyProof.Rows.All
import Wide.All
import OpenK.AllK
import Wide.FinOn
import HandS.ForMost
import HandS.Flow
import HandS.IsInst
import HandS.Deep
import HandS.Wide
import HandS.TupAny
import HandS.Zip
import HandS.WordsDict
import PyProof.P3In
import KE.KDictZip
import KE.KDictItemsList
import KE.KTurns
import HandS.SortInts
import HandS.More
import KE.KEqDict
import PyProof.P3Eq
import PyProof.FString5
import HandS.DictComp
import KE.SortData
import KE.DataCmp
import PyProof.Rows.SortWalk
import HandS.Style
import PySem.Challenge.RW_exactkinds_k12_order_of_values
set_option Elab.async false
set_option linter.all false
set_option autoImplicit false
set_option maxRecDepth 100000
namespace Px
open PySem L2

inductive PV where
  | non | bl (b : Bool) | int (i : Int) | str (s : Str) | tup (xs : List PV) | lst (xs : List PV) | dic (ks : List Key) (vs : List PV) | scr (ns : List Int) | ty (n : String) | nst (t : Bool) (c : Nat) (s : Int)

def sOk (s : Str) : Bool := PyData.strOk s
def keyOk : Key → Bool
  | .inl _ => true
  | .inr s => sOk s

/-- a list of the written part -/
def KLst (K : PySem.W.Frag) (a : Addr) (xs : List V) : Prop := ∃ (o : Obj) (its : Array Value) (n : Nat), K.lookup a = some o ∧ o.cls = .type "list" ∧ o.dict = none ∧ o.data = .seq its n ∧ its.size ≤ sizeLine ∧ Vals xs its.toList
mutual
def Is (K : PySem.W.Frag) (H : Hp) (W : Addr → Prop) : PV → V → Prop
  | .non, v => v = .non
  | .bl b, v => v = .bl b
  | .int i, v => v = .int i
  | .ty n, v => v = .ty n
  | .str s, v => v = .str s ∧ sOk s = true
  | .tup ps, v => ∃ a vs, v = .ref a ∧ H a = some (.tup vs) ∧ Iss K H W ps vs
  | .lst ps, v => ∃ a vs, v = .ref a ∧ ¬ W a ∧ H a = some (.lst vs) ∧ Iss K H W ps vs
  | .dic ks ps, v => ∃ a vs, v = .ref a ∧ ¬ W a ∧ Rd H a (.dK (ks.zip vs)) ∧ ks.length = vs.length ∧ ks.all keyOk = true ∧ Iss K H W ps vs
  | .nst _ c s, v => ∃ a, v = .ref a ∧ ¬ W a ∧ H a = some (.lst [.ref c, .int s])
  | .scr ns, v => ∃ a, v = .ref a ∧ ((∃ o, H a = some (.frz o (.lst (ns.map V.int)))) ∨ KLst K a (ns.map V.int))
def Iss (K : PySem.W.Frag) (H : Hp) (W : Addr → Prop) : List PV → List V → Prop
  | [], vs => vs = []
  | p :: ps, vs => ∃ v r, vs = v :: r ∧ Is K H W p v ∧ Iss K H W ps r
end

/-- what may be written -/
abbrev MutT (H : Hp) (W : Addr → Prop) : Prop := ∀ b, W b → Mut (H b)
theorem mut_tup {H : Hp} {b : Addr} {xs : List V} {o : Obj} : (H b = some (.tup xs) → ¬ Mut (H b)) ∧ (∀ u, H b = some (.frz o u) → ¬ Mut (H b)) :=
  ⟨fun e m => by rw [e] at m; exact m, fun u e m => by rw [e] at m; exact m⟩
theorem rd_keep {H H' : Hp} {W : Addr → Prop} {a : Addr} {u : HO} (k : ∀ b o, H b = some o → ¬ W b → H' b = some o) (n : ¬ W a) (r : Rd H a u) : Rd H' a u := by
  rcases r with r | ⟨o, r⟩
  · exact .inl (k a _ r n)
  · exact .inr ⟨o, k a _ r n⟩
theorem rd_tup {H H' : Hp} {W : Addr → Prop} {a : Addr} {xs : List V} (k : ∀ b o, H b = some o → ¬ W b → H' b = some o) (m : MutT H W) (r : Rd H a (.tup xs)) : Rd H' a (.tup xs) := by
  refine rd_keep k (fun z => ?_) r
  have q := m a z
  rcases r with r | ⟨o, r⟩
  · rw [r] at q; exact q
  · rw [r] at q; exact q
mutual
/-- moved to another heap, another set of what may be written -/
theorem Is.move {K : PySem.W.Frag} {H H' : Hp} {W W' : Addr → Prop} (k : ∀ b o, H b = some o → ¬ W b → H' b = some o) (m : MutT H W) (s : ∀ b, (∃ o, H b = some o) → W' b → W b) : ∀ (p : PV) (v : V), Is K H W p v → Is K H' W' p v
  | .non, _, h => h
  | .bl _, _, h => h
  | .int _, _, h => h
  | .ty _, _, h => h
  | .str _, _, h => h
  | .tup ps, v, h => by
    obtain ⟨a, vs, e, r, q⟩ := h
    exact ⟨a, vs, e, k a _ r fun z => by { have q := m a z; rw [r] at q; exact q }, Iss.move k m s ps vs q⟩
  | .lst ps, v, h => by
    obtain ⟨a, vs, e, n, r, q⟩ := h
    exact ⟨a, vs, e, fun z => n (s a ⟨_, r⟩ z), k a _ r n, Iss.move k m s ps vs q⟩
  | .dic ks ps, v, h => by
    obtain ⟨a, vs, e, n, r, l, kk, q⟩ := h
    have t : ∃ o, H a = some o := by rcases r with r | ⟨o, r⟩ <;> exact ⟨_, r⟩
    exact ⟨a, vs, e, fun z => n (s a t z), rd_keep k n r, l, kk, Iss.move k m s ps vs q⟩
  | .nst _ c i, v, h => by
    obtain ⟨a, e, n, r⟩ := h
    exact ⟨a, e, fun z => n (s a ⟨_, r⟩ z), k a _ r n⟩
  | .scr ns, v, h => by
    obtain ⟨a, e, q⟩ := h
    rcases q with ⟨o, q⟩ | q
    · exact ⟨a, e, .inl ⟨o, k a _ q fun w => by have z := m a w; rw [q] at z; exact z⟩⟩
    · exact ⟨a, e, .inr q⟩
theorem Iss.move {K : PySem.W.Frag} {H H' : Hp} {W W' : Addr → Prop} (k : ∀ b o, H b = some o → ¬ W b → H' b = some o) (m : MutT H W) (s : ∀ b, (∃ o, H b = some o) → W' b → W b) : ∀ (ps : List PV) (vs : List V), Iss K H W ps vs → Iss K H' W' ps vs
  | [], _, h => h
  | p :: ps, vs, h => by
    obtain ⟨v, r, e, h1, h2⟩ := h
    exact ⟨v, r, e, Is.move k m s p v h1, Iss.move k m s ps r h2⟩
end
mutual
/-- fewer may be written -/
theorem Is.anti {K : PySem.W.Frag} {H : Hp} {W W' : Addr → Prop} (s : ∀ b, W' b → W b) : ∀ (p : PV) (v : V), Is K H W p v → Is K H W' p v
  | .non, _, h => h
  | .bl _, _, h => h
  | .int _, _, h => h
  | .ty _, _, h => h
  | .str _, _, h => h
  | .tup ps, v, h => by
    obtain ⟨a, vs, e, r, q⟩ := h
    exact ⟨a, vs, e, r, Iss.anti s ps vs q⟩
  | .lst ps, v, h => by
    obtain ⟨a, vs, e, n, r, q⟩ := h
    exact ⟨a, vs, e, fun z => n (s a z), r, Iss.anti s ps vs q⟩
  | .dic ks ps, v, h => by
    obtain ⟨a, vs, e, n, r, l, kk, q⟩ := h
    exact ⟨a, vs, e, fun z => n (s a z), r, l, kk, Iss.anti s ps vs q⟩
  | .nst _ c i, v, h => by
    obtain ⟨a, e, n, r⟩ := h
    exact ⟨a, e, fun z => n (s a z), r⟩
  | .scr ns, v, h => h
theorem Iss.anti {K : PySem.W.Frag} {H : Hp} {W W' : Addr → Prop} (s : ∀ b, W' b → W b) : ∀ (ps : List PV) (vs : List V), Iss K H W ps vs → Iss K H W' ps vs
  | [], _, h => h
  | p :: ps, vs, h => by
    obtain ⟨v, r, e, h1, h2⟩ := h
    exact ⟨v, r, e, Is.anti s p v h1, Iss.anti s ps r h2⟩
end
mutual
/-- a value without lists and dicts -/
def imm : PV → Bool
  | .lst _ => false
  | .dic _ _ => false
  | .scr _ => true
  | .nst _ _ _ => false
  | .tup ps => imms ps
  | .non => true | .bl _ => true | .int _ => true | .str _ => true | .ty _ => true
def imms : List PV → Bool
  | [] => true
  | p :: ps => imm p && imms ps
end
mutual
theorem Is.imm {K : PySem.W.Frag} {H : Hp} {W W' : Addr → Prop} : ∀ (p : PV) (v : V), imm p = true → Is K H W p v → Is K H W' p v
  | .non, _, _, h => h
  | .bl _, _, _, h => h
  | .int _, _, _, h => h
  | .ty _, _, _, h => h
  | .str _, _, _, h => h
  | .tup ps, v, i, h => by
    obtain ⟨a, vs, e, r, q⟩ := h
    exact ⟨a, vs, e, r, Iss.imm ps vs (by rw [imm] at i; exact i) q⟩
  | .lst ps, v, i, h => by simp [Px.imm] at i
  | .dic ks ps, v, i, h => by simp [Px.imm] at i
  | .nst _ _ _, v, i, h => by simp [Px.imm] at i
  | .scr _, _, _, h => h
theorem Iss.imm {K : PySem.W.Frag} {H : Hp} {W W' : Addr → Prop} : ∀ (ps : List PV) (vs : List V), imms ps = true → Iss K H W ps vs → Iss K H W' ps vs
  | [], _, _, h => h
  | p :: ps, vs, i, h => by
    obtain ⟨v, r, e, h1, h2⟩ := h
    rw [imms, Bool.and_eq_true] at i
    exact ⟨v, r, e, Is.imm p v i.1 h1, Iss.imm ps r i.2 h2⟩
end
theorem Iss.length {K : PySem.W.Frag} {H : Hp} {W : Addr → Prop} : ∀ {ps : List PV} {vs : List V}, Iss K H W ps vs → ps.length = vs.length
  | [], _, h => by cases (show _ = [] from h); rfl
  | p :: ps, vs, h => by
    obtain ⟨v, r, e, h1, h2⟩ := h
    subst e
    simp [Iss.length h2]
theorem Iss.get {K : PySem.W.Frag} {H : Hp} {W : Addr → Prop} : ∀ {ps : List PV} {vs : List V}, Iss K H W ps vs → ∀ {i : Nat} {v : V}, vs[i]? = some v → ∃ p, ps[i]? = some p ∧ Is K H W p v
  | [], _, h, i, v, e => by cases (show _ = [] from h); simp at e
  | p :: ps, vs, h, i, v, e => by
    obtain ⟨w, r, e1, h1, h2⟩ := h
    subst e1
    cases i with
    | zero => simp at e; subst e; exact ⟨p, rfl, h1⟩
    | succ i =>
      obtain ⟨q, e2, h3⟩ := Iss.get h2 (i := i) (v := v) (by simpa using e)
      exact ⟨q, by simpa using e2, h3⟩
theorem Iss.getP {K : PySem.W.Frag} {H : Hp} {W : Addr → Prop} : ∀ {ps : List PV} {vs : List V}, Iss K H W ps vs → ∀ {i : Nat} {p : PV}, ps[i]? = some p → ∃ v, vs[i]? = some v ∧ Is K H W p v
  | [], _, h, i, v, e => by simp at e
  | p :: ps, vs, h, i, q, e => by
    obtain ⟨w, r, e1, h1, h2⟩ := h
    subst e1
    cases i with
    | zero => simp at e; subst e; exact ⟨w, rfl, h1⟩
    | succ i =>
      obtain ⟨q, e2, h3⟩ := Iss.getP h2 (i := i) (p := q) (by simpa using e)
      exact ⟨q, by simpa using e2, h3⟩
theorem Iss.append {K : PySem.W.Frag} {H : Hp} {W : Addr → Prop} : ∀ {ps qs : List PV} {vs us : List V}, Iss K H W ps vs → Iss K H W qs us → Iss K H W (ps ++ qs) (vs ++ us)
  | [], _, _, _, h, g => by cases (show _ = [] from h); exact g
  | p :: ps, qs, vs, us, h, g => by
    obtain ⟨w, r, e1, h1, h2⟩ := h
    subst e1
    exact ⟨w, r ++ us, rfl, h1, Iss.append h2 g⟩
theorem Iss.drop {K : PySem.W.Frag} {H : Hp} {W : Addr → Prop} : ∀ {ps : List PV} {vs : List V} (n : Nat), Iss K H W ps vs → Iss K H W (ps.drop n) (vs.drop n)
  | _, _, 0, h => h
  | [], _, n + 1, h => by cases (show _ = [] from h); exact rfl
  | p :: ps, vs, n + 1, h => by
    obtain ⟨w, r, e1, h1, h2⟩ := h
    subst e1
    exact Iss.drop n h2
theorem Iss.take {K : PySem.W.Frag} {H : Hp} {W : Addr → Prop} : ∀ {ps : List PV} {vs : List V} (n : Nat), Iss K H W ps vs → Iss K H W (ps.take n) (vs.take n)
  | _, _, 0, h => by simp [Iss]
  | [], _, n + 1, h => by cases (show _ = [] from h); exact rfl
  | p :: ps, vs, n + 1, h => by
    obtain ⟨w, r, e1, h1, h2⟩ := h
    subst e1
    exact ⟨w, r.take n, rfl, h1, Iss.take n h2⟩
theorem Iss.set {K : PySem.W.Frag} {H : Hp} {W : Addr → Prop} {p : PV} {v : V} (h0 : Is K H W p v) : ∀ {ps : List PV} {vs : List V} (n : Nat), Iss K H W ps vs → Iss K H W (ps.set n p) (vs.set n v)
  | [], _, n, h => by cases (show _ = [] from h); cases n <;> exact rfl
  | q :: ps, vs, 0, h => by
    obtain ⟨w, r, e1, h1, h2⟩ := h
    subst e1
    exact ⟨v, r, rfl, h0, h2⟩
  | q :: ps, vs, n + 1, h => by
    obtain ⟨w, r, e1, h1, h2⟩ := h
    subst e1
    exact ⟨w, r.set n v, rfl, h1, Iss.set h0 n h2⟩


theorem Iss.nil {K : PySem.W.Frag} {H : Hp} {W : Addr → Prop} : Iss K H W [] [] := rfl
theorem Iss.cons {K : PySem.W.Frag} {H : Hp} {W : Addr → Prop} {p : PV} {v : V} {ps : List PV} {vs : List V} (h : Is K H W p v) (r : Iss K H W ps vs) : Iss K H W (p :: ps) (v :: vs) := ⟨v, vs, rfl, h, r⟩
theorem Iss.ints {K : PySem.W.Frag} {H : Hp} {W : Addr → Prop} : ∀ ns : List Int, Iss K H W (ns.map PV.int) (ns.map V.int)
  | [] => rfl
  | n :: ns => ⟨_, _, rfl, rfl, Iss.ints ns⟩

/-! ### the frame: slots with values, slots that own an object (true: a parameter that the caller owns) -/
inductive Sl where
  | un | val (p : PV) | own (io : Bool) (p : PV)
abbrev En := List Sl
abbrev Pds := List (PV × V)
structure Gd where
  keep : Hp
  ex : Addr → Prop
  io : Nat → Addr → Prop
  vo : Addr → Prop
def Gd.add (G : Gd) (a : Addr) (o : HO) : Gd := ⟨upd G.keep a o, fun b => b = a ∨ G.ex b, G.io, G.vo⟩
/-- a list of numbers that may change at any call -/
def IntsAt (H : Hp) (b : Addr) : Prop := ∃ ns : List Int, H b = some (.lst (ns.map V.int)) ∧ ∀ n ∈ ns, 0 ≤ n
def isNst : PV → Bool
  | .nst _ _ _ => true
  | _ => false
def WS (G : Gd) (σ : L2.St) (ρ : En) (a : Addr) : Prop := G.ex a ∨ ∃ (i : Nat) (b : Bool) (p : PV), ρ[i]? = some (Sl.own b p) ∧ σ[i]? = some (some (V.ref a))
def OwnO (K : PySem.W.Frag) (H : Hp) (W : Addr → Prop) : PV → HO → Prop
  | .lst ps, .lst vs => Iss K H W ps vs
  | .nst _ c s, .lst vs => vs = [.ref c, .int s]
  | .dic ks ps, .dK kvs => ∃ vs, kvs = ks.zip vs ∧ ks.length = vs.length ∧ ks.all keyOk = true ∧ Iss K H W ps vs
  | _, _ => False
def Own (K : PySem.W.Frag) (H : Hp) (W : Addr → Prop) (p : PV) (a : Addr) : Prop := ∃ o, H a = some o ∧ OwnO K H W p o
theorem OwnO.mut {K : PySem.W.Frag} {H : Hp} {W : Addr → Prop} {p : PV} {o : HO} (h : OwnO K H W p o) : Mut (some o) := by
  cases p <;> cases o <;> first | exact h.elim | trivial
theorem OwnO.move {K : PySem.W.Frag} {H H' : Hp} {W W' : Addr → Prop} (k : ∀ b o, H b = some o → ¬ W b → H' b = some o) (m : MutT H W) (s : ∀ b, (∃ o, H b = some o) → W' b → W b) {p : PV} {o : HO} (h : OwnO K H W p o) : OwnO K H' W' p o := by
  cases p <;> cases o <;> first
    | exact h.elim
    | exact Iss.move k m s _ _ h
    | (obtain ⟨vs, e, l, kk, q⟩ := h; exact ⟨vs, e, l, kk, Iss.move k m s _ _ q⟩)
    | exact h
theorem OwnO.anti {K : PySem.W.Frag} {H : Hp} {W W' : Addr → Prop} (s : ∀ b, W' b → W b) {p : PV} {o : HO} (h : OwnO K H W p o) : OwnO K H W' p o := by
  cases p <;> cases o <;> first
    | exact h.elim
    | exact Iss.anti s _ _ h
    | (obtain ⟨vs, e, l, kk, q⟩ := h; exact ⟨vs, e, l, kk, Iss.anti s _ _ q⟩)
    | exact h
theorem OwnO.is {K : PySem.W.Frag} {H : Hp} {W W' : Addr → Prop} {p : PV} {o : HO} {a : Addr} (h : OwnO K H W p o) (e : H a = some o) (s : ∀ b, W' b → W b) (n : ¬ W' a) : Is K H W' p (.ref a) := by
  cases p <;> cases o <;> first
    | exact h.elim
    | exact ⟨a, _, rfl, n, e, Iss.anti s _ _ h⟩
    | (obtain ⟨vs, e1, l, kk, q⟩ := h; subst e1; exact ⟨a, vs, rfl, n, .inl e, l, kk, Iss.anti s _ _ q⟩)
    | (have h' : _ = _ := h; subst h'; exact ⟨a, rfl, n, e⟩)

/-- what may change at any call -/
structure RX (G : Gd) (H : Hp) (σ : L2.St) (ρ : En) : Prop where
  vo : ∀ b, G.vo b → G.ex b ∧ G.keep b = none ∧ IntsAt H b
  off : ∀ (i : Nat) (b : Bool) (p : PV) (a : Addr), ρ[i]? = some (Sl.own b p) → σ[i]? = some (some (V.ref a)) → ¬ G.vo a
  nst : ∀ (i : Nat) (b : Bool) (c : Nat) (s : Int), ρ[i]? = some (Sl.own b (.nst false c s)) → G.vo c
structure RE (K : PySem.W.Frag) (G : Gd) (H : Hp) (σ : L2.St) (ρ : En) (pd : Pds) : Prop where
  len : ρ.length = σ.length
  val : ∀ (i : Nat) (p : PV), ρ[i]? = some (Sl.val p) → ∃ v, σ[i]? = some (some v) ∧ Is K H (WS G σ ρ) p v
  own : ∀ (i : Nat) (b : Bool) (p : PV), ρ[i]? = some (Sl.own b p) → ∃ a, σ[i]? = some (some (V.ref a)) ∧ G.keep a = none ∧ Own K H (WS G σ ρ) p a
  inj : ∀ (i j : Nat) (b c : Bool) (p q : PV) (a : Addr), ρ[i]? = some (Sl.own b p) → ρ[j]? = some (Sl.own c q) → σ[i]? = some (some (V.ref a)) → σ[j]? = some (some (V.ref a)) → i = j
  io : ∀ (i : Nat) (a : Addr), G.io i a → σ[i]? = some (some (V.ref a)) ∧ ∃ p, ρ[i]? = some (Sl.own true p)
  keep : ∀ b o, G.keep b = some o → H b = some o
  exk : ∀ b, G.ex b → ¬ G.vo b → ∃ o, G.keep b = some o ∧ Mut (some o)
  pd : ∀ x ∈ pd, Is K H (WS G σ ρ) x.1 x.2
  ext : RX G H σ ρ

abbrev exkOk (G : Gd) : Prop := ∀ b, G.ex b → ¬ G.vo b → ∃ o, G.keep b = some o ∧ Mut (some o)
section
variable {K : PySem.W.Frag} {G : Gd} {H H' : Hp} {σ σ' : L2.St} {ρ ρ' : En} {pd pd' : Pds}
theorem RX.same (R : RX G H σ ρ) (s : Same H H') : RX G H' σ ρ := ⟨fun b h => by
  obtain ⟨h1, h2, ns, e, h3⟩ := R.vo b h
  exact ⟨h1, h2, ns, s b _ e, h3⟩, R.off, R.nst⟩
/-- the slots that own are some of those that did -/
theorem RX.slots (R : RX G H σ ρ) (h : ∀ (i : Nat) (b : Bool) (p : PV), ρ'[i]? = some (Sl.own b p) → ρ[i]? = some (Sl.own b p) ∧ σ'[i]? = σ[i]?) : RX G H σ' ρ' :=
  ⟨R.vo, fun i b p a e1 e2 => by
    obtain ⟨f1, f2⟩ := h i b p e1
    exact R.off i b p a f1 (by rw [← f2]; exact e2), fun i b c s e1 => R.nst i b c s (h i b _ e1).1⟩
theorem RX.add {a : Addr} {o : HO} (R : RX G H σ ρ) (n : H a = none) (s : Same H H') : RX (G.add a o) H' σ ρ := ⟨fun b h => by
  obtain ⟨h1, h2, ns, e, h3⟩ := R.vo b h
  have ne : b ≠ a := fun z => by rw [z, n] at e; cases e
  exact ⟨.inr h1, by show upd G.keep a o b = none; rw [upd_ne ne]; exact h2, ns, s b _ e, h3⟩, R.off, R.nst⟩
theorem RX.notA {a : Addr} {o : HO} (R : RX (G.add a o) H σ ρ) : ¬ G.vo a := fun h => by
  obtain ⟨_, h2, _⟩ := R.vo a h
  have h2' : upd G.keep a o a = none := h2
  rw [upd_same] at h2'; cases h2'
theorem RX.unadd {a : Addr} {o : HO} (R : RX (G.add a o) H σ ρ) : RX G H σ ρ := ⟨fun b h => by
  obtain ⟨h1, h2, ns, e, h3⟩ := R.vo b h
  have ne : b ≠ a := fun z => R.notA (by rw [← z]; exact h)
  have h2' : upd G.keep a o b = none := h2
  rw [upd_ne ne] at h2'
  exact ⟨h1.resolve_left ne, h2', ns, e, h3⟩, R.off, R.nst⟩
theorem RE.mut (R : RE K G H σ ρ pd) : MutT H (WS G σ ρ) := fun b w => by
  rcases w with w | ⟨i, c, p, e1, e2⟩
  · by_cases hv : G.vo b
    · obtain ⟨_, _, ns, e, _⟩ := R.ext.vo b hv
      rw [e]; trivial
    · obtain ⟨o, e, m⟩ := R.exk b w hv
      rw [R.keep b o e]; exact m
  · obtain ⟨a, e3, _, o, e4, q⟩ := R.own i c p e1
    rw [e2] at e3; cases e3
    rw [e4]; exact q.mut
theorem RE.there (R : RE K G H σ ρ pd) {b : Addr} (w : WS G σ ρ b) : ∃ o, H b = some o := by
  have m := R.mut b w
  cases e : H b with
  | none => rw [e] at m; exact m.elim
  | some o => exact ⟨o, rfl⟩
theorem RE.pds (R : RE K G H σ ρ pd) (s : ∀ x ∈ pd', x ∈ pd) : RE K G H σ ρ pd' := ⟨R.len, R.val, R.own, R.inj, R.io, R.keep, R.exk, fun x hx => R.pd x (s x hx), R.ext⟩
theorem RE.tl {x : PV × V} (R : RE K G H σ ρ (x :: pd)) : RE K G H σ ρ pd := R.pds fun y hy => List.mem_cons_of_mem _ hy
theorem RE.push {p : PV} {v : V} (R : RE K G H σ ρ pd) (h : Is K H (WS G σ ρ) p v) : RE K G H σ ρ ((p, v) :: pd) := ⟨R.len, R.val, R.own, R.inj, R.io, R.keep, R.exk, fun x hx => by
  rcases List.mem_cons.mp hx with e | hx
  · rw [e]; exact h
  · exact R.pd x hx, R.ext⟩
theorem RE.pushs (R : RE K G H σ ρ pd) (h : ∀ x ∈ pd', Is K H (WS G σ ρ) x.1 x.2) : RE K G H σ ρ (pd' ++ pd) := ⟨R.len, R.val, R.own, R.inj, R.io, R.keep, R.exk, fun x hx => by
  rcases List.mem_append.mp hx with e | hx
  · exact h x e
  · exact R.pd x hx, R.ext⟩
/-- everything that is tracked stays -/
theorem RE.same (R : RE K G H σ ρ pd) (s : Same H H') : RE K G H' σ ρ pd := by
  have mv : ∀ p v, Is K H (WS G σ ρ) p v → Is K H' (WS G σ ρ) p v := fun p v h => Is.move (fun b o e _ => s b o e) R.mut (fun _ _ w => w) p v h
  refine ⟨R.len, fun i p e => ?_, fun i c p e => ?_, R.inj, R.io, fun b o e => s b o (R.keep b o e), R.exk, fun x hx => mv _ _ (R.pd x hx), R.ext.same s⟩
  · obtain ⟨v, e1, h⟩ := R.val i p e
    exact ⟨v, e1, mv p v h⟩
  · obtain ⟨a, e1, n, o, e2, h⟩ := R.own i c p e
    exact ⟨a, e1, n, o, s a o e2, h.move (fun b o e _ => s b o e) R.mut fun _ _ w => w⟩
/-- a new object, private -/
theorem RE.add {a : Addr} {o : HO} (R : RE K G H σ ρ pd) (n : H a = none) (s : Same H H') (e : H' a = some o) (m : Mut (some o)) : RE K (G.add a o) H' σ ρ pd := by
  have sub : ∀ b, (∃ o, H b = some o) → WS (G.add a o) σ ρ b → WS G σ ρ b := fun b t w => by
    rcases w with (w | w) | w
    · obtain ⟨u, t⟩ := t; rw [w, n] at t; cases t
    · exact .inl w
    · exact .inr w
  have mv : ∀ p v, Is K H (WS G σ ρ) p v → Is K H' (WS (G.add a o) σ ρ) p v := fun p v h => Is.move (fun b o e _ => s b o e) R.mut sub p v h
  have kn : G.keep a = none := by
    cases q : G.keep a with
    | none => rfl
    | some u => rw [R.keep a u q] at n; cases n
  refine ⟨R.len, fun i p e => ?_, fun i d p e1 => ?_, R.inj, R.io, fun b u e1 => ?_, fun b w hv => ?_, fun x hx => mv _ _ (R.pd x hx), R.ext.add n s⟩
  · obtain ⟨v, e1, h⟩ := R.val i p e
    exact ⟨v, e1, mv p v h⟩
  · obtain ⟨c, e2, k, u, e3, h⟩ := R.own i d p e1
    have ne : c ≠ a := fun z => by rw [z, n] at e3; cases e3
    exact ⟨c, e2, by show upd G.keep a o c = none; rw [upd_ne ne]; exact k, u, s c u e3, h.move (fun b o e _ => s b o e) R.mut sub⟩
  · by_cases q : b = a
    · rw [q] at e1
      have e2 : upd G.keep a o a = some u := e1
      rw [upd_same] at e2; cases e2
      rw [q]; exact e
    · have e2 : upd G.keep a o b = some u := e1
      rw [upd_ne q] at e2
      exact s b u (R.keep b u e2)
  · rcases w with w | w
    · rw [w]; exact ⟨o, upd_same, m⟩
    · obtain ⟨u, e1, m1⟩ := R.exk b w hv
      have ne : b ≠ a := fun z => by rw [z, kn] at e1; cases e1
      exact ⟨u, by show upd G.keep a o b = some u; rw [upd_ne ne]; exact e1, m1⟩
/-- the private one forgotten -/
theorem RE.unadd {a : Addr} {o : HO} (R : RE K (G.add a o) H σ ρ pd) (n : G.keep a = none) (kx : exkOk G) : RE K G H σ ρ pd ∧ ¬ WS G σ ρ a ∧ H a = some o := by
  have sub : ∀ b, WS G σ ρ b → WS (G.add a o) σ ρ b := fun b w => w.elim (fun w => .inl (.inr w)) .inr
  have Ha : H a = some o := R.keep a o upd_same
  refine ⟨⟨R.len, fun i p e => ?_, fun i b p e => ?_, R.inj, R.io, fun b u e => ?_, kx, fun x hx => Is.anti sub _ _ (R.pd x hx), R.ext.unadd⟩, ?_, Ha⟩
  · obtain ⟨v, e1, h⟩ := R.val i p e
    exact ⟨v, e1, Is.anti sub p v h⟩
  · obtain ⟨c, e1, k, u, e2, h⟩ := R.own i b p e
    refine ⟨c, e1, ?_, u, e2, h.anti sub⟩
    have k' : upd G.keep a o c = none := k
    by_cases z : c = a
    · rw [z, upd_same] at k'; cases k'
    · rw [upd_ne z] at k'; exact k'
  · refine R.keep b u ?_
    have ne : b ≠ a := fun z => by rw [z, n] at e; cases e
    show upd G.keep a o b = some u
    rw [upd_ne ne]; exact e
  · rintro (w | ⟨i, b, p, e1, e2⟩)
    · obtain ⟨u, e, _⟩ := kx a w R.ext.notA
      rw [n] at e; cases e
    · obtain ⟨c, e3, k, _⟩ := R.own i b p e1
      rw [e2] at e3; cases e3
      have k' : upd G.keep a o a = none := k
      rw [upd_same] at k'; cases k'

def notIo (ρ : En) (i : Nat) : Bool := match ρ[i]? with
  | some (Sl.own true _) => false
  | _ => true
theorem ix_set {α : Type} {l : List α} {i j : Nat} {x y : α} (h : (l.set i x)[j]? = some y) : (i = j ∧ y = x ∧ i < l.length) ∨ (i ≠ j ∧ l[j]? = some y) := by
  by_cases e : i = j
  · subst e
    rw [List.getElem?_set] at h
    by_cases l' : i < l.length
    · simp [l'] at h; exact .inl ⟨rfl, h.symm, l'⟩
    · simp [l'] at h
  · rw [List.getElem?_set_ne e] at h; exact .inr ⟨e, h⟩
theorem ix_ne {α : Type} {l : List α} {i j : Nat} {x : α} (e : i ≠ j) : (l.set i x)[j]? = l[j]? := List.getElem?_set_ne e
theorem RE.io_ne (R : RE K G H σ ρ pd) {i : Nat} (n : notIo ρ i = true) : ∀ j a, G.io j a → i ≠ j := fun x a hx z => by
  obtain ⟨_, p, e⟩ := R.io x a hx
  unfold notIo at n
  rw [z, e] at n; simp at n
/-- a slot gets a value -/
theorem RE.set {i : Nat} {p : PV} {v : V} (R : RE K G H σ ρ ((p, v) :: pd)) (n : notIo ρ i = true) : RE K G H (σ.set i (some v)) (ρ.set i (Sl.val p)) pd := by
  have sub : ∀ b, WS G (σ.set i (some v)) (ρ.set i (Sl.val p)) b → WS G σ ρ b := fun b w => by
    rcases w with w | ⟨j, c, q, e1, e2⟩
    · exact .inl w
    · rcases ix_set e1 with ⟨_, z, _⟩ | ⟨ne, e1⟩
      · cases z
      · rw [ix_ne ne] at e2; exact .inr ⟨j, c, q, e1, e2⟩
  refine ⟨by simp [R.len], fun j q e => ?_, fun j c q e => ?_, fun j k b c q r a e1 e2 e3 e4 => ?_, fun x ax hx => ?_, R.keep, R.exk, fun x hx => Is.anti sub _ _ (R.pd x (List.mem_cons_of_mem _ hx)), R.ext.slots fun j b q e => ?_⟩
  · rcases ix_set e with ⟨rfl, z, l⟩ | ⟨ne, e⟩
    · cases z
      refine ⟨v, ?_, Is.anti sub _ _ (R.pd (p, v) List.mem_cons_self)⟩
      rw [List.getElem?_set_self (by rw [← R.len]; exact l)]
    · obtain ⟨w, e1, h⟩ := R.val j q e
      exact ⟨w, by rw [ix_ne ne]; exact e1, Is.anti sub _ _ h⟩
  · rcases ix_set e with ⟨_, z, _⟩ | ⟨ne, e⟩
    · cases z
    · obtain ⟨a, e1, k, o, e2, h⟩ := R.own j c q e
      exact ⟨a, by rw [ix_ne ne]; exact e1, k, o, e2, h.anti sub⟩
  · rcases ix_set e1 with ⟨_, z, _⟩ | ⟨n1, e1⟩
    · cases z
    rcases ix_set e2 with ⟨_, z, _⟩ | ⟨n2, e2⟩
    · cases z
    rw [ix_ne n1] at e3
    rw [ix_ne n2] at e4
    exact R.inj j k b c q r a e1 e2 e3 e4
  · obtain ⟨e, q, e1⟩ := R.io x ax hx
    have ne := R.io_ne n x ax hx
    exact ⟨by rw [ix_ne ne]; exact e, q, by rw [ix_ne ne]; exact e1⟩
  · rcases ix_set e with ⟨_, z, _⟩ | ⟨ne, e⟩
    · cases z
    · exact ⟨e, ix_ne ne⟩
/-- a slot forgets -/
theorem RE.clear {i : Nat} (R : RE K G H σ ρ pd) (n : notIo ρ i = true) : RE K G H (σ.set i none) (ρ.set i Sl.un) pd := by
  have sub : ∀ b, WS G (σ.set i none) (ρ.set i Sl.un) b → WS G σ ρ b := fun b w => by
    rcases w with w | ⟨j, c, q, e1, e2⟩
    · exact .inl w
    · rcases ix_set e1 with ⟨_, z, _⟩ | ⟨ne, e1⟩
      · cases z
      · rw [ix_ne ne] at e2; exact .inr ⟨j, c, q, e1, e2⟩
  refine ⟨by simp [R.len], fun j q e => ?_, fun j c q e => ?_, fun j k b c q r a e1 e2 e3 e4 => ?_, fun x ax hx => ?_, R.keep, R.exk, fun x hx => Is.anti sub _ _ (R.pd x hx), R.ext.slots fun j b q e => ?_⟩
  · rcases ix_set e with ⟨_, z, _⟩ | ⟨ne, e⟩
    · cases z
    · obtain ⟨w, e1, h⟩ := R.val j q e
      exact ⟨w, by rw [ix_ne ne]; exact e1, Is.anti sub _ _ h⟩
  · rcases ix_set e with ⟨_, z, _⟩ | ⟨ne, e⟩
    · cases z
    · obtain ⟨a, e1, k, o, e2, h⟩ := R.own j c q e
      exact ⟨a, by rw [ix_ne ne]; exact e1, k, o, e2, h.anti sub⟩
  · rcases ix_set e1 with ⟨_, z, _⟩ | ⟨n1, e1⟩
    · cases z
    rcases ix_set e2 with ⟨_, z, _⟩ | ⟨n2, e2⟩
    · cases z
    rw [ix_ne n1] at e3
    rw [ix_ne n2] at e4
    exact R.inj j k b c q r a e1 e2 e3 e4
  · obtain ⟨e, q, e1⟩ := R.io x ax hx
    have ne := R.io_ne n x ax hx
    exact ⟨by rw [ix_ne ne]; exact e, q, by rw [ix_ne ne]; exact e1⟩
  · rcases ix_set e with ⟨_, z, _⟩ | ⟨ne, e⟩
    · cases z
    · exact ⟨e, ix_ne ne⟩
/-- a slot takes a new object as its own -/
theorem RE.setOwn {i : Nat} {p : PV} {a : Addr} {o : HO} (R : RE K (G.add a o) H σ ρ pd) (n : notIo ρ i = true) (l : i < ρ.length) (k : G.keep a = none) (kx : exkOk G) (w : OwnO K H (WS (G.add a o) σ ρ) p o) (np : isNst p = false) :
    RE K G H (σ.set i (some (.ref a))) (ρ.set i (Sl.own false p)) pd := by
  have lσ : i < σ.length := by rw [← R.len]; exact l
  have Ha : H a = some o := R.keep a o upd_same
  have sub : ∀ b, WS G (σ.set i (some (.ref a))) (ρ.set i (Sl.own false p)) b → WS (G.add a o) σ ρ b := fun b w => by
    rcases w with w | ⟨j, c, q, e1, e2⟩
    · exact .inl (.inr w)
    · rcases ix_set e1 with ⟨rfl, z, _⟩ | ⟨ne, e1⟩
      · rw [List.getElem?_set_self lσ] at e2; cases e2; exact .inl (.inl rfl)
      · rw [ix_ne ne] at e2; exact .inr ⟨j, c, q, e1, e2⟩
  have kne : ∀ c, (G.add a o).keep c = none → c ≠ a ∧ G.keep c = none := fun c e => by
    have e' : upd G.keep a o c = none := e
    by_cases z : c = a
    · rw [z, upd_same] at e'; cases e'
    · rw [upd_ne z] at e'; exact ⟨z, e'⟩
  refine ⟨by simp [R.len], fun j q e => ?_, fun j c q e => ?_, fun j m b c q r d e1 e2 e3 e4 => ?_, fun x ax hx => ?_, fun b u e => ?_, kx, fun x hx => Is.anti sub _ _ (R.pd x hx), ?_⟩
  · rcases ix_set e with ⟨_, z, _⟩ | ⟨ne, e⟩
    · cases z
    · obtain ⟨w, e1, h⟩ := R.val j q e
      exact ⟨w, by rw [ix_ne ne]; exact e1, Is.anti sub _ _ h⟩
  · rcases ix_set e with ⟨rfl, z, _⟩ | ⟨ne, e⟩
    · cases z
      exact ⟨a, List.getElem?_set_self lσ, k, o, Ha, w.anti sub⟩
    · obtain ⟨d, e1, k1, u, e2, h⟩ := R.own j c q e
      exact ⟨d, by rw [ix_ne ne]; exact e1, (kne d k1).2, u, e2, h.anti sub⟩
  · rcases ix_set e1 with ⟨rfl, z, _⟩ | ⟨n1, e1⟩
    · rw [List.getElem?_set_self lσ] at e3; cases e3
      rcases ix_set e2 with ⟨rfl, z2, _⟩ | ⟨n2, e2⟩
      · rfl
      · rw [ix_ne n2] at e4
        obtain ⟨d, e5, k1, _⟩ := R.own m c r e2
        rw [e4] at e5; cases e5
        exact absurd rfl (kne _ k1).1
    · rw [ix_ne n1] at e3
      rcases ix_set e2 with ⟨rfl, z2, _⟩ | ⟨n2, e2⟩
      · rw [List.getElem?_set_self lσ] at e4; cases e4
        obtain ⟨d, e5, k1, _⟩ := R.own j b q e1
        rw [e3] at e5; cases e5
        exact absurd rfl (kne _ k1).1
      · rw [ix_ne n2] at e4
        exact R.inj j m b c q r d e1 e2 e3 e4
  · obtain ⟨e, q, e1⟩ := R.io x ax hx
    have ne := R.io_ne n x ax hx
    exact ⟨by rw [ix_ne ne]; exact e, q, by rw [ix_ne ne]; exact e1⟩
  · refine R.keep b u ?_
    have ne : b ≠ a := fun z => by rw [z, k] at e; cases e
    show upd G.keep a o b = some u
    rw [upd_ne ne]; exact e
  · have X := R.ext.unadd
    refine ⟨X.vo, fun j c q d e1 e2 => ?_, fun j c d z e1 => ?_⟩
    · rcases ix_set e1 with ⟨rfl, z, _⟩ | ⟨ne, e1⟩
      · rw [List.getElem?_set_self lσ] at e2; cases e2
        exact R.ext.notA
      · rw [ix_ne ne] at e2
        exact X.off j c q d e1 e2
    · rcases ix_set e1 with ⟨rfl, z2, _⟩ | ⟨ne, e1⟩
      · cases z2; cases np
      · exact X.nst j c d z e1
/-- a slot's own object is from now on a value like others -/
theorem RE.freeze {i : Nat} {p : PV} (R : RE K G H σ ρ pd) (e : ρ[i]? = some (Sl.own false p)) : RE K G H σ (ρ.set i (Sl.val p)) pd := by
  obtain ⟨a, ea, k, o, Ha, w⟩ := R.own i false p e
  have sub : ∀ b, WS G σ (ρ.set i (Sl.val p)) b → WS G σ ρ b := fun b w => by
    rcases w with w | ⟨j, c, q, e1, e2⟩
    · exact .inl w
    · rcases ix_set e1 with ⟨_, z, _⟩ | ⟨ne, e1⟩
      · cases z
      · exact .inr ⟨j, c, q, e1, e2⟩
  have na : ¬ WS G σ (ρ.set i (Sl.val p)) a := by
    rintro (w | ⟨j, c, q, e1, e2⟩)
    · obtain ⟨u, e3, _⟩ := R.exk a w (R.ext.off i false p a e ea)
      rw [k] at e3; cases e3
    · rcases ix_set e1 with ⟨_, z, _⟩ | ⟨ne, e1⟩
      · cases z
      · exact ne (R.inj i j _ _ _ _ a e e1 ea e2)
  refine ⟨by simp [R.len], fun j q e1 => ?_, fun j c q e1 => ?_, fun j k b c q r a e1 e2 e3 e4 => ?_, fun x ax hx => ?_, R.keep, R.exk, fun x hx => Is.anti sub _ _ (R.pd x hx), R.ext.slots fun j b q e => ?_⟩
  · rcases ix_set e1 with ⟨rfl, z, l⟩ | ⟨ne, e1⟩
    · cases z
      exact ⟨_, ea, w.is Ha sub na⟩
    · obtain ⟨w, e2, h⟩ := R.val j q e1
      exact ⟨w, e2, Is.anti sub _ _ h⟩
  · rcases ix_set e1 with ⟨_, z, _⟩ | ⟨ne, e1⟩
    · cases z
    · obtain ⟨a, e2, k, o, e3, h⟩ := R.own j c q e1
      exact ⟨a, e2, k, o, e3, h.anti sub⟩
  · rcases ix_set e1 with ⟨_, z, _⟩ | ⟨n1, e1⟩
    · cases z
    rcases ix_set e2 with ⟨_, z, _⟩ | ⟨n2, e2⟩
    · cases z
    exact R.inj j k b c q r a e1 e2 e3 e4
  · obtain ⟨e1, q, e2⟩ := R.io x ax hx
    have ne : i ≠ x := fun z => by rw [z, e2] at e; cases e
    exact ⟨e1, q, by rw [ix_ne ne]; exact e2⟩
  · rcases ix_set e with ⟨_, z, _⟩ | ⟨ne, e⟩
    · cases z
    · exact ⟨e, rfl⟩
/-- a slot's own object is changed -/
theorem RE.mutate {i : Nat} {b : Bool} {p p' : PV} {a : Addr} {o' : HO} (R : RE K G H σ ρ pd) (e : ρ[i]? = some (Sl.own b p)) (ea : σ[i]? = some (some (V.ref a))) (w : OwnO K H (WS G σ ρ) p' o') (np : ∀ c s, p' = .nst false c s → G.vo c) : RE K G (upd H a o') σ (ρ.set i (Sl.own b p')) pd := by
  obtain ⟨a1, ea1, k, o, Ha, _⟩ := R.own i b p e
  rw [ea] at ea1; cases ea1
  have Wa : WS G σ ρ a := .inr ⟨i, b, p, e, ea⟩
  have kp : ∀ c u, H c = some u → ¬ WS G σ ρ c → upd H a o' c = some u := fun c u h n => by
    have ne : c ≠ a := fun z => n (by rw [z]; exact Wa)
    rw [upd_ne ne]; exact h
  have sub : ∀ c, (∃ o, H c = some o) → WS G σ (ρ.set i (Sl.own b p')) c → WS G σ ρ c := fun c _ w => by
    rcases w with w | ⟨j, d, q, e1, e2⟩
    · exact .inl w
    · rcases ix_set e1 with ⟨rfl, z, _⟩ | ⟨ne, e1⟩
      · exact .inr ⟨i, b, p, e, e2⟩
      · exact .inr ⟨j, d, q, e1, e2⟩
  have mv := fun p v h => Is.move (K := K) kp R.mut sub p v h
  refine ⟨by simp [R.len], fun j q e1 => ?_, fun j c q e1 => ?_, fun j k b1 c1 q r a1 e1 e2 e3 e4 => ?_, fun x ax hx => ?_, fun c u h => ?_, R.exk, fun x hx => mv _ _ (R.pd x hx), ?_⟩
  · rcases ix_set e1 with ⟨_, z, _⟩ | ⟨ne, e1⟩
    · cases z
    · obtain ⟨w, e2, h⟩ := R.val j q e1
      exact ⟨w, e2, mv _ _ h⟩
  · rcases ix_set e1 with ⟨rfl, z, _⟩ | ⟨ne, e1⟩
    · cases z
      exact ⟨a, ea, k, o', upd_same, w.move kp R.mut sub⟩
    · obtain ⟨d, e2, k1, u, e3, h⟩ := R.own j c q e1
      have nd : d ≠ a := fun z => ne (R.inj i j _ _ _ _ a e e1 ea (by rw [← z]; exact e2))
      exact ⟨d, e2, k1, u, by rw [upd_ne nd]; exact e3, h.move kp R.mut sub⟩
  · have q1 : ∀ {m : Nat} {c : Bool} {q : PV}, (ρ.set i (Sl.own b p'))[m]? = some (Sl.own c q) → ∃ c' q', ρ[m]? = some (Sl.own c' q') := fun {m c q} h => by
      rcases ix_set h with ⟨rfl, _, _⟩ | ⟨_, h⟩
      · exact ⟨_, _, e⟩
      · exact ⟨_, _, h⟩
    obtain ⟨_, _, f1⟩ := q1 e1
    obtain ⟨_, _, f2⟩ := q1 e2
    exact R.inj j k _ _ _ _ a1 f1 f2 e3 e4
  · obtain ⟨e1, q, e2⟩ := R.io x ax hx
    refine ⟨e1, ?_⟩
    by_cases z : i = x
    · rw [← z] at e2
      rw [e] at e2; cases e2
      refine ⟨p', ?_⟩
      rw [← z, List.getElem?_set_self (List.getElem?_eq_some_iff.mp e).1]
    · exact ⟨q, by rw [ix_ne z]; exact e2⟩
  · have ne : c ≠ a := fun z => by rw [z, k] at h; cases h
    rw [upd_ne ne]; exact R.keep c u h
  · refine ⟨fun c h => ?_, fun j c q d e1 e2 => ?_, fun j c d z e1 => ?_⟩
    · obtain ⟨h1, h2, ns, e3, h3⟩ := R.ext.vo c h
      have ne : c ≠ a := fun z => R.ext.off i b p a e ea (by rw [← z]; exact h)
      exact ⟨h1, h2, ns, by rw [upd_ne ne]; exact e3, h3⟩
    · rcases ix_set e1 with ⟨rfl, _, _⟩ | ⟨_, e1⟩
      · exact R.ext.off i b p d e e2
      · exact R.ext.off j c q d e1 e2
    · rcases ix_set e1 with ⟨rfl, z2, _⟩ | ⟨_, e1⟩
      · cases z2; exact np _ _ rfl
      · exact R.ext.nst j c d z e1

/-- the same slots own; what they own, and what is tracked, may have changed -/
def Alike (ρ ρ2 : En) : Prop := ρ2.length = ρ.length ∧ ∀ i : Nat, ρ2[i]? = ρ[i]? ∨ ∃ (b : Bool) (p q : PV), ρ[i]? = some (Sl.own b p) ∧ ρ2[i]? = some (Sl.own b q)
theorem Alike.back {ρ ρ2 : En} (A : Alike ρ ρ2) {i : Nat} {b : Bool} {q : PV} (e : ρ2[i]? = some (Sl.own b q)) : ∃ p, ρ[i]? = some (Sl.own b p) := by
  rcases A.2 i with z | ⟨c, p, r, e1, e2⟩
  · rw [z] at e; exact ⟨q, e⟩
  · rw [e] at e2; cases e2; exact ⟨p, e1⟩
theorem Alike.fwd {ρ ρ2 : En} (A : Alike ρ ρ2) {i : Nat} {b : Bool} {p : PV} (e : ρ[i]? = some (Sl.own b p)) : ∃ q, ρ2[i]? = some (Sl.own b q) := by
  rcases A.2 i with z | ⟨c, p', r, e1, e2⟩
  · rw [e] at z; exact ⟨p, z⟩
  · rw [e] at e1; cases e1; exact ⟨r, e2⟩
theorem RE.swap {ρ2 : En} (R : RE K G H σ ρ pd) (A : Alike ρ ρ2) (k : ∀ b o, H b = some o → ¬ WS G σ ρ b → H' b = some o) (kp : ∀ b o, G.keep b = some o → H' b = some o)
    (ow : ∀ (i : Nat) (b : Bool) (q : PV) (a : Addr), ρ2[i]? = some (Sl.own b q) → σ[i]? = some (some (V.ref a)) → Own K H' (WS G σ ρ) q a) (hv : ∀ b, G.vo b → IntsAt H' b) (hn : ∀ (i : Nat) (b : Bool) (c : Nat) (s : Int), ρ2[i]? = some (Sl.own b (.nst false c s)) → G.vo c) : RE K G H' σ ρ2 pd := by
  have sub : ∀ b, WS G σ ρ2 b → WS G σ ρ b := fun b w => by
    rcases w with w | ⟨i, c, q, e1, e2⟩
    · exact .inl w
    · obtain ⟨p, e⟩ := A.back e1
      exact .inr ⟨i, c, p, e, e2⟩
  have mv := fun p v h => Is.move (K := K) k R.mut (fun b _ w => sub b w) p v h
  refine ⟨by rw [A.1, R.len], fun i p e => ?_, fun i b q e => ?_, fun i j b c p q a e1 e2 e3 e4 => ?_, fun i a h => ?_, kp, R.exk, fun x hx => mv _ _ (R.pd x hx), ⟨fun b h => ⟨(R.ext.vo b h).1, (R.ext.vo b h).2.1, hv b h⟩, fun i b q a e1 e2 => ?_, hn⟩⟩
  · rcases A.2 i with z | ⟨c, p', r, _, e2⟩
    · rw [z] at e
      obtain ⟨v, e1, h⟩ := R.val i p e
      exact ⟨v, e1, mv _ _ h⟩
    · rw [e] at e2; cases e2
  · obtain ⟨p, e1⟩ := A.back e
    obtain ⟨a, e2, n, _⟩ := R.own i b p e1
    obtain ⟨o, e3, h⟩ := ow i b q a e e2
    exact ⟨a, e2, n, o, e3, h.anti sub⟩
  · obtain ⟨p1, f1⟩ := A.back e1
    obtain ⟨p2, f2⟩ := A.back e2
    exact R.inj i j b c p1 p2 a f1 f2 e3 e4
  · obtain ⟨e, p, e1⟩ := R.io i a h
    obtain ⟨q, e2⟩ := A.fwd e1
    exact ⟨e, q, e2⟩
  · obtain ⟨p, e⟩ := A.back e1
    exact R.ext.off i b p a e e2
/-- a slot's own object given away -/
theorem RE.release {i : Nat} {p : PV} (R : RE K G H σ ρ pd) (e : ρ[i]? = some (Sl.own false p)) : ∃ a o, σ[i]? = some (some (V.ref a)) ∧ G.keep a = none ∧ RE K (G.add a o) H σ (ρ.set i Sl.un) pd ∧ OwnO K H (WS (G.add a o) σ (ρ.set i Sl.un)) p o := by
  obtain ⟨a, ea, k, o, Ha, w⟩ := R.own i false p e
  have sub : ∀ b, WS (G.add a o) σ (ρ.set i Sl.un) b → WS G σ ρ b := fun b w => by
    rcases w with (w | w) | ⟨j, c, q, e1, e2⟩
    · rw [w]; exact .inr ⟨i, false, p, e, ea⟩
    · exact .inl w
    · rcases ix_set e1 with ⟨_, z, _⟩ | ⟨ne, e1⟩
      · cases z
      · exact .inr ⟨j, c, q, e1, e2⟩
  refine ⟨a, o, ea, k, ⟨by simp [R.len], fun j q e1 => ?_, fun j c q e1 => ?_, fun j k b c q r a e1 e2 e3 e4 => ?_, fun x ax hx => ?_, fun b u e1 => ?_, fun b w hv => ?_, fun x hx => Is.anti sub _ _ (R.pd x hx), ?_⟩, w.anti sub⟩
  · rcases ix_set e1 with ⟨_, z, _⟩ | ⟨ne, e1⟩
    · cases z
    · obtain ⟨w, e2, h⟩ := R.val j q e1
      exact ⟨w, e2, Is.anti sub _ _ h⟩
  · rcases ix_set e1 with ⟨_, z, _⟩ | ⟨ne, e1⟩
    · cases z
    · obtain ⟨d, e2, k1, u, e3, h⟩ := R.own j c q e1
      have nd : d ≠ a := fun z => ne (R.inj i j _ _ _ _ a e e1 ea (by rw [← z]; exact e2))
      exact ⟨d, e2, by show upd G.keep a o d = none; rw [upd_ne nd]; exact k1, u, e3, h.anti sub⟩
  · rcases ix_set e1 with ⟨_, z, _⟩ | ⟨n1, e1⟩
    · cases z
    rcases ix_set e2 with ⟨_, z, _⟩ | ⟨n2, e2⟩
    · cases z
    exact R.inj j k b c q r a e1 e2 e3 e4
  · obtain ⟨e1, q, e2⟩ := R.io x ax hx
    have ne : i ≠ x := fun z => by rw [z, e2] at e; cases e
    exact ⟨e1, q, by rw [ix_ne ne]; exact e2⟩
  · by_cases q : b = a
    · rw [q] at e1
      have e2 : upd G.keep a o a = some u := e1
      rw [upd_same] at e2; cases e2
      rw [q]; exact Ha
    · have e2 : upd G.keep a o b = some u := e1
      rw [upd_ne q] at e2
      exact R.keep b u e2
  · rcases w with w' | w'
    · rw [w']; exact ⟨o, upd_same, w.mut⟩
    · obtain ⟨u, e1, m1⟩ := R.exk b w' hv
      have ne : b ≠ a := fun z => by rw [z, k] at e1; cases e1
      exact ⟨u, by show upd G.keep a o b = some u; rw [upd_ne ne]; exact e1, m1⟩
  · refine ⟨fun c h => ?_, fun j c q d e1 e2 => ?_, fun j c d z e1 => ?_⟩
    · obtain ⟨h1, h2, h3⟩ := R.ext.vo c h
      have ne : c ≠ a := fun z => R.ext.off i false p a e ea (by rw [← z]; exact h)
      exact ⟨.inr h1, by show upd G.keep a o c = none; rw [upd_ne ne]; exact h2, h3⟩
    · rcases ix_set e1 with ⟨_, z, _⟩ | ⟨_, e1⟩
      · cases z
      · exact R.ext.off j c q d e1 e2
    · rcases ix_set e1 with ⟨_, z2, _⟩ | ⟨_, e1⟩
      · cases z2
      · exact R.ext.nst j c d z e1
end
end Px
set_option Elab.async false
set_option linter.all false
set_option maxRecDepth 100000
namespace Px
open PySem L2 PySem.AutoSeq1 PySem.Spec PyProof.Rows
set_option maxRecDepth 8000 in
theorem list_extend_tuple (l : Addr) (items : Array Value) (n : Nat) (b : Addr) (items2 : Array Value) (n2 : Nat) (dd : Option Addr) (sl : Array (Option Value)) (hs0 : ¬(!items.isEmpty && Builtin.List.listTooLong (items.size + items2.size)) = true) (hs1 : items.size ≤ sizeLine) (hs2 : items.size + items2.size ≤ sizeLine + 1) :
    Meets (Builtin.«list.extend» ⟨[.ref l, .ref b], []⟩) (fun _ R s => s.heap.get? l = some { cls := .type "list", dict := none, data := .seq items n, slots := #[] } ∧ s.heap.get? b = some { cls := .type "tuple", dict := dd, data := .seq items2 n2, slots := sl } ∧ R (.ok (.ret Value.none)) { s with heap := s.heap.update l (Obj.mapSeq fun x => x ++ items2), toks := s.toks }) :=
  .of_wp fun prog w A R s h => by
    obtain ⟨hp, g, d, tk, os⟩ := s; obtain ⟨hl, hb, h⟩ := h; have f1 := AutoSeq1.idx_int; have f2 := AutoSeq1.sub_tuple_tuple; have f3 := AutoSeq1.sub_list_list; have f4 := AutoSeq1.sub_tuple_list; have f5 := AutoSeq1.sub_list_tuple;
    have hz' : (items ++ items2).size ≤ sizeLine + 1 := by rw [Array.size_append]; exact hs2
    wp_walk using (wpAny_updateSeq hl rfl (hz := hs1) (_hz' := hz')), wpAny_loadPart' hl, wpAny_loadPart' hb; exact ⟨_, rfl, h⟩
def rExtT (K : PySem.W.Frag) : V → List V → Hp → VK → Prop := fun x vs H Q => ∃ l b xs zs, x = .ref l ∧ vs = [.ref b] ∧ H l = some (.lst xs) ∧ SqT K H b zs ∧ xs.length + zs.length ≤ sizeLine ∧ Q .non (upd H l (.lst (xs ++ zs)))
theorem mt_extT {X : Cx} : MtR X "list.extend" (rExtT X.K) := by
  intro pins s σ H x vs v us Q I rx rv h
  obtain ⟨l, b, xs, zs, rfl, rfl, hH, hB, hz, q⟩ := h
  cases rx
  obtain ⟨u, rfl, ru⟩ := rv.one
  cases ru
  obtain ⟨z, its, n, r, hl, e⟩ := I.lstM hH
  obtain ⟨its2, r2, ⟨⟨cls, dd, data, sl⟩, e2, c2, n2, d2⟩, z2⟩ := I.tuple hB
  simp only at c2 d2
  subst c2 d2
  have hl2 : its2.length = zs.length := r2.length.symm
  have hsz : its.toArray.size + its2.toArray.size ≤ sizeLine := by rw [List.size_toArray, List.size_toArray]; omega
  have hlong : ¬ (!its.toArray.isEmpty && Builtin.List.listTooLong (its.toArray.size + its2.toArray.size)) = true := by
    rw [notLongL hsz, Bool.and_false]
    exact Bool.false_ne_true
  refine call_meets F.slot_list_extend ⟨_, e, rfl⟩ F.entry_list_extend (F.args_list_extend_2 _ _)
    (list_extend_tuple l its.toArray n b its2.toArray n2 dd sl hlong (by rw [List.size_toArray]; omega) (by omega)) ⟨e, e2, ?_⟩
  refine ⟨.non, _, I.lset (its' := its ++ its2) hH e (by simp) (r.append r2) ?_, rfl, q⟩
  rw [List.length_append]
  omega
end Px
namespace Px
open PySem L2

/-! ### what an expression gives: a value; a slot that owns (looked at, not taken); a new object of its own -/
inductive R where
  | pv (p : PV) | sl (i : Nat) | fr (p : PV)
def Res (K : PySem.W.Frag) (G : Gd) (H : Hp) (σ : L2.St) (ρ : En) (pd : Pds) : R → V → Prop
  | .pv p, v => RE K G H σ ρ ((p, v) :: pd)
  | .sl i, v => RE K G H σ ρ pd ∧ σ[i]? = some (some v) ∧ ∃ b p, ρ[i]? = some (Sl.own b p)
  | .fr p, v => ∃ a o, v = .ref a ∧ G.keep a = none ∧ exkOk G ∧ RE K (G.add a o) H σ ρ pd ∧ OwnO K H (WS (G.add a o) σ ρ) p o
def R.wk : R → R
  | .fr p => .pv p
  | r => r
def R.look (ρ : En) : R → Option PV
  | .pv p => some p
  | .fr p => some p
  | .sl i => match ρ[i]? with
    | some (Sl.own _ p) => some p
    | _ => none
def ArgR (σ : L2.St) (pd : Pds) : R → V → Prop
  | .pv p, v => (p, v) ∈ pd
  | .sl i, v => σ[i]? = some (some v)
  | .fr _, _ => False
theorem look_wk (ρ : En) (r : R) : r.wk.look ρ = r.look ρ := by cases r <;> rfl
section
variable {K : PySem.W.Frag} {G : Gd} {H H' : Hp} {σ : L2.St} {ρ : En} {pd pd' : Pds} {r : R} {v : V}
theorem Res.weak {p : PV} (h : Res K G H σ ρ pd (.fr p) v) : Res K G H σ ρ pd (.pv p) v := by
  obtain ⟨a, o, rfl, n, kx, R1, q⟩ := h
  obtain ⟨R2, nW, Ha⟩ := R1.unadd n kx
  exact R2.push (q.is Ha (fun b w => w.elim (fun w => .inl (.inr w)) .inr) nW)
theorem Res.wk (h : Res K G H σ ρ pd r v) : Res K G H σ ρ pd r.wk v := by
  cases r with
  | fr p => exact h.weak
  | _ => exact h
theorem Res.arg (h : Res K G H σ ρ pd r v) : ∃ pd', (∀ x ∈ pd, x ∈ pd') ∧ RE K G H σ ρ pd' ∧ ArgR σ pd' r.wk v := by
  cases r with
  | pv p => exact ⟨_, fun x hx => List.mem_cons_of_mem _ hx, h, List.mem_cons_self⟩
  | fr p => exact ⟨_, fun x hx => List.mem_cons_of_mem _ hx, h.weak, List.mem_cons_self⟩
  | sl i => exact ⟨pd, fun _ hx => hx, h.1, h.2.1⟩
theorem ArgR.mono (s : ∀ x ∈ pd, x ∈ pd') (h : ArgR σ pd r v) : ArgR σ pd' r v := by
  cases r with
  | pv p => exact s _ h
  | fr p => exact h
  | sl i => exact h
/-- a value as it is looked at (it may be a slot's own) -/
def Lk (K : PySem.W.Frag) (H : Hp) (W : Addr → Prop) : PV → V → Prop
  | .lst ps, v => ∃ a vs, v = .ref a ∧ H a = some (.lst vs) ∧ Iss K H W ps vs
  | .dic ks ps, v => ∃ a vs, v = .ref a ∧ Rd H a (.dK (ks.zip vs)) ∧ ks.length = vs.length ∧ ks.all keyOk = true ∧ Iss K H W ps vs
  | .nst _ c s, v => ∃ a, v = .ref a ∧ H a = some (.lst [.ref c, .int s])
  | p, v => Is K H W p v
theorem Is.lk {W : Addr → Prop} {p : PV} (h : Is K H W p v) : Lk K H W p v := by
  cases p with
  | lst ps => obtain ⟨a, vs, e, _, q⟩ := h; exact ⟨a, vs, e, q⟩
  | dic ks ps => obtain ⟨a, vs, e, _, q⟩ := h; exact ⟨a, vs, e, q⟩
  | nst t c s => obtain ⟨a, e, _, q⟩ := h; exact ⟨a, e, q⟩
  | _ => exact h
theorem OwnO.lk {W : Addr → Prop} {p : PV} {o : HO} {a : Addr} (h : OwnO K H W p o) (e : H a = some o) : Lk K H W p (.ref a) := by
  cases p <;> cases o <;> first
    | exact h.elim
    | exact ⟨a, _, rfl, e, h⟩
    | (obtain ⟨vs, e1, l, kk, q⟩ := h; subst e1; exact ⟨a, vs, rfl, .inl e, l, kk, q⟩)
    | (have h' : _ = _ := h; subst h'; exact ⟨a, rfl, e⟩)
theorem ArgR.lk {p : PV} (R1 : RE K G H σ ρ pd) (h : ArgR σ pd r v) (l : r.look ρ = some p) : Lk K H (WS G σ ρ) p v := by
  cases r with
  | pv q => cases l; exact (R1.pd _ h).lk
  | fr q => exact h.elim
  | sl i =>
    simp only [R.look] at l
    cases e : ρ[i]? with
    | none => rw [e] at l; cases l
    | some s =>
      rw [e] at l
      cases s with
      | un => cases l
      | val q => cases l
      | own b q =>
        cases l
        obtain ⟨a, e1, _, o, e2, q1⟩ := R1.own i b _ e
        have e3 : σ[i]? = some (some v) := h
        rw [e3] at e1; cases e1
        exact q1.lk e2
end

abbrev PK1 := R → En → Prop
/-- keeps simp out of what it is of -/
inductive Dum {α : Type} (a : α) : Type where | mk
abbrev QT := En → PK1 → Prop
/-- the reading te does what t says -/
def Rz (K : PySem.W.Frag) (te : TE) (t : QT) : Prop := ∀ (G : Gd) (H : Hp) (σ : L2.St) (ρ : En) (pd : Pds) (Q : PK1) (F : VK), RE K G H σ ρ pd → t ρ Q → (∀ r ρ' v H', Res K G H' σ ρ' pd r v → Q r ρ' → F v H') → te σ H F
structure QE (X : Cx) (e : Expr) (t : QT) : Prop where
  ex : ∃ te, PE X e te ∧ Rz X.K te t
abbrev QTT := En → (Bool → En → Prop) → Prop
def RzT (K : PySem.W.Frag) (tt : TT) (t : QTT) : Prop := ∀ (G : Gd) (H : Hp) (σ : L2.St) (ρ : En) (pd : Pds) (Q : Bool → En → Prop) (F : Bool → Hp → Prop), RE K G H σ ρ pd → t ρ Q → (∀ b ρ' H', RE K G H' σ ρ' pd → Q b ρ' → F b H') → tt σ H F
structure QC (X : Cx) (e : Expr) (t : QTT) : Prop where
  ex : ∃ tt, PT X e tt ∧ RzT X.K tt t
structure QW (X : Cx) (e : Expr) (t : QTT) : Prop where
  ex : ∃ tt, PW X e tt ∧ RzT X.K tt t
/-- arguments -/
abbrev QTA := En → (List R → En → Prop) → Prop
inductive ArgsR (σ : L2.St) (pd : Pds) : List R → List V → Prop where
  | nil : ArgsR σ pd [] []
  | cons {r : R} {v : V} {rs : List R} {vs : List V} (h : ArgR σ pd r v) (t : ArgsR σ pd rs vs) : ArgsR σ pd (r :: rs) (v :: vs)
theorem ArgsR.mono {σ : L2.St} {pd pd' : Pds} {rs : List R} {vs : List V} (s : ∀ x ∈ pd, x ∈ pd') (h : ArgsR σ pd rs vs) : ArgsR σ pd' rs vs := by
  induction h with
  | nil => exact .nil
  | cons h _ ih => exact .cons (h.mono s) ih
def RzA (K : PySem.W.Frag) (ta : TA) (t : QTA) : Prop := ∀ (G : Gd) (H : Hp) (σ : L2.St) (ρ : En) (pd : Pds) (Q : List R → En → Prop) (F : List V → Hp → Prop), RE K G H σ ρ pd → t ρ Q →
  (∀ rs ρ' pd' vs H', (∀ x ∈ pd, x ∈ pd') → RE K G H' σ ρ' pd' → ArgsR σ pd' rs vs → Q rs ρ' → F vs H') → ta σ H F
structure QA (X : Cx) (es : List Expr) (t : QTA) : Prop where
  ex : ∃ ta, PA X es ta ∧ RzA X.K ta t
def looks (ρ : En) : List R → Option (List PV)
  | [] => some []
  | r :: rs => match r.look ρ, looks ρ rs with
    | some p, some ps => some (p :: ps)
    | _, _ => none
inductive Lks (K : PySem.W.Frag) (H : Hp) (W : Addr → Prop) : List PV → List V → Prop where
  | nil : Lks K H W [] []
  | cons {p : PV} {v : V} {ps : List PV} {vs : List V} (h : Lk K H W p v) (t : Lks K H W ps vs) : Lks K H W (p :: ps) (v :: vs)
theorem ArgsR.lks {K : PySem.W.Frag} {G : Gd} {H : Hp} {σ : L2.St} {ρ : En} {pd : Pds} (R1 : RE K G H σ ρ pd) : ∀ {rs : List R} {vs : List V} {ps : List PV}, ArgsR σ pd rs vs → looks ρ rs = some ps → Lks K H (WS G σ ρ) ps vs
  | _, _, _, .nil, l => by cases l; exact .nil
  | r :: rs, _, _, .cons h t, l => by
    unfold looks at l
    cases e1 : r.look ρ with
    | none => rw [e1] at l; simp at l
    | some p =>
      cases e2 : looks ρ rs with
      | none => rw [e1, e2] at l; simp at l
      | some qs =>
        rw [e1, e2] at l
        cases l
        exact .cons (h.lk R1 e1) (ArgsR.lks R1 t e2)

/-! ### operations by values -/
def ResV (K : PySem.W.Frag) (H : Hp) (W : Addr → Prop) (H' : Hp) : R → V → Prop
  | .pv z, v => Is K H' W z v
  | .fr z, v => ∃ a o, v = .ref a ∧ H a = none ∧ H' a = some o ∧ OwnO K H' (fun b => b = a ∨ W b) z o
  | .sl _, _ => False
theorem res_of {K : PySem.W.Frag} {G : Gd} {H H' : Hp} {σ : L2.St} {ρ : En} {pd : Pds} {z : R} {v : V} (R1 : RE K G H σ ρ pd) (s : Same H H') (h : ResV K H (WS G σ ρ) H' z v) : Res K G H' σ ρ pd z v := by
  cases z with
  | pv z => exact (R1.same s).push h
  | sl i => exact h.elim
  | fr z =>
    obtain ⟨a, o, rfl, n, e, w⟩ := h
    have kn : G.keep a = none := by
      cases q : G.keep a with
      | none => rfl
      | some u => rw [R1.keep a u q] at n; cases n
    exact ⟨a, o, rfl, kn, R1.exk, R1.add n s e w.mut, w.anti fun b w => by rcases w with (w | w) | w; exact .inl w; exact .inr (.inl w); exact .inr (.inr w)⟩
abbrev G2 := PV → PV → (R → Prop) → Prop
def Real2 (K : PySem.W.Frag) (r : R2) (g : G2) : Prop := ∀ (H : Hp) (W : Addr → Prop) (p q : PV) (x y : V) (Q : R → Prop) (F : VK), MutT H W → Lk K H W p x → Lk K H W q y → g p q Q → (∀ v H' z, Same H H' → ResV K H W H' z v → Q z → F v H') → r x y H F
abbrev GL := List PV → (R → Prop) → Prop
def RealL (K : PySem.W.Frag) (r : List V → Hp → VK → Prop) (g : GL) : Prop := ∀ (H : Hp) (W : Addr → Prop) (ps : List PV) (xs : List V) (Q : R → Prop) (F : VK), MutT H W → Lks K H W ps xs → g ps Q → (∀ v H' z, Same H H' → ResV K H W H' z v → Q z → F v H') → r xs H F
theorem Real2.or {K : PySem.W.Frag} {r r' : R2} {g g' : G2} (h : Real2 K r g) (h' : Real2 K r' g') : Real2 K (fun x y H Q => r x y H Q ∨ r' x y H Q) (fun p q Q => g p q Q ∨ g' p q Q) := fun H W p q x y Q F m l1 l2 z f => z.elim (fun z => .inl (h H W p q x y Q F m l1 l2 z f)) (fun z => .inr (h' H W p q x y Q F m l1 l2 z f))
def OpP (X : Cx) (f : Value → Value → Sem Value) (g : G2) : Prop := ∃ r, OpR X f r ∧ Real2 X.K r g
def CallP (X : Cx) (f : Value) (g : GL) : Prop := ∃ r, CallR X f r ∧ RealL X.K r g
def IxP (X : Cx) (g : G2) : Prop := ∃ r, IxR X r ∧ Real2 X.K r g

def qOp2 (g : G2) (ta tb : QT) (ρ : En) (Q : PK1) : Prop := ta ρ fun r1 ρ1 => tb ρ1 fun r2 ρ2 => match r1.look ρ2, r2.look ρ2 with
  | some p, some q => g p q fun z => Q z ρ2
  | _, _ => False
theorem rz_op2 {K : PySem.W.Frag} {r : R2} {g : G2} {ta tb : TE} {qa qb : QT} (hr : Real2 K r g) (ha : Rz K ta qa) (hb : Rz K tb qb) : Rz K (tOp r ta tb) (qOp2 g qa qb) := by
  intro G H σ ρ pd Q F R1 h f
  refine ha G H σ ρ pd _ _ R1 h fun r1 ρ1 x H1 s1 h1 => ?_
  obtain ⟨pd1, sb1, R2, a1⟩ := s1.arg
  refine hb G H1 σ ρ1 pd1 _ _ R2 h1 fun r2 ρ2 y H2 s2 h2 => ?_
  obtain ⟨pd2, sb2, R3, a2⟩ := s2.arg
  cases e1 : r1.look ρ2 with
  | none => rw [e1] at h2; exact h2.elim
  | some p =>
    cases e2 : r2.look ρ2 with
    | none => rw [e1, e2] at h2; exact h2.elim
    | some q =>
      rw [e1, e2] at h2
      refine hr H2 _ p q x y _ F R3.mut ((a1.mono sb2).lk R3 (by rw [look_wk]; exact e1)) (a2.lk R3 (by rw [look_wk]; exact e2)) h2 fun v H' z sm rv hq => ?_
      refine f z ρ2 v H' ?_ hq
      exact res_of (R3.pds fun x hx => sb2 x (sb1 x hx)) sm rv

section
variable {X : Cx} {a b c e : Expr} {es : List Expr} {ta tb tc te : QT} {tt tu : QTT} {tr : QTA} {pos : Pos}
theorem qe_op {op : Operator} {g : G2} (ho : OpP X (binaryOp op) g) (ha : QE X a ta) (hb : QE X b tb) : QE X (.BinOp a op b pos) (qOp2 g ta tb) := by
  obtain ⟨r, h1, h2⟩ := ho
  obtain ⟨t1, p1, q1⟩ := ha.ex
  obtain ⟨t2, p2, q2⟩ := hb.ex
  exact ⟨_, pe_op h1 p1 p2, rz_op2 h2 q1 q2⟩
theorem qe_cmp {op : CmpOp} {g : G2} (ho : OpP X (compareOp op) g) (ha : QE X a ta) (hb : QE X b tb) (hm : behindInMarks op b = false := by first | exact nomark _ (by decide) (by decide) | rfl) : QE X (.Compare a [op] [b] pos) (qOp2 g ta tb) := by
  obtain ⟨r, h1, h2⟩ := ho
  obtain ⟨t1, p1, q1⟩ := ha.ex
  obtain ⟨t2, p2, q2⟩ := hb.ex
  exact ⟨_, pe_cmpR h1 p1 p2 hm, rz_op2 h2 q1 q2⟩
theorem qe_ix {g : G2} (ho : IxP X g) (ha : QE X a ta) (hb : QE X b tb) (hs : PlainIx b := by intro _ _; rfl) : QE X (.Subscript a b pos) (qOp2 g ta tb) := by
  obtain ⟨r, h1, h2⟩ := ho
  obtain ⟨t1, p1, q1⟩ := ha.ex
  obtain ⟨t2, p2, q2⟩ := hb.ex
  exact ⟨_, pe_ix h1 p1 p2 hs, rz_op2 h2 q1 q2⟩
/-- a test that is a comparison -/
def qB (t : QT) (ρ : En) (Q : Bool → En → Prop) : Prop := t ρ fun r ρ1 => match r with
  | .pv (.bl k) => Q k ρ1
  | _ => False
theorem qc_cmp {op : CmpOp} {g : G2} (ho : OpP X (compareOp op) g) (ha : QE X a ta) (hb : QE X b tb) (hm : behindInMarks op b = false := by first | exact nomark _ (by decide) (by decide) | rfl) : QC X (.Compare a [op] [b] pos) (qB (qOp2 g ta tb)) := by
  obtain ⟨r, h1, h2⟩ := ho
  obtain ⟨t1, p1, q1⟩ := ha.ex
  obtain ⟨t2, p2, q2⟩ := hb.ex
  refine ⟨_, pt_cmpR h1 p1 p2 hm, fun G H σ ρ pd Q F R1 h f => ?_⟩
  refine rz_op2 h2 q1 q2 G H σ ρ pd _ _ R1 h fun r ρ' v H' s hq => ?_
  cases r with
  | pv p =>
    cases p with
    | bl k =>
      have e : v = .bl k := s.pd (.bl k, v) List.mem_cons_self
      exact ⟨k, e, f k ρ' H' s.tl hq⟩
    | _ => exact hq.elim
  | _ => exact hq.elim

/-! ### names, constants -/
def qVar (i : Nat) (ρ : En) (Q : PK1) : Prop := match ρ[i]? with
  | some (.val p) => Q (.pv p) ρ
  | some (.own _ _) => Q (.sl i) ρ
  | _ => False
theorem rz_var {K : PySem.W.Frag} {i : Nat} : Rz K (tVar i) (qVar i) := by
  intro G H σ ρ pd Q F R1 h f
  unfold qVar at h
  cases e : ρ[i]? with
  | none => rw [e] at h; exact h.elim
  | some s =>
    rw [e] at h
    cases s with
    | un => exact h.elim
    | val p =>
      obtain ⟨v, e1, q⟩ := R1.val i p e
      exact ⟨v, e1, f (.pv p) ρ v H (R1.push q) h⟩
    | own b p =>
      obtain ⟨a, e1, _⟩ := R1.own i b p e
      exact ⟨.ref a, e1, f (.sl i) ρ (.ref a) H ⟨R1, e1, b, p, e⟩ h⟩
theorem qv (i : Nat) {x : Str} {pos : Pos} (hN : X.N[i]? = some x := by rfl) (hv : Vis X.env.scope x := by first | exact Or.inl rfl | exact Or.inr (Or.inl rfl) | exact Or.inr (Or.inr rfl)) (hd : (x == ("__debug__" : Str)) = false := by decide)
    (hcd : (x == ("__classdict__" : Str)) = false := by decide) : QE X (.Name x pos) (qVar i) := ⟨_, pe_var hN hv hd hcd, rz_var⟩
def qK (p : PV) (ρ : En) (Q : PK1) : Prop := Q (.pv p) ρ
theorem rz_c {K : PySem.W.Frag} {p : PV} {v : V} (h : ∀ H W, Is K H W p v) : Rz K (tC v) (qK p) := by
  intro G H σ ρ pd Q F R1 hq f
  exact f (.pv p) ρ v H (R1.push (h _ _)) hq
theorem qe_int {i : Int} {j : Nat} : QE X (.Constant (.int i) j pos) (qK (.int i)) := ⟨_, pe_int, rz_c fun _ _ => rfl⟩
theorem qe_bl {i : Bool} {j : Nat} : QE X (.Constant (.bool i) j pos) (qK (.bl i)) := ⟨_, pe_bl, rz_c fun _ _ => rfl⟩
theorem qe_non {j : Nat} : QE X (.Constant .none j pos) (qK .non) := ⟨_, pe_non, rz_c fun _ _ => rfl⟩
theorem qe_str {s : Str} {j : Nat} (h : sOk s = true := by decide +kernel) : QE X (.Constant (.str s) j pos) (qK (.str s)) := ⟨_, pe_str, rz_c fun _ _ => ⟨rfl, h⟩⟩

/-! ### arguments, displays -/
def qNil (ρ : En) (Q : List R → En → Prop) : Prop := Q [] ρ
def qCons (t : QT) (r : QTA) (ρ : En) (Q : List R → En → Prop) : Prop := t ρ fun x ρ1 => r ρ1 fun xs ρ2 => Q (x.wk :: xs) ρ2
theorem qa_nil : QA X [] qNil := ⟨_, pa_nil, fun G H σ ρ pd Q F R1 h f => f [] ρ pd [] H (fun _ h => h) R1 .nil h⟩
theorem rz_cons {K : PySem.W.Frag} {t : TE} {ts : TA} {q : QT} {qs : QTA} (h1 : Rz K t q) (h2 : RzA K ts qs) : RzA K (tCons t ts) (qCons q qs) := by
  intro G H σ ρ pd Q F R1 h f
  refine h1 G H σ ρ pd _ _ R1 h fun r1 ρ1 x H1 s1 g1 => ?_
  obtain ⟨pd1, sb1, R2, a1⟩ := s1.arg
  refine h2 G H1 σ ρ1 pd1 _ _ R2 g1 fun rs ρ2 pd2 vs H2 sb2 R3 a2 g2 => ?_
  exact f _ ρ2 pd2 _ H2 (fun x hx => sb2 x (sb1 x hx)) R3 (.cons (a1.mono sb2) a2) g2
theorem qa_cons (ha : QE X e te) (hr : QA X es tr) (hs : starEach (e :: es) X.env = (false, eval e X.env) :: starEach es X.env := by rfl) : QA X (e :: es) (qCons te tr) := by
  obtain ⟨t1, p1, q1⟩ := ha.ex
  obtain ⟨t2, p2, q2⟩ := hr.ex
  exact ⟨_, pa_cons p1 p2 hs, rz_cons q1 q2⟩
/-- all of them values -/
def vals : List R → Option (List PV)
  | [] => some []
  | .pv p :: rs => (vals rs).map (p :: ·)
  | _ :: _ => none
theorem vals_iss {K : PySem.W.Frag} {G : Gd} {H : Hp} {σ : L2.St} {ρ : En} {pd : Pds} (R1 : RE K G H σ ρ pd) : ∀ {rs : List R} {vs : List V} {ps : List PV}, ArgsR σ pd rs vs → vals rs = some ps → Iss K H (WS G σ ρ) ps vs
  | _, _, _, .nil, l => by cases l; exact rfl
  | r :: rs, v :: vs, ps, .cons h t, l => by
    cases r with
    | sl i => cases l
    | fr p => cases l
    | pv p =>
      have l' : (vals rs).map (p :: ·) = some ps := l
      cases e : vals rs with
      | none => rw [e] at l'; cases l'
      | some qs =>
        rw [e] at l'
        cases l'
        exact ⟨v, vs, rfl, R1.pd _ h, vals_iss R1 t e⟩
def small (n : Nat) : Prop := n ≤ sizeLine
theorem small_le {n : Nat} (h : small n) : n ≤ sizeLine := h
theorem small_lt {n : Nat} (h : small (n + 1)) : n < sizeLine := Nat.lt_of_succ_le h
theorem small_of {n : Nat} (h : n ≤ 1000000) : small n := Nat.le_trans h (by decide)
def qTup (t : QTA) (ρ : En) (Q : PK1) : Prop := t ρ fun rs ρ1 => match vals rs with
  | some ps => small ps.length ∧ Q (.pv (.tup ps)) ρ1
  | none => False
def qLst (t : QTA) (ρ : En) (Q : PK1) : Prop := t ρ fun rs ρ1 => match vals rs with
  | some ps => small ps.length ∧ Q (.fr (.lst ps)) ρ1
  | none => False
theorem same_new {H : Hp} {a : Addr} {o : HO} (h : H a = none) : Same H (upd H a o) := fun b u q => by rw [upd_ne (ne_of_none q h)]; exact q
theorem issNew {K : PySem.W.Frag} {H : Hp} {W : Addr → Prop} {a : Addr} {o : HO} {ps : List PV} {vs : List V} (m : MutT H W) (h : Iss K H W ps vs) (n : H a = none) : Iss K (upd H a o) (fun b => b = a ∨ W b) ps vs :=
  Iss.move (fun b o e _ => same_new n b o e) m (fun b t w => by
    rcases w with w | w
    · obtain ⟨u, t⟩ := t; rw [w, n] at t; cases t
    · exact w) ps vs h
theorem isNew {K : PySem.W.Frag} {H : Hp} {W : Addr → Prop} {a : Addr} {o : HO} {p : PV} {v : V} (m : MutT H W) (h : Is K H W p v) (n : H a = none) : Is K (upd H a o) W p v :=
  Is.move (fun b o e _ => same_new n b o e) m (fun b t w => w) p v h
theorem issNew' {K : PySem.W.Frag} {H : Hp} {W : Addr → Prop} {a : Addr} {o : HO} {ps : List PV} {vs : List V} (m : MutT H W) (h : Iss K H W ps vs) (n : H a = none) : Iss K (upd H a o) W ps vs :=
  Iss.move (fun b o e _ => same_new n b o e) m (fun b t w => w) ps vs h
theorem resLst {K : PySem.W.Frag} {H : Hp} {W : Addr → Prop} {a : Addr} {ps : List PV} {vs : List V} (m : MutT H W) (h : Iss K H W ps vs) (n : H a = none) : ResV K H W (upd H a (.lst vs)) (.fr (.lst ps)) (.ref a) :=
  ⟨a, _, rfl, n, upd_same, issNew m h n⟩
theorem resTup {K : PySem.W.Frag} {H : Hp} {W : Addr → Prop} {a : Addr} {ps : List PV} {vs : List V} (m : MutT H W) (h : Iss K H W ps vs) (n : H a = none) : ResV K H W (upd H a (.tup vs)) (.pv (.tup ps)) (.ref a) :=
  ⟨a, vs, rfl, upd_same, issNew' m h n⟩
theorem qe_tup {k : Nat} (h : QA X es tr) : QE X (.Tuple es k pos) (qTup tr) := by
  obtain ⟨t, p, q⟩ := h.ex
  refine ⟨_, pe_tup p, fun G H σ ρ pd Q F R1 hw f => ?_⟩
  refine q G H σ ρ pd _ _ R1 hw fun rs ρ1 pd1 vs H1 sb R2 a g => ?_
  cases e : vals rs with
  | none => rw [e] at g; exact g.elim
  | some ps =>
    rw [e] at g
    have hi := vals_iss R2 a e
    exact ⟨by rw [← hi.length]; exact g.1, fun p hp => f _ ρ1 _ _ (res_of (R2.pds sb) (same_new hp) (resTup R2.mut hi hp)) g.2⟩
theorem qe_lst (h : QA X es tr) : QE X (.List es pos) (qLst tr) := by
  obtain ⟨t, p, q⟩ := h.ex
  refine ⟨_, pe_lst p, fun G H σ ρ pd Q F R1 hw f => ?_⟩
  refine q G H σ ρ pd _ _ R1 hw fun rs ρ1 pd1 vs H1 sb R2 a g => ?_
  cases e : vals rs with
  | none => rw [e] at g; exact g.elim
  | some ps =>
    rw [e] at g
    have hi := vals_iss R2 a e
    exact ⟨by rw [← hi.length]; exact g.1, fun p hp => f _ ρ1 _ _ (res_of (R2.pds sb) (same_new hp) (resLst R2.mut hi hp)) g.2⟩

/-! ### calls of built-ins -/
def qCB (g : GL) (t : QTA) (ρ : En) (Q : PK1) : Prop := t ρ fun rs ρ1 => match looks ρ1 rs with
  | some ps => g ps fun z => Q z ρ1
  | none => False
theorem rz_cb {K : PySem.W.Frag} {r : List V → Hp → VK → Prop} {g : GL} {t : TA} {q : QTA} (hr : RealL K r g) (h : RzA K t q) : Rz K (tCB r t) (qCB g q) := by
  intro G H σ ρ pd Q F R1 hw f
  refine h G H σ ρ pd _ _ R1 hw fun rs ρ1 pd1 vs H1 sb R2 a g1 => ?_
  cases e : looks ρ1 rs with
  | none => rw [e] at g1; exact g1.elim
  | some ps =>
    rw [e] at g1
    exact hr H1 _ ps vs _ F R2.mut (a.lks R2 e) g1 fun v H' z sm rv hq => f z ρ1 v H' (res_of (R2.pds sb) sm rv) hq
theorem qe_callB {id : String} {x : Str} {p : Pos} {g : GL} (hc : CallP X (.builtin id) g) (hm : X.mg x = none) (ha : QA X (e :: es) tr) (hg : Gl X x := by rfl) (hv : bootBuiltins x = some (.builtin id) := by decide +kernel) (hn : x ≠ "__name__" := by decide) (hdb : (x == ("__debug__" : Str)) = false := by decide)
    (he : starEach (e :: es) X.env = (false, eval e X.env) :: starEach es X.env := by rfl) (hpl : (backTo pos (starEach es X.env)).any (·.1) = false := by rfl) : QE X (.Call (.Name x p) (e :: es) [] pos) (qCB g tr) := by
  obtain ⟨r, h1, h2⟩ := hc
  obtain ⟨t, p1, q⟩ := ha.ex
  exact ⟨_, pe_callB h1 hg hm hv p1 hn hdb he hpl, rz_cb h2 q⟩
theorem qe_callTy {T : String} {x : Str} {p : Pos} {g : GL} (hc : CallP X (.type T) g) (hm : X.mg x = none) (ha : QA X (e :: es) tr) (hg : Gl X x := by rfl) (hv : bootBuiltins x = some (.type T) := by decide +kernel) (hn : x ≠ "__name__" := by decide) (hdb : (x == ("__debug__" : Str)) = false := by decide)
    (he : starEach (e :: es) X.env = (false, eval e X.env) :: starEach es X.env := by rfl) (hpl : (backTo pos (starEach es X.env)).any (·.1) = false := by rfl) : QE X (.Call (.Name x p) (e :: es) [] pos) (qCB g tr) := by
  obtain ⟨r, h1, h2⟩ := hc
  obtain ⟨t, p1, q⟩ := ha.ex
  exact ⟨_, pe_callTy h1 hg hm hv p1 hn hdb he hpl, rz_cb h2 q⟩
end
end Px
namespace Px
open PySem L2

/-! ### tests -/
/-- both ways -/
def Br (c : Bool) (A B : Prop) : Prop := (c = true → A) ∧ (c = false → B)
theorem br_t {A B : Prop} : Br true A B ↔ A := ⟨fun h => h.1 rfl, fun h => ⟨fun _ => h, fun z => nomatch z⟩⟩
theorem br_f {A B : Prop} : Br false A B ↔ B := ⟨fun h => h.2 rfl, fun h => ⟨fun z => (nomatch z), fun _ => h⟩⟩
theorem Br.go {c : Bool} {A B C D : Prop} (h : Br c A B) (f : A → C) (g : B → D) : Br c C D := ⟨fun e => f (h.1 e), fun e => g (h.2 e)⟩
def truG : PV → (Bool → Prop) → Prop
  | .non, Q => Q false
  | .bl b, Q => Q b
  | .int i, Q => Q (i != 0)
  | .str s, Q => small s.length ∧ Q ((s.length : Int) != 0)
  | .tup ps, Q => Q (!ps.isEmpty)
  | .lst ps, Q => Q (!ps.isEmpty)
  | _, _ => False
theorem iss_empty {K : PySem.W.Frag} {H : Hp} {W : Addr → Prop} {ps : List PV} {vs : List V} (h : Iss K H W ps vs) : vs.isEmpty = ps.isEmpty := by
  cases ps with
  | nil => cases (show vs = [] from h); rfl
  | cons p ps => obtain ⟨v, r, e, _⟩ := h; subst e; rfl
theorem tru_of {K : PySem.W.Frag} {H : Hp} {W : Addr → Prop} {p : PV} {v : V} {Q : Bool → Prop} (h : Lk K H W p v) (q : truG p Q) : ∃ k, TruV K v H k ∧ Q k := by
  cases p with
  | non => cases (show v = .non from h); exact ⟨false, rfl, q⟩
  | bl b => cases (show v = .bl b from h); exact ⟨b, rfl, q⟩
  | int i => cases (show v = .int i from h); exact ⟨_, rfl, q⟩
  | str s =>
    obtain ⟨e, _⟩ : v = .str s ∧ sOk s = true := h
    subst e
    exact ⟨_, ⟨q.1, rfl⟩, q.2⟩
  | tup ps =>
    obtain ⟨a, vs, e, r, i⟩ : ∃ a vs, v = .ref a ∧ H a = some (.tup vs) ∧ Iss K H W ps vs := h
    subst e
    exact ⟨_, .inr (.inl ⟨vs, .inl (.inl r), rfl⟩), by rw [iss_empty i]; exact q⟩
  | lst ps =>
    obtain ⟨a, vs, e, r, i⟩ := h
    subst e
    exact ⟨_, .inl ⟨vs, .inl (.inl r), rfl⟩, by rw [iss_empty i]; exact q⟩
  | dic ks ps => exact q.elim
  | scr ns => exact q.elim
  | ty n => exact q.elim
  | nst t c s => exact q.elim
def qTru (t : QT) (ρ : En) (Q : Bool → En → Prop) : Prop := t ρ fun r ρ1 => match r.look ρ1 with
  | some p => truG p fun b => Q b ρ1
  | none => False
section
variable {X : Cx} {a b c e : Expr} {es rest : List Expr} {ta tb tc te : QT} {tt tu : QTT} {tr : QTA} {pos : Pos}
/-- r.look, kept -/
theorem Res.lk {K : PySem.W.Frag} {G : Gd} {H : Hp} {σ : L2.St} {ρ : En} {pd : Pds} {r : R} {v : V} {p : PV} (h : Res K G H σ ρ pd r v) (l : r.look ρ = some p) : Lk K H (WS G σ ρ) p v := by
  obtain ⟨pd', _, R1, a⟩ := h.arg
  exact a.lk R1 (by rw [look_wk]; exact l)
theorem Res.re {K : PySem.W.Frag} {G : Gd} {H : Hp} {σ : L2.St} {ρ : En} {pd : Pds} {r : R} {v : V} (h : Res K G H σ ρ pd r v) : RE K G H σ ρ pd := by
  obtain ⟨pd', s, R1, a⟩ := h.arg
  exact R1.pds s
theorem qc_tru (ha : QE X a ta) (he : ∀ whole, isTrue a X.env whole = (do let v ← whole; standAt a.pos; holding [v] (truthy v)) := by intro _; rfl) : QC X a (qTru ta) := by
  obtain ⟨t1, p1, q1⟩ := ha.ex
  refine ⟨_, pt_truth p1 he, fun G H σ ρ pd Q F R1 h f => ?_⟩
  refine q1 G H σ ρ pd _ _ R1 h fun r ρ' v H' s hq => ?_
  cases e : r.look ρ' with
  | none => rw [e] at hq; exact hq.elim
  | some p =>
    rw [e] at hq
    obtain ⟨k, t, q⟩ := tru_of (s.lk e) hq
    exact ⟨k, t, f k ρ' H' s.re q⟩
def qAnd (t u : QTT) (ρ : En) (Q : Bool → En → Prop) : Prop := t ρ fun c ρ1 => Br c (u ρ1 Q) (Q false ρ1)
def qOr (t u : QTT) (ρ : En) (Q : Bool → En → Prop) : Prop := t ρ fun c ρ1 => Br c (Q true ρ1) (u ρ1 Q)
def qNot (t : QTT) (ρ : En) (Q : Bool → En → Prop) : Prop := t ρ fun c ρ1 => Q (!c) ρ1
theorem QW.qc (h : QW X e tt) : QC X e tt := by
  obtain ⟨t, p, q⟩ := h.ex
  exact ⟨t, p.pt, q⟩
theorem qw_and1 (ha : QC X a tt) : QW X (.BoolOp .And [a] pos) tt := by
  obtain ⟨t, p, q⟩ := ha.ex
  exact ⟨t, pw_and1 p, q⟩
theorem qw_or1 (ha : QC X a tt) : QW X (.BoolOp .Or [a] pos) tt := by
  obtain ⟨t, p, q⟩ := ha.ex
  exact ⟨t, pw_or1 p, q⟩
theorem qw_and (ha : QC X a tt) (hb : QW X (.BoolOp .And (b :: rest) pos) tu) : QW X (.BoolOp .And (a :: b :: rest) pos) (qAnd tt tu) := by
  obtain ⟨t1, p1, q1⟩ := ha.ex
  obtain ⟨t2, p2, q2⟩ := hb.ex
  refine ⟨_, pw_and p1 p2, fun G H σ ρ pd Q F R1 h f => ?_⟩
  refine q1 G H σ ρ pd _ _ R1 h fun c ρ1 H1 R2 g => ?_
  cases c with
  | true => exact (q2 G H1 σ ρ1 pd Q F R2 (g.1 rfl) f : _)
  | false => exact f false ρ1 H1 R2 (g.2 rfl)
theorem qw_or (ha : QC X a tt) (hb : QW X (.BoolOp .Or (b :: rest) pos) tu) : QW X (.BoolOp .Or (a :: b :: rest) pos) (qOr tt tu) := by
  obtain ⟨t1, p1, q1⟩ := ha.ex
  obtain ⟨t2, p2, q2⟩ := hb.ex
  refine ⟨_, pw_or p1 p2, fun G H σ ρ pd Q F R1 h f => ?_⟩
  refine q1 G H σ ρ pd _ _ R1 h fun c ρ1 H1 R2 g => ?_
  cases c with
  | true => exact f true ρ1 H1 R2 (g.1 rfl)
  | false => exact (q2 G H1 σ ρ1 pd Q F R2 (g.2 rfl) f : _)
theorem qc_not (ha : QC X a tt) : QC X (.UnaryOp .Not a pos) (qNot tt) := by
  obtain ⟨t, p, q⟩ := ha.ex
  exact ⟨_, pt_not p, fun G H σ ρ pd Q F R1 h f => q G H σ ρ pd _ _ R1 h fun c ρ1 H1 R2 g => f (!c) ρ1 H1 R2 g⟩
/-- x and y, x or y, not x as values -/
def qAndV (t u : QT) (ρ : En) (Q : PK1) : Prop := t ρ fun r ρ1 => match r.look ρ1 with
  | some p => truG p fun c => Br c (u ρ1 Q) (Q r.wk ρ1)
  | none => False
def qOrV (t u : QT) (ρ : En) (Q : PK1) : Prop := t ρ fun r ρ1 => match r.look ρ1 with
  | some p => truG p fun c => Br c (Q r.wk ρ1) (u ρ1 Q)
  | none => False
def qNotV (t : QT) (ρ : En) (Q : PK1) : Prop := t ρ fun r ρ1 => match r.look ρ1 with
  | some p => truG p fun c => Q (.pv (.bl (!c))) ρ1
  | none => False
theorem qe_one {op : BoolOp} (h : QE X a ta) : QE X (.BoolOp op [a] pos) ta := by
  obtain ⟨t, p, q⟩ := h.ex
  exact ⟨t, pe_one p, q⟩
theorem qe_and (ha : QE X a ta) (hb : QE X (.BoolOp .And (b :: rest) pos) tb) : QE X (.BoolOp .And (a :: b :: rest) pos) (qAndV ta tb) := by
  obtain ⟨t1, p1, q1⟩ := ha.ex
  obtain ⟨t2, p2, q2⟩ := hb.ex
  refine ⟨_, pe_andT p1 p2, fun G H σ ρ pd Q F R1 h f => ?_⟩
  refine q1 G H σ ρ pd _ _ R1 h fun r ρ1 v H1 s g => ?_
  cases e : r.look ρ1 with
  | none => rw [e] at g; exact g.elim
  | some p =>
    rw [e] at g
    obtain ⟨k, tk, q⟩ := tru_of (s.lk e) g
    refine ⟨k, tk, ?_⟩
    cases k with
    | true => exact (q2 G H1 σ ρ1 pd Q F s.re (q.1 rfl) f : _)
    | false => exact f _ ρ1 v H1 s.wk (q.2 rfl)
theorem qe_or (ha : QE X a ta) (hb : QE X (.BoolOp .Or (b :: rest) pos) tb) : QE X (.BoolOp .Or (a :: b :: rest) pos) (qOrV ta tb) := by
  obtain ⟨t1, p1, q1⟩ := ha.ex
  obtain ⟨t2, p2, q2⟩ := hb.ex
  refine ⟨_, pe_orT p1 p2, fun G H σ ρ pd Q F R1 h f => ?_⟩
  refine q1 G H σ ρ pd _ _ R1 h fun r ρ1 v H1 s g => ?_
  cases e : r.look ρ1 with
  | none => rw [e] at g; exact g.elim
  | some p =>
    rw [e] at g
    obtain ⟨k, tk, q⟩ := tru_of (s.lk e) g
    refine ⟨k, tk, ?_⟩
    cases k with
    | true => exact f _ ρ1 v H1 s.wk (q.1 rfl)
    | false => exact (q2 G H1 σ ρ1 pd Q F s.re (q.2 rfl) f : _)
theorem qe_not (ha : QE X a ta) : QE X (.UnaryOp .Not a pos) (qNotV ta) := by
  obtain ⟨t1, p1, q1⟩ := ha.ex
  refine ⟨_, pe_notT p1, fun G H σ ρ pd Q F R1 h f => ?_⟩
  refine q1 G H σ ρ pd _ _ R1 h fun r ρ1 v H1 s g => ?_
  cases e : r.look ρ1 with
  | none => rw [e] at g; exact g.elim
  | some p =>
    rw [e] at g
    obtain ⟨k, tk, q⟩ := tru_of (s.lk e) g
    exact ⟨k, tk, f (.pv (.bl (!k))) ρ1 _ H1 (s.re.push rfl) q⟩
def qIfE (t : QTT) (ta tb : QT) (ρ : En) (Q : PK1) : Prop := t ρ fun c ρ1 => Br c (ta ρ1 Q) (tb ρ1 Q)
theorem qe_ifExp (hc : QC X c tt) (ha : QE X a ta) (hb : QE X b tb) : QE X (.IfExp c a b pos) (qIfE tt ta tb) := by
  obtain ⟨t, p, q⟩ := hc.ex
  obtain ⟨t1, p1, q1⟩ := ha.ex
  obtain ⟨t2, p2, q2⟩ := hb.ex
  refine ⟨_, pe_ifExp p p1 p2, fun G H σ ρ pd Q F R1 h f => ?_⟩
  refine q G H σ ρ pd _ _ R1 h fun c ρ1 H1 R2 g => ?_
  cases c with
  | true => exact (q1 G H1 σ ρ1 pd Q F R2 (g.1 rfl) f : _)
  | false => exact (q2 G H1 σ ρ1 pd Q F R2 (g.2 rfl) f : _)

/-! ### slices -/
abbrev QTO := En → (Option Int → En → Prop) → Prop
structure QO (X : Cx) (e : Option Expr) (t : QTO) : Prop where
  ex : ∃ tO, PO X e tO ∧ ∀ (G : Gd) (H : Hp) (σ : L2.St) (ρ : En) (pd : Pds) (Q : Option Int → En → Prop) (F : Option Int → Hp → Prop), RE X.K G H σ ρ pd → t ρ Q → (∀ o ρ' H', RE X.K G H' σ ρ' pd → Q o ρ' → F o H') → tO σ H F
def qNo (ρ : En) (Q : Option Int → En → Prop) : Prop := Q none ρ
def qPart (t : QT) (ρ : En) (Q : Option Int → En → Prop) : Prop := t ρ fun r ρ1 => match r with
  | .pv (.int i) => Q (some i) ρ1
  | _ => False
theorem qo_none : QO X none qNo := ⟨_, po_none, fun G H σ ρ pd Q F R1 h f => f none ρ H R1 h⟩
theorem qo_some (h : QE X e te) : QO X (some e) (qPart te) := by
  obtain ⟨t, p, q⟩ := h.ex
  refine ⟨_, po_some p, fun G H σ ρ pd Q F R1 h f => ?_⟩
  refine q G H σ ρ pd _ _ R1 h fun r ρ1 v H1 s g => ?_
  cases r with
  | pv p =>
    cases p with
    | int i =>
      have e : v = .int i := s.pd (.int i, v) List.mem_cons_self
      exact ⟨i, e, f (some i) ρ1 H1 s.re g⟩
    | _ => exact g.elim
  | _ => exact g.elim
abbrev GS := PV → Option Int → Option Int → (R → Prop) → Prop
def RealS (K : PySem.W.Frag) (r : V → Option Int → Option Int → Hp → VK → Prop) (g : GS) : Prop := ∀ (H : Hp) (W : Addr → Prop) (p : PV) (x : V) (lo hi : Option Int) (Q : R → Prop) (F : VK), MutT H W → Lk K H W p x → g p lo hi Q → (∀ v H' z, Same H H' → ResV K H W H' z v → Q z → F v H') → r x lo hi H F
def SlP (X : Cx) (g : GS) : Prop := ∃ r, SlR X r ∧ RealS X.K r g
def cutP {α : Type} (xs : List α) (lo hi : Option Int) : List α := (xs.drop (HT.sIx xs.length 0 lo)).take (HT.sIx xs.length xs.length hi - HT.sIx xs.length 0 lo)
theorem Iss.cut {K : PySem.W.Frag} {H : Hp} {W : Addr → Prop} {ps : List PV} {vs : List V} (h : Iss K H W ps vs) (lo hi : Option Int) : Iss K H W (cutP ps lo hi) (cutV vs lo hi) := by
  unfold cutP cutV
  rw [h.length]
  exact (h.drop _).take _
def gSl : GS
  | .tup ps, lo, hi, Q => Q (.pv (.tup (cutP ps lo hi)))
  | .lst ps, lo, hi, Q => Q (.fr (.lst (cutP ps lo hi)))
  | _, _, _, _ => False
theorem cut_whole {α : Type} (xs : List α) (lo hi : Option Int) (h : HT.sIx xs.length 0 lo = 0 ∧ HT.sIx xs.length xs.length hi = xs.length) : cutP xs lo hi = xs := by
  unfold cutP
  rw [h.1, h.2]
  simp
theorem sl_seq : SlP X gSl := by
  refine ⟨_, SlR.or sl_tupA sl_list, fun H W p x lo hi Q F m l g f => ?_⟩
  cases p with
  | tup ps =>
    obtain ⟨a, vs, e, r, i⟩ : ∃ a vs, x = .ref a ∧ H a = some (.tup vs) ∧ Iss X.K H W ps vs := l
    subst e
    refine .inl ⟨a, vs, rfl, .inl (.inl r), fun wh => ?_, fun _ p hp => f _ _ _ (same_new hp) (resTup m (i.cut lo hi) hp) g⟩
    refine f _ H (.pv (.tup (cutP ps lo hi))) (Same.refl H) ?_ g
    rw [cut_whole ps lo hi (by rw [i.length]; exact wh)]
    exact ⟨a, vs, rfl, r, i⟩
  | lst ps =>
    obtain ⟨a, vs, e, r, i⟩ := l
    subst e
    exact .inr ⟨a, vs, rfl, .inl (.inl r), fun p hp => f _ _ _ (same_new hp) (resLst m (i.cut lo hi) hp) g⟩
  | _ => exact g.elim
def qSl (g : GS) (t : QT) (tl th : QTO) (ρ : En) (Q : PK1) : Prop := t ρ fun r ρ1 => tl ρ1 fun l ρ2 => th ρ2 fun u ρ3 => match r.look ρ3 with
  | some p => g p l u fun z => Q z ρ3
  | none => False
theorem qe_slice {g : GS} {lo hi : Option Expr} {tl th : QTO} {p2 : Pos} (hr : SlP X g) (he : QE X e te) (hl : QO X lo tl) (hu : QO X hi th) : QE X (.Subscript e (.Slice lo hi none p2) pos) (qSl g te tl th) := by
  obtain ⟨r, h1, h2⟩ := hr
  obtain ⟨t1, p1, q1⟩ := he.ex
  obtain ⟨t3, p3, q3⟩ := hl.ex
  obtain ⟨t4, p4, q4⟩ := hu.ex
  refine ⟨_, pe_slice h1 p1 p3 p4, fun G H σ ρ pd Q F R1 h f => ?_⟩
  refine q1 G H σ ρ pd _ _ R1 h fun r ρ1 v H1 s g1 => ?_
  obtain ⟨pd1, sb, R2, a1⟩ := s.arg
  refine q3 G H1 σ ρ1 pd1 _ _ R2 g1 fun l ρ2 H2 R3 g2 => ?_
  refine q4 G H2 σ ρ2 pd1 _ _ R3 g2 fun u ρ3 H3 R4 g3 => ?_
  cases e : r.look ρ3 with
  | none => rw [e] at g3; exact g3.elim
  | some p =>
    rw [e] at g3
    exact h2 H3 _ p v l u _ F R4.mut (a1.lk R4 (by rw [look_wk]; exact e)) g3 fun v' H' z sm rv hq => f z ρ3 v' H' (res_of (R4.pds sb) sm rv) hq
end
end Px
namespace Px
open PySem L2 PySem.Spec PyProof.Rows
/-! ### dicts whose keys are ints and texts -/
def keyP : PV → Option Key
  | .int i => some (.inl i)
  | .str s => some (.inr s)
  | _ => none
def keyV : Key → PV
  | .inl i => .int i
  | .inr s => .str s
theorem keyP_is {K : PySem.W.Frag} {H : Hp} {W : Addr → Prop} {p : PV} {v : V} {k : Key} (h : Is K H W p v) (e : keyP p = some k) : v = kV k ∧ keyOk k = true := by
  cases p with
  | int i => cases e; cases (show v = .int i from h); exact ⟨rfl, rfl⟩
  | str s => cases e; obtain ⟨e1, o⟩ : v = .str s ∧ sOk s = true := h; subst e1; exact ⟨rfl, o⟩
  | _ => cases e
theorem keyV_is {K : PySem.W.Frag} {H : Hp} {W : Addr → Prop} {k : Key} (h : keyOk k = true) : Is K H W (keyV k) (kV k) := by
  cases k with
  | inl i => exact rfl
  | inr s => exact ⟨rfl, h⟩
/-- what stands at a key -/
def getD {α : Type} : List Key → List α → Key → Option α
  | k :: ks, p :: ps, j => if k = j then some p else getD ks ps j
  | _, _, _ => none
def hasK (ks : List Key) (j : Key) : Bool := ks.any fun k => decide (k = j)
def putKs (ks : List Key) (j : Key) : List Key := if hasK ks j = true then ks else ks ++ [j]
def putPs {α : Type} (ks : List Key) (ps : List α) (j : Key) (q : α) : List α := if hasK ks j = true then List.zipWith (fun k p => if k = j then q else p) ks ps else ps ++ [q]
theorem getD_val : ∀ {ks : List Key} {vs : List V} {j : Key}, ks.length = vs.length → valV (ks.zip vs) j = getD ks vs j
  | [], [], _, _ => rfl
  | [], _ :: _, _, h => by simp at h
  | _ :: _, [], _, h => by simp at h
  | k :: ks, v :: vs, j, h => by
    rw [List.zip_cons_cons, getD]
    by_cases e : k = j
    · rw [if_pos e]; exact valV_pos (p := (k, v)) e
    · rw [if_neg e, valV_neg (p := (k, v)) e, getD_val (by simpa using h)]
theorem getD_is {K : PySem.W.Frag} {H : Hp} {W : Addr → Prop} : ∀ {ks : List Key} {ps : List PV} {vs : List V} {j : Key} {p : PV}, Iss K H W ps vs → getD ks ps j = some p → ∃ v, getD ks vs j = some v ∧ Is K H W p v
  | [], _, _, _, _, _, e => by cases e
  | _ :: _, [], _, _, _, _, e => by cases e
  | k :: ks, q :: ps, vs, j, p, h, e => by
    obtain ⟨v, r, e1, h1, h2⟩ := h
    subst e1
    rw [getD] at e ⊢
    by_cases z : k = j
    · rw [if_pos z] at e ⊢; cases e; exact ⟨v, rfl, h1⟩
    · rw [if_neg z] at e ⊢; exact getD_is h2 e
theorem getD_no {K : PySem.W.Frag} {H : Hp} {W : Addr → Prop} : ∀ {ks : List Key} {ps : List PV} {vs : List V} {j : Key}, Iss K H W ps vs → getD ks ps j = none → getD ks vs j = none
  | [], _, _, _, _, _ => rfl
  | _ :: _, [], vs, _, h, _ => by cases (show vs = [] from h); rfl
  | k :: ks, q :: ps, vs, j, h, e => by
    obtain ⟨v, r, e1, h1, h2⟩ := h
    subst e1
    rw [getD] at e ⊢
    by_cases z : k = j
    · rw [if_pos z] at e; cases e
    · rw [if_neg z] at e ⊢; exact getD_no h2 e
theorem getD_some_is {K : PySem.W.Frag} {H : Hp} {W : Addr → Prop} {ks : List Key} {ps : List PV} {vs : List V} {j : Key} (h : Iss K H W ps vs) : (getD ks vs j).isSome = (getD ks ps j).isSome := by
  cases e : getD ks ps j with
  | none => rw [getD_no h e]; rfl
  | some p => obtain ⟨v, e2, _⟩ := getD_is h e; rw [e2]; rfl
theorem any_mem {ks : List Key} {vs : List V} {j : Key} (h : ks.length = vs.length) : ((ks.zip vs).any fun kv => decide (kv.1 = j)) = hasK ks j := by
  induction ks generalizing vs with
  | nil => simp [hasK]
  | cons k ks ih =>
    cases vs with
    | nil => simp at h
    | cons v vs =>
      rw [List.zip_cons_cons, List.any_cons, ih (by simpa using h)]; rfl
theorem put_zip {ks : List Key} {vs : List V} {j : Key} {v : V} (h : ks.length = vs.length) : putK (ks.zip vs) j v = (putKs ks j).zip (putPs ks vs j v) ∧ (putKs ks j).length = (putPs ks vs j v).length := by
  unfold putK putKs putPs
  rw [any_mem h]
  by_cases m : hasK ks j = true
  · rw [if_pos m, if_pos m, if_pos m]
    refine ⟨?_, by rw [List.length_zipWith, h, Nat.min_self]⟩
    clear m
    induction ks generalizing vs with
    | nil => rfl
    | cons k ks ih =>
      cases vs with
      | nil => simp at h
      | cons u vs =>
        rw [List.zip_cons_cons, List.map_cons, List.zipWith_cons_cons, List.zip_cons_cons, ih (by simpa using h)]
        by_cases e : k = j
        · simp only [e, if_true]
        · simp only [e, if_false]
  · rw [if_neg m, if_neg m, if_neg m]
    refine ⟨?_, by simp [h]⟩
    rw [List.zip_append h]; rfl
theorem putPs_is {K : PySem.W.Frag} {H : Hp} {W : Addr → Prop} {ks : List Key} {ps : List PV} {vs : List V} {j : Key} {q : PV} {v : V} (h : Iss K H W ps vs) (hq : Is K H W q v) : Iss K H W (putPs ks ps j q) (putPs ks vs j v) := by
  unfold putPs
  by_cases m : hasK ks j = true
  · rw [if_pos m, if_pos m]
    clear m
    induction ks generalizing ps vs with
    | nil => exact rfl
    | cons k ks ih =>
      cases ps with
      | nil => cases (show vs = [] from h); exact rfl
      | cons p ps =>
        obtain ⟨u, r, e, h1, h2⟩ := h
        subst e
        refine ⟨_, _, rfl, ?_, ih h2⟩
        by_cases e : k = j
        · simp only [e, if_true]; exact hq
        · simp only [e, if_false]; exact h1
  · rw [if_neg m, if_neg m]
    exact Iss.append h (Iss.cons hq Iss.nil)
theorem putKs_ok {ks : List Key} {j : Key} (h : ks.all keyOk = true) (hj : keyOk j = true) : (putKs ks j).all keyOk = true := by
  unfold putKs
  split
  · exact h
  · rw [List.all_append, h]; simp [hj]
theorem putKs_len (ks : List Key) (j : Key) : (putKs ks j).length ≤ ks.length + 1 := by
  unfold putKs
  split
  · omega
  · simp
theorem zip_len {ks : List Key} {vs : List V} (h : ks.length = vs.length) : (ks.zip vs).length = ks.length := by rw [List.length_zip, h, Nat.min_self]
theorem zip_ne {ks : List Key} {vs : List V} (h : ks.length = vs.length) : (ks.zip vs).isEmpty = ks.isEmpty := by
  cases ks with
  | nil => rfl
  | cons k ks => cases vs with
    | nil => simp at h
    | cons v vs => rfl
section
variable {X : Cx}
/-- d[k], there -/
def rIxD : R2 := fun x y H Q => ∃ a kvs k v, x = .ref a ∧ Rd H a (.dK kvs) ∧ y = kV k ∧ valV kvs k = some v ∧ Q v H
theorem ix_dict : IxR X rIxD := by
  intro value slice pins s σ H x y v u Q I rx ry h hs
  obtain ⟨a, kvs, k, z, rfl, hd, rfl, l, q⟩ := h
  cases rx
  obtain ⟨zl, hb, vs, rel, dd⟩ := dk_rd I.hok hd
  obtain ⟨w', hw, rw'⟩ := RelO.some_of (v := z) (o := valueAt vs k) (by rw [← l]; exact rel.val k)
  exact tail_any dd.typeIs PySem.F.slot_dict_getitem.lookup (wpAny_getItem_of (kV_is ry) dd.mapOf hw ⟨z, H, I.tok _, rw', q⟩) hs
def rInK (neg : Bool) : R2 := fun x y H Q => ∃ a kvs k, y = .ref a ∧ Rd H a (.dK kvs) ∧ x = kV k ∧ Q (.bl (neg != (valV kvs k).isSome)) H
theorem op_inK (hu : X.A.units + 65 < cLine) : OpR X (compareOp .In) (rInK false) := by
  intro pins s σ H x y v u Q I rx ry h
  obtain ⟨a, kvs, k, rfl, hd, rfl, q⟩ := h
  cases ry
  refine d_in (by omega) I (y := kV k) (o := valV kvs k) (.inl ⟨kvs, k, hd, rfl, rfl⟩) rx fun s' I' => ⟨.bl _, H, I', rfl, ?_⟩
  cases e : (valV kvs k).isSome <;> rw [e] at q <;> exact q
theorem op_notInK (hu : X.A.units + 65 < cLine) : OpR X (compareOp .NotIn) (rInK true) := by
  intro pins s σ H x y v u Q I rx ry h
  obtain ⟨a, kvs, k, rfl, hd, rfl, q⟩ := h
  cases ry
  refine d_notIn (by omega) I (y := kV k) (o := valV kvs k) (.inl ⟨kvs, k, hd, rfl, rfl⟩) rx fun s' I' => ⟨.bl _, H, I', rfl, ?_⟩
  cases e : (valV kvs k).isSome <;> rw [e] at q <;> exact q
/-- d[k] = v -/
def rSetD : V → V → V → Hp → (Hp → Prop) → Prop := fun o i v H Q => ∃ a kvs k, o = .ref a ∧ i = kV k ∧ H a = some (.dK kvs) ∧ kvs.length < sizeLine ∧ Q (upd H a (.dK (putK kvs k v)))
theorem set_dict (hu : X.A.units + 65 < cLine) : PSet X rSetD := by
  intro pins s σ H o i v ov iv u Q I ro ri rv h
  obtain ⟨a, kvs, k, rfl, rfl, hd, hl, q⟩ := h
  cases ro
  exact d_setItem (by omega) I (DPut.k (k := k) hd hl) ri rv fun s' I' => ⟨_, I', q⟩
theorem PSet.or {t t' : TSet} (h : PSet X t) (h' : PSet X t') : PSet X (fun o i v H Q => t o i v H Q ∨ t' o i v H Q) := by
  intro pins s σ H o i v ov iv u Q I ro ri rv q
  rcases q with q | q
  · exact h pins s σ H o i v ov iv u Q I ro ri rv q
  · exact h' pins s σ H o i v ov iv u Q I ro ri rv q
def rLenK : List V → Hp → VK → Prop := fun xs H Q => ∃ a kvs, xs = [V.ref a] ∧ Rd H a (.dK kvs) ∧ Q (.int (kvs.length : Nat)) H
theorem call_lenK : CallR X (.builtin "len") rLenK := by
  intro pins s σ H xs us Q I r h
  obtain ⟨a, kvs, rfl, ha, q⟩ := h
  obtain ⟨u, rfl, ru⟩ := vals1 r
  cases ru
  exact d_len I ha fun t s' I' => ⟨.int kvs.length, H, I', ⟨t, rfl⟩, q⟩
end
end Px
namespace Px
open PySem L2 PySem.Spec PyProof.Rows
section
variable {X : Cx}
/-- x in t, t a tuple of data -/
def rInTD (K : PySem.W.Frag) (neg : Bool) : R2 := fun x y H Q => ∃ d ds, Dp K H x d ∧ Dp K H y (.tuple ds) ∧ SeqAt.shaped d = true ∧ SeqAt.shaped (.tuple ds) = true ∧ Q (.bl (neg != ds.any fun z => PyData.eqv z d)) H
theorem op_inTD (hu : X.A.units + 65 < cLine) : OpR X (compareOp .In) (rInTD X.K false) := by
  intro pins s σ H x y v u Q I rx ry h
  obtain ⟨d, ds, hd, he, sd, se, q⟩ := h
  obtain ⟨as, r1⟩ := Dp.reads I d x v hd rx; obtain ⟨bs, r2⟩ := Dp.reads I (.tuple ds) y u he ry
  refine SeqAt.in_tuple_reads r2 r1 (SeqAt.canLay_of_shaped se) (SeqAt.canLay_of_shaped sd) (room_in_shaped sd hu) ⟨.bl _, H, I, rfl, ?_⟩
  cases e : (ds.any fun z => PyData.eqv z d) <;> rw [e] at q <;> exact q
theorem op_notInTD (hu : X.A.units + 65 < cLine) : OpR X (compareOp .NotIn) (rInTD X.K true) := by
  intro pins s σ H x y v u Q I rx ry h
  obtain ⟨d, ds, hd, he, sd, se, q⟩ := h
  obtain ⟨as, r1⟩ := Dp.reads I d x v hd rx; obtain ⟨bs, r2⟩ := Dp.reads I (.tuple ds) y u he ry
  refine SeqAt.notIn_tuple_reads r2 r1 (SeqAt.canLay_of_shaped se) (SeqAt.canLay_of_shaped sd) (room_in_shaped sd hu) ⟨.bl _, H, I, rfl, ?_⟩
  cases e : (ds.any fun z => PyData.eqv z d) <;> rw [e] at q <;> exact q
end
end Px
namespace Px
open PySem L2 PyProof.Rows

theorem Res.pds {K : PySem.W.Frag} {G : Gd} {H : Hp} {σ : L2.St} {ρ : En} {pd pd' : Pds} {r : R} {v : V} (s : ∀ x ∈ pd', x ∈ pd) (h : Res K G H σ ρ pd r v) : Res K G H σ ρ pd' r v := by
  cases r with
  | pv p =>
    refine RE.pds h (fun x hx => ?_)
    rcases List.mem_cons.mp hx with e | hx
    · rw [e]; exact List.mem_cons_self
    · exact List.mem_cons_of_mem _ (s x hx)
  | sl i => exact ⟨h.1.pds s, h.2⟩
  | fr p =>
    obtain ⟨a, o, e, n, kx, R1, q⟩ := h
    exact ⟨a, o, e, n, kx, R1.pds s, q⟩

/-! ### one reading for many contexts -/
theorem QE.all {ι : Type} {X : ι → Cx} {e : Expr} {t : QT} {K : PySem.W.Frag} (hK : ∀ c, (X c).K = K) (h : ∀ c, QE (X c) e t) : ∃ te, (∀ c, PE (X c) e te) ∧ Rz K te t := by
  refine ⟨fun σ H F => ∀ c, (Classical.choose (h c).ex) σ H F, fun c => ⟨fun pins s σ H Q I hw => (Classical.choose_spec (h c).ex).1.run pins s σ H Q I (hw c)⟩, fun G H σ ρ pd Q F R1 hq f c => ?_⟩
  have z : Rz (X c).K (Classical.choose (h c).ex) t := (Classical.choose_spec (h c).ex).2
  exact z G H σ ρ pd Q F (by rw [hK c]; exact R1) hq (by rw [hK c]; exact f)

/-! ### what is walked -/
structure Wk (K : PySem.W.Frag) (J : It) (ps : List PV) (pd1 : Pds) (kp : Hp) : Prop where
  item : ∀ (G : Gd) (H : Hp) (σ : L2.St) (ρ : En) (pd : Pds) (i : Nat) (p : PV), (∀ x ∈ pd1, x ∈ pd) → (∀ b o, kp b = some o → G.keep b = some o) → RE K G H σ ρ pd → ps[i]? = some p → J.go i H ∧ ∀ x H', J.yld i H x H' → RE K G H' σ ρ ((p, x) :: pd)
  stop : ∀ (G : Gd) (H : Hp) (σ : L2.St) (ρ : En) (pd : Pds) (i : Nat), (∀ x ∈ pd1, x ∈ pd) → (∀ b o, kp b = some o → G.keep b = some o) → RE K G H σ ρ pd → ps.length ≤ i → J.stop i H
abbrev QTI := En → (List PV → En → Prop) → Prop
def RzI (K : PySem.W.Frag) (wi : TI) (t : QTI) : Prop := ∀ (G : Gd) (H : Hp) (σ : L2.St) (ρ : En) (pd : Pds) (Q : List PV → En → Prop) (F : It → Hp → Prop), RE K G H σ ρ pd → t ρ Q →
    (∀ J ps ρ' pd1 H', (∀ x ∈ pd, x ∈ pd1) → RE K G H' σ ρ' pd1 → Wk K J ps pd1 G.keep → Q ps ρ' → F J H') → wi σ H F
structure QI (X : Cx) (tg iter : Expr) (t : QTI) : Prop where
  ex : ∃ wi, PI X tg iter wi ∧ RzI X.K wi t
section
variable {X : Cx} {tg e a b : Expr} {es : List Expr} {te : QT} {tr : QTA}
/-- a list, a tuple or a text, whichever comes -/
def iSeq (K : PySem.W.Frag) (te : TE) : TI := fun σ H R => te σ H fun x H1 => (∃ a, x = .ref a ∧ (∃ xs, SqL K H1 a xs) ∧ R (Itl K a) H1) ∨ (∃ a, x = .ref a ∧ (∃ xs, SqT K H1 a xs) ∧ R (Itt K a) H1) ∨ ∃ s, x = .str s ∧ R (Its s) H1
theorem pi_seq {te : TE} (hl : PE X e te) : PI X tg e (iSeq X.K te) := by
  refine ⟨fun pins s σ H R I h => ?_⟩
  refine thn (hl.run pins s σ H _ I h) fun v s1 ⟨x, H1, I1, r1, q1⟩ => ?_
  rcases q1 with q1 | q1 | q1
  · have z : PE X e (fun σ' H' Q => σ' = σ → True) → True := fun _ => trivial
    obtain ⟨a, e, ⟨xs, hq⟩, q⟩ := q1
    subst e
    cases r1
    obtain ⟨its, rv, p, hz⟩ := I1.list hq
    refine wpAny_pyIter_list p.isList ?_
    refine ⟨s1.heap.objs.size, [s1.heap.objs.size], _, _, H1, rfl, I1.kept (t' := s1.toks) fun b o e => Heap.get?_push_of_some _ e, turn_list a _, ⟨_, Heap.get?_push_size _ rfl, rfl, rfl⟩, fun b hb => ?_, q⟩
    have e : b = s1.heap.objs.size := by simpa using hb
    subst e
    exact I1.fpOk (Nat.le_refl _) (I1.hok.fresh (Nat.le_refl _))
  · obtain ⟨a, e, ⟨xs, hq⟩, q⟩ := q1
    subst e
    cases r1
    obtain ⟨its, rv, p, hz⟩ := I1.tuple hq
    refine wpAny_pyIter_tuple (show s1.heap.IsTuple a its.toArray from p) ?_
    refine ⟨s1.heap.objs.size, [s1.heap.objs.size], _, _, H1, rfl, I1.kept (t' := s1.toks) fun b o e => Heap.get?_push_of_some _ e, turn_tuple a _, ⟨_, Heap.get?_push_size _ rfl, rfl, rfl⟩, fun b hb => ?_, q⟩
    have e : b = s1.heap.objs.size := by simpa using hb
    subst e
    exact I1.fpOk (Nat.le_refl _) (I1.hok.fresh (Nat.le_refl _))
  · obtain ⟨y, e, q⟩ := q1
    subst e
    obtain ⟨t, rfl⟩ := r1
    cases ha : y.cps.all (· < 128)
    · exact wpAny_pyIter_wide ha (pi_one (tk := s1.toks) I1 _ (turn_str _ y t "str_iterator" (.inr rfl)) ⟨_, Heap.get?_push_size _ rfl, rfl, rfl⟩ q)
    · exact wpAny_pyIter_ascii ha (pi_one (tk := s1.toks) I1 _ (turn_str _ y t "str_ascii_iterator" (.inl rfl)) ⟨_, Heap.get?_push_size _ rfl, rfl, rfl⟩ q)
def chars (s : Str) : List PV := s.cps.toList.map fun c => PV.str ⟨#[c]⟩
theorem wk_list {kp : Hp} {K : PySem.W.Frag} {a : Addr} {ps : List PV} {pd : Pds} : Wk K (Itl K a) ps ((.lst ps, .ref a) :: pd) kp := by
  constructor
  · intro G H σ ρ pd' i p s _ R1 hp
    obtain ⟨b, vs, e, n, h, q⟩ : ∃ b vs, V.ref a = .ref b ∧ ¬ WS G σ ρ b ∧ H b = some (.lst vs) ∧ Iss K H (WS G σ ρ) ps vs := R1.pd _ (s _ List.mem_cons_self)
    cases e
    obtain ⟨v, hv, hi⟩ := q.getP hp
    refine ⟨⟨vs, v, .inl (.inl h), hv⟩, fun x H' y => ?_⟩
    obtain ⟨rfl, y⟩ := y
    have z := y vs (.inl (.inl h))
    rw [hv] at z; cases z
    exact R1.push hi
  · intro G H σ ρ pd' i s _ R1 hp
    obtain ⟨b, vs, e, n, h, q⟩ : ∃ b vs, V.ref a = .ref b ∧ ¬ WS G σ ρ b ∧ H b = some (.lst vs) ∧ Iss K H (WS G σ ρ) ps vs := R1.pd _ (s _ List.mem_cons_self)
    cases e
    exact ⟨vs, .inl (.inl h), by rw [← q.length]; exact hp⟩
theorem wk_tup {kp : Hp} {K : PySem.W.Frag} {a : Addr} {ps : List PV} {pd : Pds} : Wk K (Itt K a) ps ((.tup ps, .ref a) :: pd) kp := by
  constructor
  · intro G H σ ρ pd' i p s _ R1 hp
    obtain ⟨b, vs, e, h, q⟩ : ∃ b vs, V.ref a = .ref b ∧ H b = some (.tup vs) ∧ Iss K H (WS G σ ρ) ps vs := R1.pd _ (s _ List.mem_cons_self)
    cases e
    obtain ⟨v, hv, hi⟩ := q.getP hp
    refine ⟨⟨vs, v, .inl (.inl h), hv⟩, fun x H' y => ?_⟩
    obtain ⟨rfl, y⟩ := y
    have z := y vs (.inl (.inl h))
    rw [hv] at z; cases z
    exact R1.push hi
  · intro G H σ ρ pd' i s _ R1 hp
    obtain ⟨b, vs, e, h, q⟩ : ∃ b vs, V.ref a = .ref b ∧ H b = some (.tup vs) ∧ Iss K H (WS G σ ρ) ps vs := R1.pd _ (s _ List.mem_cons_self)
    cases e
    exact ⟨vs, .inl (.inl h), by rw [← q.length]; exact hp⟩
theorem sOk_one {s : Str} (h : sOk s = true) {i : Nat} {c : Nat} (e : s.cps[i]? = some c) : sOk ⟨#[c]⟩ = true := by
  have h1 : s.cps.all (· < 0x110000) = true := h
  have h2 : c < 0x110000 := by
    have := Array.all_eq_true.mp h1 i (by exact (Array.getElem?_eq_some_iff.mp e).1)
    rw [(Array.getElem?_eq_some_iff.mp e).2] at this
    simpa using this
  show (#[c] : Array Nat).all (· < 0x110000) = true
  simpa using h2
theorem wk_str {kp : Hp} {K : PySem.W.Frag} {s : Str} {pd : Pds} (hs : sOk s = true) : Wk K (Its s) (chars s) pd kp := by
  constructor
  · intro G H σ ρ pd' i p sb _ R1 hp
    unfold chars at hp
    rw [List.getElem?_map] at hp
    cases e : s.cps.toList[i]? with
    | none => rw [e] at hp; cases hp
    | some c =>
      rw [e] at hp; cases hp
      have e' : s.cps[i]? = some c := by rw [← e]; simp
      refine ⟨(Array.getElem?_eq_some_iff.mp e').1, fun x H' y => ?_⟩
      obtain ⟨rfl, d, y1, y2⟩ := y
      rw [e'] at y1; cases y1
      subst y2
      exact R1.push ⟨rfl, sOk_one hs e'⟩
  · intro G H σ ρ pd' i sb _ R1 hp
    unfold chars at hp
    show s.cps.size ≤ i
    simpa using hp
def qIt (t : QT) (ρ : En) (Q : List PV → En → Prop) : Prop := t ρ fun r ρ1 => match r.wk with
  | .pv (.lst ps) => Q ps ρ1
  | .pv (.tup ps) => Q ps ρ1
  | .pv (.str s) => Q (chars s) ρ1
  | .pv (.scr ns) => Q (ns.map PV.int) ρ1
  | _ => False
theorem wk_scr {kp : Hp} {K : PySem.W.Frag} {a : Addr} {ns : List Int} {pd : Pds} : Wk K (Itl K a) (ns.map PV.int) ((.scr ns, .ref a) :: pd) kp := by
  constructor
  · intro G H σ ρ pd' i p s _ R1 hp
    obtain ⟨b, e, q⟩ : ∃ b, V.ref a = .ref b ∧ ((∃ o, H b = some (.frz o (.lst (ns.map V.int)))) ∨ KLst K b (ns.map V.int)) := R1.pd _ (s _ List.mem_cons_self)
    cases e
    have sq : SqL K H a (ns.map V.int) := by
      rcases q with ⟨o, q⟩ | q
      · exact .inl (.inr ⟨o, q⟩)
      · exact .inr q
    rw [List.getElem?_map] at hp
    cases en : ns[i]? with
    | none => rw [en] at hp; cases hp
    | some n =>
      rw [en] at hp; cases hp
      have hv : (ns.map V.int)[i]? = some (.int n) := by rw [List.getElem?_map, en]; rfl
      refine ⟨⟨_, _, sq, hv⟩, fun x H' y => ?_⟩
      obtain ⟨rfl, y⟩ := y
      have z := y _ sq
      rw [hv] at z; cases z
      exact R1.push rfl
  · intro G H σ ρ pd' i s _ R1 hp
    obtain ⟨b, e, q⟩ : ∃ b, V.ref a = .ref b ∧ ((∃ o, H b = some (.frz o (.lst (ns.map V.int)))) ∨ KLst K b (ns.map V.int)) := R1.pd _ (s _ List.mem_cons_self)
    cases e
    have sq : SqL K H a (ns.map V.int) := by
      rcases q with ⟨o, q⟩ | q
      · exact .inl (.inr ⟨o, q⟩)
      · exact .inr q
    exact ⟨_, sq, by simpa using hp⟩
theorem qi_seq (h : QE X e te) : QI X tg e (qIt te) := by
  obtain ⟨t, p, q⟩ := h.ex
  refine ⟨_, pi_seq p, fun G H σ ρ pd Q F R1 hw f => ?_⟩
  refine q G H σ ρ pd _ _ R1 hw fun r ρ1 v H1 s g => ?_
  have s' := s.wk
  cases e1 : r.wk with
  | pv p =>
    rw [e1] at s' g
    have R2 : RE X.K G H1 σ ρ1 ((p, v) :: pd) := s'
    have hI := R2.pd (p, v) List.mem_cons_self
    cases p with
    | lst ps =>
      obtain ⟨a, vs, e2, n, h, i⟩ : ∃ a vs, v = .ref a ∧ ¬ WS G σ ρ1 a ∧ H1 a = some (.lst vs) ∧ Iss X.K H1 (WS G σ ρ1) ps vs := hI
      subst e2
      exact .inl ⟨a, rfl, ⟨vs, .inl (.inl h)⟩, f _ ps ρ1 _ H1 (fun x hx => List.mem_cons_of_mem _ hx) R2 wk_list g⟩
    | tup ps =>
      obtain ⟨a, vs, e2, h, i⟩ : ∃ a vs, v = .ref a ∧ H1 a = some (.tup vs) ∧ Iss X.K H1 (WS G σ ρ1) ps vs := hI
      subst e2
      exact .inr (.inl ⟨a, rfl, ⟨vs, .inl (.inl h)⟩, f _ ps ρ1 _ H1 (fun x hx => List.mem_cons_of_mem _ hx) R2 wk_tup g⟩)
    | str s =>
      obtain ⟨e2, ok⟩ : v = .str s ∧ sOk s = true := hI
      exact .inr (.inr ⟨s, e2, f _ (chars s) ρ1 pd H1 (fun x hx => hx) R2.tl (wk_str ok) g⟩)
    | scr ns =>
      obtain ⟨a, e2, q⟩ : ∃ a, v = .ref a ∧ ((∃ o, H1 a = some (.frz o (.lst (ns.map V.int)))) ∨ KLst X.K a (ns.map V.int)) := hI
      subst e2
      have sq : SqL X.K H1 a (ns.map V.int) := by
        rcases q with ⟨o, q⟩ | q
        · exact .inl (.inr ⟨o, q⟩)
        · exact .inr q
      exact .inl ⟨a, rfl, ⟨_, sq⟩, f _ (ns.map PV.int) ρ1 _ H1 (fun x hx => List.mem_cons_of_mem _ hx) R2 wk_scr g⟩
    | _ => exact g.elim
  | sl i => rw [e1] at g; exact g.elim
  | fr p => rw [e1] at g; exact g.elim
/-- range(n), range(a, b) -/
def rng (lo : Int) (n : Nat) : List PV := (List.range n).map fun k => PV.int (lo + (k : Nat))
theorem wk_rng {kp : Hp} {K : PySem.W.Frag} {lo : Int} {n : Nat} {pd : Pds} : Wk K (Itr lo n) (rng lo n) pd kp := by
  constructor
  · intro G H σ ρ pd' i p sb _ R1 hp
    unfold rng at hp
    rw [List.getElem?_map] at hp
    cases e : (List.range n)[i]? with
    | none => rw [e] at hp; cases hp
    | some c =>
      rw [e] at hp; cases hp
      have l : i < n := by have := (List.getElem?_eq_some_iff.mp e).1; simpa using this
      have ec : c = i := by rw [List.getElem?_range l] at e; cases e; rfl
      subst ec
      refine ⟨l, fun x H' y => ?_⟩
      obtain ⟨rfl, y⟩ := y
      subst y
      exact R1.push rfl
  · intro G H σ ρ pd' i sb _ R1 hp
    unfold rng at hp
    show n ≤ i
    simpa using hp
def rngOk (i : Int) : Prop := -(2 ^ 62) ≤ i ∧ i < 2 ^ 62
def qRng1 (t : QTA) (ρ : En) (Q : List PV → En → Prop) : Prop := t ρ fun rs ρ1 => match rs with
  | [.pv (.int n)] => rngOk n ∧ Q (rng 0 n.toNat) ρ1
  | _ => False
def qRng2 (t : QTA) (ρ : En) (Q : List PV → En → Prop) : Prop := t ρ fun rs ρ1 => match rs with
  | [.pv (.int a), .pv (.int b)] => (rngOk a ∧ rngOk b) ∧ Q (rng a (b - a).toNat) ρ1
  | _ => False
theorem qi_range1 {p pos : Pos} (hm : X.mg "range" = none) (ha : QA X [a] tr) (hg : Gl X "range" := by rfl) (hs : starEach [a] X.env = [(false, eval a X.env)] := by rfl) : QI X tg (.Call (.Name "range" p) [a] [] pos) (qRng1 tr) := by
  obtain ⟨t, p, q⟩ := ha.ex
  refine ⟨_, pi_range1 hg hm p hs, fun G H σ ρ pd Q F R1 hw f => ?_⟩
  refine q G H σ ρ pd _ _ R1 hw fun rs ρ1 pd1 vs H1 sb R2 ar g => ?_
  cases ar with
  | nil => exact g.elim
  | @cons r v rs vs h1 t1 =>
    cases t1 with
    | cons _ _ => cases r with
      | pv p => cases p <;> exact g.elim
      | _ => exact g.elim
    | nil =>
      cases r with
      | pv p =>
        cases p with
        | int n =>
          have e : v = .int n := R2.pd _ h1
          subst e
          exact ⟨n, rfl, g.1.1, g.1.2, f _ _ ρ1 pd1 H1 sb R2 wk_rng g.2⟩
        | _ => exact g.elim
      | _ => exact g.elim
theorem qi_range2 {p pos : Pos} (hm : X.mg "range" = none) (ha : QA X [a, b] tr) (hg : Gl X "range" := by rfl) (hs : starEach [a, b] X.env = [(false, eval a X.env), (false, eval b X.env)] := by rfl) (hs2 : starEach [b] X.env = [(false, eval b X.env)] := by rfl) :
    QI X tg (.Call (.Name "range" p) [a, b] [] pos) (qRng2 tr) := by
  obtain ⟨t, p, q⟩ := ha.ex
  refine ⟨_, pi_range2 hg hm p hs hs2, fun G H σ ρ pd Q F R1 hw f => ?_⟩
  refine q G H σ ρ pd _ _ R1 hw fun rs ρ1 pd1 vs H1 sb R2 ar g => ?_
  match rs, vs, ar, g with
  | [.pv (.int m), .pv (.int n)], [v, w], .cons h1 (.cons h2 .nil), g =>
    have e : v = .int m := R2.pd _ h1
    have e' : w = .int n := R2.pd _ h2
    subst e e'
    exact ⟨m, n, rfl, ⟨g.1.1.1, g.1.1.2, g.1.2.1, g.1.2.2⟩, f _ _ ρ1 pd1 H1 sb R2 wk_rng g.2⟩

/-! ### targets -/
abbrev QTG := PV → En → (En → Prop) → Prop
def RzG (K : PySem.W.Frag) (g : TG) (sl : List Nat) (t : QTG) : Prop := ∀ (G : Gd) (H : Hp) (σ : L2.St) (ρ : En) (pd : Pds) (p : PV) (v : V) (Q : En → Prop) (F : L2.St → Hp → Prop), RE K G H σ ρ ((p, v) :: pd) → t p ρ Q →
  (∀ σ' ρ' H', σ'.length = σ.length → (∀ i : Nat, i ∉ sl → σ'[i]? = σ[i]?) → RE K G H' σ' ρ' pd → Q ρ' → F σ' H') → g v σ H F
structure QG (X : Cx) (tg : Expr) (sl : List Nat) (t : QTG) : Prop where
  ex : ∃ g, PG X tg g ∧ RzG X.K g sl t
theorem QG.all {ι : Type} {X : ι → Cx} {e : Expr} {sl : List Nat} {t : QTG} {K : PySem.W.Frag} (hK : ∀ c, (X c).K = K) (h : ∀ c, QG (X c) e sl t) : ∃ g, (∀ c, PG (X c) e g) ∧ RzG K g sl t := by
  refine ⟨fun v σ H F => ∀ c, (Classical.choose (h c).ex) v σ H F, fun c => ⟨fun pins s σ H v u Q I r hw => (Classical.choose_spec (h c).ex).1.run pins s σ H v u Q I r (hw c)⟩, fun G H σ ρ pd p v Q F R1 hq f c => ?_⟩
  have z : RzG (X c).K (Classical.choose (h c).ex) sl t := (Classical.choose_spec (h c).ex).2
  exact z G H σ ρ pd p v Q F (by rw [hK c]; exact R1) hq (by rw [hK c]; exact f)
abbrev QTGs := List PV → En → (En → Prop) → Prop
def RzGs (K : PySem.W.Frag) (g : TGs) (sl : List Nat) (t : QTGs) : Prop := ∀ (G : Gd) (H : Hp) (σ : L2.St) (ρ : En) (pd : Pds) (ps : List PV) (vs : List V) (Q : En → Prop) (F : L2.St → Hp → Prop), RE K G H σ ρ pd → ArgsR σ pd (ps.map R.pv) vs → t ps ρ Q →
  (∀ σ' ρ' H', σ'.length = σ.length → (∀ i : Nat, i ∉ sl → σ'[i]? = σ[i]?) → RE K G H' σ' ρ' pd → Q ρ' → F σ' H') → g vs σ H F
structure QGs (X : Cx) (tg : List Expr) (sl : List Nat) (t : QTGs) : Prop where
  ex : ∃ g, PGs X tg g ∧ RzGs X.K g sl t
def qgN (i : Nat) (p : PV) (ρ : En) (Q : En → Prop) : Prop := notIo ρ i = true ∧ Q (ρ.set i (.val p))
theorem rz_gname {K : PySem.W.Frag} {i : Nat} : RzG K (gName i) [i] (qgN i) := fun G H σ ρ pd p v Q F R1 h f =>
  f _ _ H (by simp) (fun j hj => ix_ne (fun z => hj (by simp [z]))) (R1.set h.1) h.2
theorem qg_name (i : Nat) {x : Str} {pos : Pos} (hN : X.N.Nodup) (hi : X.N[i]? = some x := by rfl) (hx : Loc X.env.scope x := by first | exact Or.inl rfl | exact Or.inr rfl) (hf : X.fn x = true ∨ X.env.scope.names.lookup x = some .local := by first | exact .inl rfl | exact .inr rfl) : QG X (.Name x pos) [i] (qgN i) :=
  ⟨_, pg_name hN hi hx hf, rz_gname⟩
def qgNil (ps : List PV) (ρ : En) (Q : En → Prop) : Prop := match ps with
  | [] => Q ρ
  | _ => False
def qgCons (t : QTG) (u : QTGs) (ps : List PV) (ρ : En) (Q : En → Prop) : Prop := match ps with
  | p :: ps => t p ρ fun ρ1 => u ps ρ1 Q
  | [] => False
theorem qgs_nil : QGs X [] [] qgNil := ⟨_, pgs_nil, fun G H σ ρ pd ps vs Q F R1 a h f => by
  cases ps with
  | nil =>
    cases a
    exact ⟨rfl, f σ ρ H rfl (fun _ _ => rfl) R1 h⟩
  | cons _ _ => exact h.elim⟩
theorem argsP {σ σ' : L2.St} {pd : Pds} : ∀ {ps : List PV} {vs : List V}, ArgsR σ pd (ps.map R.pv) vs → ArgsR σ' pd (ps.map R.pv) vs
  | [], _, h => by cases h; exact .nil
  | p :: ps, _, h => by
    cases h with
    | cons h t => exact .cons h (argsP t)
theorem qgs_cons {e : Expr} {es : List Expr} {s1 s2 : List Nat} {t : QTG} {u : QTGs} (h1 : QG X e s1 t) (h2 : QGs X es s2 u) (hs : (assignEach (e :: es) X.env).map (·.2) = assign e X.env :: (assignEach es X.env).map (·.2) := by rfl) : QGs X (e :: es) (s1 ++ s2) (qgCons t u) := by
  obtain ⟨g1, p1, q1⟩ := h1.ex
  obtain ⟨g2, p2, q2⟩ := h2.ex
  refine ⟨_, pgs_cons p1 p2 hs, fun G H σ ρ pd ps vs Q F R1 a h f => ?_⟩
  cases ps with
  | nil => exact h.elim
  | cons p ps =>
    cases a with
    | @cons _ v _ vs hv ta =>
      refine ⟨v, vs, rfl, q1 G H σ ρ pd p v _ _ (R1.push (R1.pd _ hv)) h fun σ1 ρ1 H1 l1 k1 R2 g => ?_⟩
      refine q2 G H1 σ1 ρ1 pd ps vs _ _ R2 (argsP ta) g fun σ2 ρ2 H2 l2 k2 R3 g2 => ?_
      exact f σ2 ρ2 H2 (l2.trans l1) (fun i hi => (k2 i (fun z => hi (List.mem_append_right _ z))).trans (k1 i (fun z => hi (List.mem_append_left _ z)))) R3 g2
def qgT (n : Nat) (t : QTGs) (p : PV) (ρ : En) (Q : En → Prop) : Prop := match p with
  | .tup ps => ps.length = n ∧ t ps ρ Q
  | _ => False
theorem iss_args {K : PySem.W.Frag} {H : Hp} {W : Addr → Prop} {σ : L2.St} : ∀ {ps : List PV} {vs : List V}, Iss K H W ps vs → ArgsR σ (ps.zip vs) (ps.map R.pv) vs
  | [], _, h => by cases (show _ = [] from h); exact .nil
  | p :: ps, _, h => by
    obtain ⟨v, r, e, h1, h2⟩ := h
    subst e
    exact .cons List.mem_cons_self ((iss_args h2).mono fun x hx => List.mem_cons_of_mem _ hx)
theorem iss_mem {K : PySem.W.Frag} {H : Hp} {W : Addr → Prop} : ∀ {ps : List PV} {vs : List V}, Iss K H W ps vs → ∀ x ∈ ps.zip vs, Is K H W x.1 x.2
  | [], _, h, x, hx => by simp at hx
  | p :: ps, _, h, x, hx => by
    obtain ⟨v, r, e, h1, h2⟩ := h
    subst e
    rcases List.mem_cons.mp hx with e | hx
    · rw [e]; exact h1
    · exact iss_mem h2 x hx
theorem qg_tup {es : List Expr} {k : Nat} {t : QTGs} {sl : List Nat} {n : Nat} {pos : Pos} (hc : X.calm = true) (h : QGs X es sl t) (hn : (assignEach es X.env).length = n := by rfl) (hst : (assignEach es X.env).findIdx? (·.1) = none := by rfl) : QG X (.Tuple es k pos) sl (qgT n t) := by
  obtain ⟨g, p, q⟩ := h.ex
  refine ⟨_, pg_tup hc p hn hst, fun G H σ ρ pd p v Q F R1 hw f => ?_⟩
  cases p with
  | tup ps =>
    obtain ⟨a, vs, e, r, i⟩ : ∃ a vs, v = .ref a ∧ H a = some (.tup vs) ∧ Iss X.K H (WS G σ ρ) ps vs := R1.pd (.tup ps, v) List.mem_cons_self
    refine ⟨a, vs, e, .inl (.inl r), by rw [← i.length]; exact hw.1, ?_⟩
    have R2 : RE X.K G H σ ρ (ps.zip vs ++ pd) := R1.tl.pushs (iss_mem i)
    exact q G H σ ρ _ ps vs _ _ R2 ((iss_args i).mono fun x hx => List.mem_append_left _ hx) hw.2 fun σ' ρ' H' l k R3 g => f σ' ρ' H' l k (R3.pds fun x hx => List.mem_append_right _ hx) g
  | _ => exact hw.elim
end
end Px
namespace Px
open PySem L2 PyProof.Rows

/-! ### list comprehensions -/
def wipeE (ρ : En) : List Nat → En
  | [] => ρ
  | v :: vs => (wipeE ρ vs).set v Sl.un
def notIos (ρ : En) (vs : List Nat) : Prop := ∀ v ∈ vs, notIo ρ v = true
theorem notIo_set {ρ : En} {i j : Nat} (h : notIo ρ j = true) : notIo (ρ.set i Sl.un) j = true := by
  by_cases e : i = j
  · subst e
    unfold notIo
    by_cases l : i < ρ.length
    · rw [List.getElem?_set_self l]
    · rw [List.getElem?_eq_none (by simp; omega)]
  · unfold notIo at h ⊢
    rw [ix_ne e]
    exact h
theorem notIo_wipe {ρ : En} {j : Nat} (h : notIo ρ j = true) : ∀ vs : List Nat, notIo (wipeE ρ vs) j = true
  | [] => h
  | v :: vs => notIo_set (notIo_wipe h vs)
theorem RE.wipe {K : PySem.W.Frag} {G : Gd} {H : Hp} {σ : L2.St} {ρ : En} {pd : Pds} (R1 : RE K G H σ ρ pd) : ∀ (vs : List Nat), notIos ρ vs → RE K G H (L2.wipe σ vs) (wipeE ρ vs) pd
  | [], _ => R1
  | v :: vs, n => (RE.wipe R1 vs fun w hw => n w (List.mem_cons_of_mem _ hw)).clear (notIo_wipe (n v List.mem_cons_self) vs)
theorem wipeE_length (ρ : En) : ∀ vs : List Nat, (wipeE ρ vs).length = ρ.length
  | [] => rfl
  | v :: vs => by unfold wipeE; rw [List.length_set, wipeE_length ρ vs]
theorem wipeE_in {ρ : En} {i : Nat} : ∀ {vs : List Nat}, i ∈ vs → (wipeE ρ vs)[i]? = if i < ρ.length then some Sl.un else none
  | v :: vs, h => by
    unfold wipeE
    rw [List.getElem?_set, wipeE_length]
    by_cases e : v = i
    · subst e; simp
    · rcases List.mem_cons.mp h with z | z
      · exact absurd z.symm e
      · simp [e, wipeE_in z]
theorem wipe_in {σ : L2.St} {i : Nat} : ∀ {vs : List Nat}, i ∈ vs → (L2.wipe σ vs)[i]? = if i < σ.length then some none else none
  | v :: vs, h => by
    unfold L2.wipe
    rw [List.getElem?_set, wipe_length]
    by_cases e : v = i
    · subst e; simp
    · rcases List.mem_cons.mp h with z | z
      · exact absurd z.symm e
      · simp [e, wipe_in z]
/-- other slots' values at the slots that the env does not know -/
theorem RE.sig {K : PySem.W.Frag} {G : Gd} {H : Hp} {σ σ' : L2.St} {ρ : En} {pd : Pds} (R1 : RE K G H σ ρ pd) (l : σ'.length = σ.length) (k : ∀ i : Nat, (∀ s, ρ[i]? = some s → s ≠ Sl.un → σ'[i]? = σ[i]?)) : RE K G H σ' ρ pd := by
  have ke : ∀ {i : Nat} {s : Sl}, ρ[i]? = some s → s ≠ Sl.un → σ'[i]? = σ[i]? := fun {i s} e n => k i s e n
  have we : ∀ a, WS G σ' ρ a ↔ WS G σ ρ a := fun a => by
    constructor
    · rintro (w | ⟨i, b, p, e1, e2⟩)
      · exact .inl w
      · exact .inr ⟨i, b, p, e1, by rw [← ke e1 (by simp)]; exact e2⟩
    · rintro (w | ⟨i, b, p, e1, e2⟩)
      · exact .inl w
      · exact .inr ⟨i, b, p, e1, by rw [ke e1 (by simp)]; exact e2⟩
  have sub : ∀ a, WS G σ' ρ a → WS G σ ρ a := fun a => (we a).1
  refine ⟨R1.len.trans l.symm, fun i p e => ?_, fun i b p e => ?_, fun i j b c p q a e1 e2 e3 e4 => ?_, fun i a h => ?_, R1.keep, R1.exk, fun x hx => Is.anti sub _ _ (R1.pd x hx), R1.ext.slots fun i b p e => ⟨e, ke e (by simp)⟩⟩
  · obtain ⟨v, e1, h⟩ := R1.val i p e
    exact ⟨v, by rw [ke e (by simp)]; exact e1, Is.anti sub _ _ h⟩
  · obtain ⟨a, e1, n, o, e2, h⟩ := R1.own i b p e
    exact ⟨a, by rw [ke e (by simp)]; exact e1, n, o, e2, h.anti sub⟩
  · rw [ke e1 (by simp)] at e3
    rw [ke e2 (by simp)] at e4
    exact R1.inj i j b c p q a e1 e2 e3 e4
  · obtain ⟨e, p, e1⟩ := R1.io i a h
    exact ⟨by rw [ke e1 (by simp)]; exact e, p, e1⟩
theorem RE.unwipe {K : PySem.W.Frag} {G : Gd} {H : Hp} {σ : L2.St} {ρ : En} {pd : Pds} {vs : List Nat} (R1 : RE K G H (L2.wipe σ vs) (wipeE ρ vs) pd) : RE K G H σ (wipeE ρ vs) pd := by
  refine R1.sig (wipe_length σ vs).symm fun i s e n => ?_
  by_cases h : i ∈ vs
  · rw [wipeE_in h] at e
    split at e
    · cases e; exact absurd rfl n
    · cases e
  · exact (wipe_out h).symm
theorem wipe_agree {σ σ' : L2.St} {vs : List Nat} (l : σ'.length = σ.length) (k : ∀ i : Nat, i ∉ vs → σ'[i]? = σ[i]?) : L2.wipe σ' vs = L2.wipe σ vs := by
  refine List.ext_getElem? fun i => ?_
  by_cases h : i ∈ vs
  · rw [wipe_in h, wipe_in h, l]
  · rw [wipe_out h, wipe_out h, k i h]
theorem wipe_wipe (σ : L2.St) (vs : List Nat) : L2.wipe (L2.wipe σ vs) vs = L2.wipe σ vs := by
  refine List.ext_getElem? fun i => ?_
  by_cases h : i ∈ vs
  · rw [wipe_in h, wipe_in h, wipe_length]
  · rw [wipe_out h]
/-- the private object changed -/
theorem RE.readd {K : PySem.W.Frag} {G : Gd} {H : Hp} {σ : L2.St} {ρ : En} {pd : Pds} {a : Addr} {o o' : HO} (R1 : RE K (G.add a o) H σ ρ pd) (m : Mut (some o')) : RE K (G.add a o') (upd H a o') σ ρ pd := by
  have we : ∀ b, WS (G.add a o') σ ρ b ↔ WS (G.add a o) σ ρ b := fun b => Iff.rfl
  have Wa : WS (G.add a o) σ ρ a := .inl (.inl rfl)
  have kp : ∀ b u, H b = some u → ¬ WS (G.add a o) σ ρ b → upd H a o' b = some u := fun b u e n => by
    have ne : b ≠ a := fun z => n (by rw [z]; exact Wa)
    rw [upd_ne ne]; exact e
  have mv := fun p v h => Is.move (K := K) kp R1.mut (W' := WS (G.add a o') σ ρ) (fun _ _ w => w) p v h
  have kne : ∀ c, (G.add a o).keep c = none → c ≠ a ∧ G.keep c = none := fun c e => by
    have e' : upd G.keep a o c = none := e
    by_cases z : c = a
    · rw [z, upd_same] at e'; cases e'
    · rw [upd_ne z] at e'; exact ⟨z, e'⟩
  refine ⟨R1.len, fun i p e => ?_, fun i b p e => ?_, R1.inj, R1.io, fun b u e => ?_, fun b w hv => ?_, fun x hx => mv _ _ (R1.pd x hx), ?_⟩
  · obtain ⟨v, e1, h⟩ := R1.val i p e
    exact ⟨v, e1, mv _ _ h⟩
  · obtain ⟨c, e1, n, u, e2, h⟩ := R1.own i b p e
    obtain ⟨ne, n'⟩ := kne c n
    exact ⟨c, e1, by show upd G.keep a o' c = none; rw [upd_ne ne]; exact n', u, by rw [upd_ne ne]; exact e2, h.move kp R1.mut fun _ _ w => w⟩
  · have e' : upd G.keep a o' b = some u := e
    by_cases z : b = a
    · rw [z] at e' ⊢; rw [upd_same] at e' ⊢; exact e'
    · rw [upd_ne z] at e' ⊢
      exact R1.keep b u (by show upd G.keep a o b = some u; rw [upd_ne z]; exact e')
  · rcases w with w | w
    · rw [w]; exact ⟨o', upd_same, m⟩
    · obtain ⟨u, e1, m1⟩ := R1.exk b (.inr w) hv
      have e2 : upd G.keep a o b = some u := e1
      by_cases z : b = a
      · rw [z]; exact ⟨o', upd_same, m⟩
      · rw [upd_ne z] at e2
        exact ⟨u, by show upd G.keep a o' b = some u; rw [upd_ne z]; exact e2, m1⟩
  · refine ⟨fun b h => ?_, R1.ext.off, R1.ext.nst⟩
    obtain ⟨h1, h2, ns, e1, h3⟩ := R1.ext.vo b h
    have ne : b ≠ a := fun z => R1.ext.notA (by rw [← z]; exact h)
    have h2' : upd G.keep a o b = none := h2
    rw [upd_ne ne] at h2'
    exact ⟨h1, by show upd G.keep a o' b = none; rw [upd_ne ne]; exact h2', ns, by rw [upd_ne ne]; exact e1, h3⟩
/-- tests of a comprehension -/
structure QCs (X : Cx) (es : List Expr) (t : QTT) : Prop where
  ex : ∃ tt, PTs X es tt ∧ RzT X.K tt t
def qYes (ρ : En) (Q : Bool → En → Prop) : Prop := Q true ρ
theorem qcs_nil {X : Cx} : QCs X [] qYes := ⟨_, pts_nil, fun G H σ ρ pd Q F R1 h f => f true ρ H R1 h⟩
theorem qcs_one {X : Cx} {e : Expr} {t : QTT} (h : QC X e t) : QCs X [e] t := by
  obtain ⟨t1, p, q⟩ := h.ex
  exact ⟨_, pts_one p, q⟩
theorem QCs.all {ι : Type} {X : ι → Cx} {es : List Expr} {t : QTT} {K : PySem.W.Frag} (hK : ∀ c, (X c).K = K) (h : ∀ c, QCs (X c) es t) : ∃ tt, (∀ c, PTs (X c) es tt) ∧ RzT K tt t := by
  refine ⟨fun σ H F => ∀ c, (Classical.choose (h c).ex) σ H F, fun c => ⟨fun pins s σ H Q I hw => (Classical.choose_spec (h c).ex).1.run pins s σ H Q I (hw c)⟩, fun G H σ ρ pd Q F R1 hq f c => ?_⟩
  have z : RzT (X c).K (Classical.choose (h c).ex) t := (Classical.choose_spec (h c).ex).2
  exact z G H σ ρ pd Q F (by rw [hK c]; exact R1) hq (by rw [hK c]; exact f)
def lcGo (g : QTG) (tt : QTT) (te : QT) (vs : List Nat) (Q : List PV → En → Prop) : List PV → List PV → En → Prop
  | [], acc, ρ => Q acc ρ
  | p :: ps, acc, ρ => g p ρ fun ρ1 => tt ρ1 fun b ρ2 => Br b (te ρ2 fun r ρ3 => match r.wk with
      | .pv q => small (acc.length + 1) ∧ notIos ρ3 vs ∧ lcGo g tt te vs Q ps (acc ++ [q]) (wipeE ρ3 vs)
      | _ => False) (notIos ρ2 vs ∧ lcGo g tt te vs Q ps acc (wipeE ρ2 vs))
def lcR (g : QTG) (tt : QTT) (te : QT) (vs : List Nat) (ps : List PV) (ρ : En) (Q : PK1) (_ : Dum Q) : Prop := lcGo g tt te vs (fun acc ρ' => Q (.fr (.lst acc)) ρ') ps [] ρ
def qLc (ti : QTI) (g : QTG) (tt : QTT) (te : QT) (vs : List Nat) (ρ : En) (Q : PK1) : Prop := ti ρ fun ps ρ1 => notIos ρ1 vs ∧ lcR g tt te vs ps (wipeE ρ1 vs) Q .mk
abbrev BlkI (X : Cx) := Shared × Hp × Addr × List (Str × Addr) × List Addr
abbrev blkX (X : Cx) (scope : Scope) (c : BlkI X) : Cx := X.blk c.1 c.2.1 scope (compEnvC scope c.2.2.2.1 c.2.2.1 X.env) c.2.2.2.2
theorem add_keep {G : Gd} {D : Addr} {o : HO} {kp : Hp} (kD : G.keep D = none) (h : ∀ b o, kp b = some o → G.keep b = some o) : ∀ b u, kp b = some u → (G.add D o).keep b = some u := fun b u e => by
  have ne : b ≠ D := fun z => by have := h b u e; rw [z, kD] at this; cases this
  show upd G.keep D o b = some u
  rw [upd_ne ne]; exact h b u e
theorem lc_walk {K : PySem.W.Frag} {g : TG} {tt : TT} {te : TE} {vs sl : List Nat} {qg : QTG} {qt : QTT} {qe : QT} (h2 : RzG K g sl qg) (h3 : RzT K tt qt) (h4 : Rz K te qe) (hs : ∀ i ∈ sl, i ∈ vs) {G : Gd} {H1 : Hp} {σ : L2.St} {ρ1 : En} {pd pd1 : Pds} {J : It} {ps : List PV} {Q : PK1} {F : VK} (sb : ∀ x ∈ pd, x ∈ pd1)
    (R2 : RE K G H1 σ ρ1 pd1) (wk : Wk K J ps pd1 G.keep) (nio : notIos ρ1 vs) (go : lcR qg qt qe vs ps (wipeE ρ1 vs) Q .mk) (f : ∀ r ρ' v H', Res K G H' σ ρ' pd r v → Q r ρ' → F v H') :
    ∀ D, H1 D = none → ∃ W : Nat → Nat → Hp → Prop, (∃ m, W 0 m (upd H1 D (.lst []))) ∧ ∀ i m H, W i m H →
      (J.stop i H ∧ F (.ref D) H) ∨ (J.go i H ∧ ∃ Nx : Hp → Prop, (∀ H', Nx H' → ∃ m', m' < m ∧ W (i + 1) m' H') ∧ ∀ x H', J.yld i H x H' → g x (L2.wipe σ vs) H' fun σ2 H2 => L2.wipe σ2 vs = L2.wipe σ vs ∧ tt σ2 H2 fun b H3 =>
        if b = true then te σ2 H3 fun y H4 => ∃ acc, H4 D = some (.lst acc) ∧ acc.length < sizeLine ∧ Nx (upd H4 D (.lst (acc ++ [y]))) else Nx H3) := by
  intro D hD
  have kx := R2.exk
  have kD : G.keep D = none := by
    cases q : G.keep D with
    | none => rfl
    | some u => rw [R2.keep D u q] at hD; cases hD
  let W : Nat → Nat → Hp → Prop := fun i m H => m = ps.length - i ∧ i ≤ ps.length ∧ ∃ (ρ' : En) (acc : List PV) (av : List V), RE K (G.add D (.lst av)) H (L2.wipe σ vs) (wipeE ρ' vs) (acc.zip av ++ pd1) ∧ acc.length = av.length ∧ lcGo qg qt qe vs (fun acc ρ' => Q (.fr (.lst acc)) ρ') (ps.drop i) acc (wipeE ρ' vs)
  refine ⟨W, ⟨ps.length, by simp, Nat.zero_le _, ρ1, [], [], ?_, rfl, go⟩, ?_⟩
  · exact (R2.wipe vs nio).add (o := .lst []) hD (same_new hD) upd_same trivial
  rintro i m H2 ⟨rfl, hi, ρ', acc, av, R3, la, g1⟩
  by_cases lt : i < ps.length
  · have ep : ps[i]? = some ps[i] := List.getElem?_eq_getElem lt
    obtain ⟨jg, jy⟩ := wk.item _ H2 _ _ _ i _ (fun x hx => List.mem_append_right _ hx) (add_keep kD fun _ _ e => e) R3 ep
    refine .inr ⟨jg, fun H' => W (i + 1) (ps.length - (i + 1)) H', fun H' w => ⟨_, by omega, w⟩, fun x H3 y => ?_⟩
    have R4 := jy x H3 y
    rw [List.drop_eq_getElem_cons lt] at g1
    refine h2 _ H3 _ _ _ _ x _ _ R4 g1 fun σ2 ρ2 H4 l2 k2 R5 g2 => ?_
    have wa : L2.wipe σ2 vs = L2.wipe σ vs := by
      rw [← wipe_wipe σ vs]
      exact wipe_agree l2 fun j hj => k2 j fun z => hj (hs j z)
    refine ⟨wa, h3 _ H4 σ2 ρ2 _ _ _ R5 g2 fun b ρ3 H5 R6 g3 => ?_⟩
    cases b with
    | false =>
      obtain ⟨n3, g4⟩ := g3.2 rfl
      refine ⟨rfl, lt, ρ3, acc, av, ?_, la, g4⟩
      have R7 := R6.wipe vs n3
      rw [wa] at R7
      exact R7
    | true =>
      have g4 := g3.1 rfl
      show te σ2 H5 _
      refine h4 _ H5 σ2 ρ3 _ _ _ R6 g4 fun r ρ4 v H6 s g5 => ?_
      have s' := s.wk
      cases er : r.wk with
      | pv q =>
        rw [er] at s' g5
        obtain ⟨sm, n5, g6⟩ := g5
        have R7 : RE K (G.add D (.lst av)) H6 σ2 ρ4 ((q, v) :: (acc.zip av ++ pd1)) := s'
        refine ⟨av, R7.keep D _ upd_same, by rw [← la]; exact sm, rfl, lt, ρ4, acc ++ [q], av ++ [v], ?_, by simp [la], g6⟩
        have R8 := (R7.wipe vs n5).readd (o' := .lst (av ++ [v])) trivial
        rw [wa] at R8
        refine R8.pds fun x hx => ?_
        rw [List.zip_append la] at hx
        rcases List.mem_append.mp hx with hx | hx
        · rcases List.mem_append.mp hx with hx | hx
          · exact List.mem_cons_of_mem _ (List.mem_append_left _ hx)
          · have : x = (q, v) := by simpa using hx
            rw [this]; exact List.mem_cons_self
        · exact List.mem_cons_of_mem _ (List.mem_append_right _ hx)
      | sl j => rw [er] at g5; exact g5.elim
      | fr q => rw [er] at g5; exact g5.elim
  · have e : i = ps.length := by omega
    subst e
    refine .inl ⟨wk.stop _ H2 _ _ _ _ (fun x hx => List.mem_append_right _ hx) (add_keep kD fun _ _ e => e) R3 (Nat.le_refl _), ?_⟩
    rw [List.drop_length] at g1
    have R4 := R3.unwipe
    refine f (.fr (.lst acc)) (wipeE ρ' vs) (.ref D) H2 ⟨D, .lst av, rfl, kD, kx, R4.pds fun x hx => List.mem_append_right _ (sb x hx), ?_⟩ g1
    show Iss K H2 (WS (G.add D (.lst av)) σ (wipeE ρ' vs)) acc av
    have hall : ∀ x ∈ acc.zip av, Is K H2 (WS (G.add D (.lst av)) σ (wipeE ρ' vs)) x.1 x.2 := fun x hx => R4.pd x (List.mem_append_left _ hx)
    clear g1 R3 R4
    revert la hall
    generalize WS (G.add D (.lst av)) σ (wipeE ρ' vs) = W'
    intro la hall
    clear W f go
    induction acc generalizing av with
    | nil => cases av with
      | nil => rfl
      | cons _ _ => simp at la
    | cons p acc ih =>
      cases av with
      | nil => simp at la
      | cons v av => exact ⟨v, av, rfl, hall (p, v) List.mem_cons_self, ih av (by simpa using la) fun x hx => hall x (List.mem_cons_of_mem _ hx)⟩
theorem rz_lc {K : PySem.W.Frag} {wi : TI} {g : TG} {tt : TT} {te : TE} {vs sl : List Nat} {ti : QTI} {qg : QTG} {qt : QTT} {qe : QT} (h1 : RzI K wi ti) (h2 : RzG K g sl qg) (h3 : RzT K tt qt) (h4 : Rz K te qe) (hs : ∀ i ∈ sl, i ∈ vs) : Rz K (tLc wi g tt te vs) (qLc ti qg qt qe vs) := by
  intro G H σ ρ pd Q F R1 hw f
  exact h1 G H σ ρ pd _ _ R1 hw fun J ps ρ1 pd1 H1 sb R2 wk ⟨nio, go⟩ => lc_walk h2 h3 h4 hs sb R2 wk nio go f
section
variable {X : Cx} {elt tg iter : Expr} {ifs : List Expr} {scope : Scope} {own : List (Str × Nat)} {pos : Pos} {ti : QTI} {g : QTG} {tt : QTT} {te : QT} {sl : List Nat}
theorem qe_lc (hc : X.calm = true) (hN : X.N.Nodup) (ok : BlkOk X.N X.env.scope scope own) (hi : QI X tg iter ti) (hg : ∀ c, QG (blkX X scope c) tg sl g) (ht : ∀ c, QCs (blkX X scope c) ifs tt) (he : ∀ c, QE (blkX X scope c) elt te)
    (hs : ∀ i ∈ sl, i ∈ own.map (·.2) := by decide) (hf : ∀ x, foldedSetIterable iter X.env x = pure x := by intro _; rfl) {vs : List Nat} (hv : vs = own.map (·.2) := by rfl) : QE X (.ListComp elt [⟨tg, iter, ifs, 0⟩] scope pos) (qLc ti g tt te vs) := by
  subst hv
  obtain ⟨wi, p1, q1⟩ := hi.ex
  obtain ⟨g1, p2, q2⟩ := QG.all (X := blkX X scope) (K := X.K) (fun _ => rfl) hg
  obtain ⟨t1, p3, q3⟩ := QCs.all (X := blkX X scope) (K := X.K) (fun _ => rfl) ht
  obtain ⟨e1, p4, q4⟩ := QE.all (X := blkX X scope) (K := X.K) (fun _ => rfl) he
  exact ⟨_, pe_lc hc hN p1 ok (fun s H C cl fp => p2 (s, H, C, cl, fp)) (fun s H C cl fp => p3 (s, H, C, cl, fp)) (fun s H C cl fp => p4 (s, H, C, cl, fp)) hf, rz_lc q1 q2 q3 q4 hs⟩
end
end Px
namespace Px
open PySem L2 PyProof.Rows

/-! ### statements -/
structure PEnds where
  nx : En → Prop
  rt : R → En → Prop
  bk : En → Prop := fun _ => False
  ct : En → Prop := fun _ => False
abbrev QTS := PEnds → En → Prop
structure EndsOk (K : PySem.W.Frag) (G : Gd) (pd : Pds) (D' : PEnds) (D : Ends) : Prop where
  nx : ∀ σ ρ H, RE K G H σ ρ pd → D'.nx ρ → D.nx σ H
  rt : ∀ r v σ ρ H, Res K G H σ ρ pd r v → D'.rt r ρ → D.rt v H
  bk : ∀ σ ρ H, RE K G H σ ρ pd → D'.bk ρ → D.bk σ H
  ct : ∀ σ ρ H, RE K G H σ ρ pd → D'.ct ρ → D.ct σ H
def RzS (K : PySem.W.Frag) (ts : TS) (t : QTS) : Prop := ∀ (G : Gd) (H : Hp) (σ : L2.St) (ρ : En) (pd : Pds) (D' : PEnds) (D : Ends), RE K G H σ ρ pd → t D' ρ → EndsOk K G pd D' D → ts D σ H
structure QS (X : Cx) (st : Stmt) (t : QTS) : Prop where
  ex : ∃ ts, PS X st ts ∧ RzS X.K ts t
structure QSs (X : Cx) (st : List Stmt) (t : QTS) : Prop where
  ex : ∃ ts, PSs X st ts ∧ RzS X.K ts t
theorem EndsOk.more {K : PySem.W.Frag} {G : Gd} {pd pd' : Pds} {D' : PEnds} {D : Ends} (e : EndsOk K G pd D' D) (s : ∀ x ∈ pd, x ∈ pd') : EndsOk K G pd' D' D :=
  ⟨fun σ ρ H R h => e.nx σ ρ H (R.pds s) h, fun r v σ ρ H R h => e.rt r v σ ρ H (R.pds s) h, fun σ ρ H R h => e.bk σ ρ H (R.pds s) h, fun σ ρ H R h => e.ct σ ρ H (R.pds s) h⟩
section
variable {X : Cx} {st : Stmt} {rest a b body : List Stmt} {t u : QTS} {c e tg iter : Expr} {te : QT} {tc : QTT} {g : QTG} {ti : QTI} {sl : List Nat} {pos : Pos}
def qNext (D : PEnds) (ρ : En) : Prop := D.nx ρ
def qSeq (t u : QTS) (D : PEnds) (ρ : En) : Prop := t { nx := u D, rt := D.rt, bk := D.bk, ct := D.ct } ρ
theorem qss_nil : QSs X [] qNext := ⟨_, pss_nil, fun G H σ ρ pd D' D R1 h e => e.nx σ ρ H R1 h⟩
theorem qss_cons (h1 : QS X st t) (h2 : QSs X rest u) : QSs X (st :: rest) (qSeq t u) := by
  obtain ⟨t1, p1, q1⟩ := h1.ex
  obtain ⟨t2, p2, q2⟩ := h2.ex
  refine ⟨_, pss_cons p1 p2, fun G H σ ρ pd D' D R1 h e => ?_⟩
  exact q1 G H σ ρ pd _ _ R1 h ⟨fun σ' ρ' H' R2 g => q2 G H' σ' ρ' pd D' D R2 g e, e.rt, e.bk, e.ct⟩
theorem qss_one (h1 : QS X st t) : QSs X [st] t := by
  obtain ⟨t1, p1, q1⟩ := h1.ex
  exact ⟨_, pss_one p1, q1⟩
theorem qs_pass : QS X (.Pass pos) qNext := ⟨_, ps_pass, fun G H σ ρ pd D' D R1 h e => e.nx σ ρ H R1 h⟩
theorem qs_doc {x : Str} {j : Nat} {pos' : Pos} : QS X (.Expr (.Constant (.str x) j pos) pos') qNext := ⟨_, ps_doc, fun G H σ ρ pd D' D R1 h e => e.nx σ ρ H R1 h⟩
def qBreak (D : PEnds) (ρ : En) : Prop := D.bk ρ
def qCont (D : PEnds) (ρ : En) : Prop := D.ct ρ
theorem qs_break : QS X (.Break pos) qBreak := ⟨_, ps_break, fun G H σ ρ pd D' D R1 h e => e.bk σ ρ H R1 h⟩
theorem qs_continue : QS X (.Continue pos) qCont := ⟨_, ps_continue, fun G H σ ρ pd D' D R1 h e => e.ct σ ρ H R1 h⟩
/-- code that is never come to -/
def qNever (_ : PEnds) (_ : En) : Prop := False
theorem qs_never : QS X st qNever := ⟨_, ps_never, fun G H σ ρ pd D' D R1 h e => h.elim⟩
theorem qss_never : QSs X rest qNever := ⟨_, pss_never, fun G H σ ρ pd D' D R1 h e => h.elim⟩
/-- from here on a slot's own object is a value -/
def frz (ρ : En) (i : Nat) : Option En := match ρ[i]? with
  | some (Sl.own false p) => some (ρ.set i (.val p))
  | _ => none
def qFrz (i : Nat) (t : QTS) (D : PEnds) (ρ : En) : Prop := match frz ρ i with
  | some ρ' => t D ρ'
  | none => False
theorem rz_frz {K : PySem.W.Frag} {ts : TS} {i : Nat} (q : RzS K ts t) : RzS K ts (qFrz i t) := by
  intro G H σ ρ pd D' D R1 h e
  unfold qFrz at h
  cases hf : frz ρ i with
  | none => rw [hf] at h; exact h.elim
  | some ρ' =>
    rw [hf] at h
    unfold frz at hf
    cases es : ρ[i]? with
    | none => rw [es] at hf; cases hf
    | some s =>
      rw [es] at hf
      cases s with
      | own b p =>
        cases b with
        | true => cases hf
        | false => cases hf; exact q G H σ _ pd D' D (R1.freeze es) h e
      | _ => cases hf
theorem qs_frz (i : Nat) (h : QS X st t) : QS X st (qFrz i t) := by
  obtain ⟨t1, p1, q1⟩ := h.ex
  exact ⟨_, p1, rz_frz q1⟩
theorem qss_frz (i : Nat) (h : QSs X rest t) : QSs X rest (qFrz i t) := by
  obtain ⟨t1, p1, q1⟩ := h.ex
  exact ⟨_, p1, rz_frz q1⟩
def qDrop (t : QT) (D : PEnds) (ρ : En) : Prop := t ρ fun _ ρ1 => D.nx ρ1
theorem qs_expr (h : QE X e te) (hs : swapsWith e none pos.line X.env = pure false := by rfl) : QS X (.Expr e pos) (qDrop te) := by
  obtain ⟨t1, p1, q1⟩ := h.ex
  exact ⟨_, ps_expr p1 hs, fun G H σ ρ pd D' D R1 h e => q1 G H σ ρ pd _ _ R1 h fun r ρ' v H' s g => e.nx σ ρ' H' s.re g⟩
def retG (r : R) (ρ : En) (rt : R → En → Prop) : Prop := match r with
  | .sl i => match ρ[i]? with
    | some (Sl.own false p) => rt (.fr p) (ρ.set i Sl.un)
    | _ => False
  | r => rt r ρ
def qRet (t : QT) (D : PEnds) (ρ : En) : Prop := t ρ fun r ρ1 => retG r ρ1 D.rt
theorem qs_ret (h : QE X e te) : QS X (.Return (some e) pos) (qRet te) := by
  obtain ⟨t1, p1, q1⟩ := h.ex
  refine ⟨_, ps_ret p1, fun G H σ ρ pd D' D R1 h e => q1 G H σ ρ pd _ _ R1 h fun r ρ' v H' s g => ?_⟩
  cases r with
  | sl i =>
    unfold retG at g
    simp only at g
    obtain ⟨R2, e1, b, p, e2⟩ := s
    rw [e2] at g
    cases b with
    | true => exact g.elim
    | false =>
      obtain ⟨a, o, e3, n, R3, w⟩ := R2.release e2
      rw [e1] at e3; cases e3
      exact e.rt (.fr p) _ σ _ H' ⟨a, o, rfl, n, R2.exk, R3, w⟩ g
  | pv p => exact e.rt _ v σ ρ' H' s g
  | fr p => exact e.rt _ v σ ρ' H' s g
def qRetN (D : PEnds) (ρ : En) : Prop := D.rt (.pv .non) ρ
theorem qs_retN : QS X (.Return none pos) qRetN := ⟨_, ps_retN, fun G H σ ρ pd D' D R1 h e => e.rt (.pv .non) .non σ ρ H (R1.push rfl) h⟩
def qIf (c : QTT) (t u : QTS) (D : PEnds) (ρ : En) : Prop := c ρ fun b ρ1 => Br b (t D ρ1) (u D ρ1)
theorem qs_if (hc : QC X c tc) (ha : QSs X a t) (hb : QSs X b u) : QS X (.If c a b pos) (qIf tc t u) := by
  obtain ⟨t1, p1, q1⟩ := hc.ex
  obtain ⟨t2, p2, q2⟩ := ha.ex
  obtain ⟨t3, p3, q3⟩ := hb.ex
  refine ⟨_, ps_if p1 p2 p3, fun G H σ ρ pd D' D R1 h e => q1 G H σ ρ pd _ _ R1 h fun b ρ' H' R2 g => ?_⟩
  cases b with
  | true => exact (q2 G H' σ ρ' pd D' D R2 (g.1 rfl) e : _)
  | false => exact (q3 G H' σ ρ' pd D' D R2 (g.2 rfl) e : _)

/-! ### stores -/
def qSet (i : Nat) (t : QT) (D : PEnds) (ρ : En) : Prop := t ρ fun r ρ1 => match r.wk with
  | .pv p => notIo ρ1 i = true ∧ D.nx (ρ1.set i (.val p))
  | _ => False
/-- the slot owns what is new -/
def qOwn (i : Nat) (t : QT) (D : PEnds) (ρ : En) : Prop := t ρ fun r ρ1 => match r with
  | .fr p => notIo ρ1 i = true ∧ i < ρ1.length ∧ isNst p = false ∧ D.nx (ρ1.set i (.own false p))
  | _ => False
theorem rz_set {K : PySem.W.Frag} {t : TE} {i : Nat} (q : Rz K t te) : RzS K (tAsg t (gName i)) (qSet i te) := by
  intro G H σ ρ pd D' D R1 h e
  refine q G H σ ρ pd _ _ R1 h fun r ρ' v H' s g => ?_
  have s' := s.wk
  cases er : r.wk with
  | pv p =>
    rw [er] at s' g
    exact e.nx _ _ H' (RE.set s' g.1) g.2
  | sl j => rw [er] at g; exact g.elim
  | fr p => rw [er] at g; exact g.elim
theorem rz_own {K : PySem.W.Frag} {t : TE} {i : Nat} (q : Rz K t te) : RzS K (tAsg t (gName i)) (qOwn i te) := by
  intro G H σ ρ pd D' D R1 h e
  refine q G H σ ρ pd _ _ R1 h fun r ρ' v H' s g => ?_
  cases r with
  | fr p =>
    obtain ⟨a, o, rfl, n, kx, R2, w⟩ := s
    exact e.nx _ _ H' (R2.setOwn g.1 g.2.1 n kx w g.2.2.1) g.2.2.2
  | pv p => exact g.elim
  | sl j => exact g.elim
section
variable {x : Str} {i : Nat} {pos' : Pos}
theorem qs_set (i : Nat) (hN : X.N.Nodup) (he : QE X e te) (hi : X.N[i]? = some x := by rfl) (hx : Loc X.env.scope x := by first | exact Or.inl rfl | exact Or.inr rfl) (hs : swapsWith e (some (.Name x pos')) pos.line X.env = pure false := by rfl) (hf : X.fn x = true ∨ X.env.scope.names.lookup x = some .local := by first | exact .inl rfl | exact .inr rfl) :
    QS X (.Assign [.Name x pos'] e pos) (qSet i te) := by
  obtain ⟨t, p, q⟩ := he.ex
  exact ⟨_, ps_set hN hi hx p hs hf, rz_set q⟩
theorem qs_own (i : Nat) (hN : X.N.Nodup) (he : QE X e te) (hi : X.N[i]? = some x := by rfl) (hx : Loc X.env.scope x := by first | exact Or.inl rfl | exact Or.inr rfl) (hs : swapsWith e (some (.Name x pos')) pos.line X.env = pure false := by rfl) (hf : X.fn x = true ∨ X.env.scope.names.lookup x = some .local := by first | exact .inl rfl | exact .inr rfl) :
    QS X (.Assign [.Name x pos'] e pos) (qOwn i te) := by
  obtain ⟨t, p, q⟩ := he.ex
  exact ⟨_, ps_set hN hi hx p hs hf, rz_own q⟩
end
section
variable {elt tg iter : Expr} {ifs : List Expr} {scope : Scope} {own : List (Str × Nat)} {spos py : Pos} {y : Str} {tt : QTT}
theorem ex_setLc (i : Nat) (hc : X.calm = true) (hN : X.N.Nodup) (hsw : swapsWith (.ListComp elt [⟨tg, iter, ifs, 0⟩] scope pos) (some (.Name y py)) spos.line X.env = pure true) (ok : BlkOk X.N X.env.scope scope own) (hi : QI X tg iter ti) (hg : ∀ c, QG (blkX X scope c) tg sl g) (ht : ∀ c, QCs (blkX X scope c) ifs tt) (he : ∀ c, QE (blkX X scope c) elt te)
    (hs : ∀ i ∈ sl, i ∈ own.map (·.2)) (hy : X.N[i]? = some y) (hyl : X.env.scope.names.lookup y = some .local) (hf : ∀ x, foldedSetIterable iter X.env x = pure x) :
    ∃ t, PS X (.Assign [.Name y py] (.ListComp elt [⟨tg, iter, ifs, 0⟩] scope pos) spos) (tAsg t (gName i)) ∧ Rz X.K t (qLc ti g tt te (own.map (·.2))) := by
  obtain ⟨wi, p1, q1⟩ := hi.ex
  obtain ⟨g1, p2, q2⟩ := QG.all (X := blkX X scope) (K := X.K) (fun _ => rfl) hg
  obtain ⟨t1, p3, q3⟩ := QCs.all (X := blkX X scope) (K := X.K) (fun _ => rfl) ht
  obtain ⟨e1, p4, q4⟩ := QE.all (X := blkX X scope) (K := X.K) (fun _ => rfl) he
  exact ⟨_, ps_setLc hc hN hy hyl hsw p1 ok (fun s H C cl fp => p2 (s, H, C, cl, fp)) (fun s H C cl fp => p3 (s, H, C, cl, fp)) (fun s H C cl fp => p4 (s, H, C, cl, fp)) hf, rz_lc q1 q2 q3 q4 hs⟩
theorem qs_setLc (i : Nat) (hc : X.calm = true) (hN : X.N.Nodup) (hsw : swapsWith (.ListComp elt [⟨tg, iter, ifs, 0⟩] scope pos) (some (.Name y py)) spos.line X.env = pure true) (ok : BlkOk X.N X.env.scope scope own) (hi : QI X tg iter ti) (hg : ∀ c, QG (blkX X scope c) tg sl g) (ht : ∀ c, QCs (blkX X scope c) ifs tt) (he : ∀ c, QE (blkX X scope c) elt te)
    (hs : ∀ i ∈ sl, i ∈ own.map (·.2) := by decide) (hy : X.N[i]? = some y := by rfl) (hyl : X.env.scope.names.lookup y = some .local := by rfl) (hf : ∀ x, foldedSetIterable iter X.env x = pure x := by intro _; rfl) {vs : List Nat} (hv : vs = own.map (·.2) := by rfl) :
    QS X (.Assign [.Name y py] (.ListComp elt [⟨tg, iter, ifs, 0⟩] scope pos) spos) (qSet i (qLc ti g tt te vs)) := by
  subst hv
  obtain ⟨t, p, q⟩ := ex_setLc i hc hN hsw ok hi hg ht he hs hy hyl hf
  exact ⟨_, p, rz_set q⟩
theorem qs_ownLc (i : Nat) (hc : X.calm = true) (hN : X.N.Nodup) (hsw : swapsWith (.ListComp elt [⟨tg, iter, ifs, 0⟩] scope pos) (some (.Name y py)) spos.line X.env = pure true) (ok : BlkOk X.N X.env.scope scope own) (hi : QI X tg iter ti) (hg : ∀ c, QG (blkX X scope c) tg sl g) (ht : ∀ c, QCs (blkX X scope c) ifs tt) (he : ∀ c, QE (blkX X scope c) elt te)
    (hs : ∀ i ∈ sl, i ∈ own.map (·.2) := by decide) (hy : X.N[i]? = some y := by rfl) (hyl : X.env.scope.names.lookup y = some .local := by rfl) (hf : ∀ x, foldedSetIterable iter X.env x = pure x := by intro _; rfl) {vs : List Nat} (hv : vs = own.map (·.2) := by rfl) :
    QS X (.Assign [.Name y py] (.ListComp elt [⟨tg, iter, ifs, 0⟩] scope pos) spos) (qOwn i (qLc ti g tt te vs)) := by
  subst hv
  obtain ⟨t, p, q⟩ := ex_setLc i hc hN hsw ok hi hg ht he hs hy hyl hf
  exact ⟨_, p, rz_own q⟩
end
def qAsg (t : QT) (g : QTG) (D : PEnds) (ρ : En) : Prop := t ρ fun r ρ1 => match r.wk with
  | .pv p => g p ρ1 D.nx
  | _ => False
theorem qs_asg (he : QE X e te) (hg : QG X tg sl g) (hs : swapsWithSole [tg] e pos.line X.env = pure false := by rfl) (hw : swappedStores [tg] e X.env = pure none := by rfl)
    (h1 : (assignEach [tg] X.env).map (·.2) = [assign tg X.env] := by rfl) : QS X (.Assign [tg] e pos) (qAsg te g) := by
  obtain ⟨t, p, q⟩ := he.ex
  obtain ⟨g1, p1, q1⟩ := hg.ex
  refine ⟨_, ps_asg p p1 hs hw h1, fun G H σ ρ pd D' D R1 h e => ?_⟩
  refine q G H σ ρ pd _ _ R1 h fun r ρ' v H' s g => ?_
  have s' := s.wk
  cases er : r.wk with
  | pv p =>
    rw [er] at s' g
    exact q1 G H' σ ρ' pd p v _ _ s' g fun σ2 ρ2 H2 _ _ R2 g2 => e.nx σ2 ρ2 H2 R2 g2
  | sl j => rw [er] at g; exact g.elim
  | fr p => rw [er] at g; exact g.elim

/-! ### loops -/
def forGo (g : QTG) (body : QTS) (D : PEnds) : List PV → En → Prop
  | [], ρ => D.nx ρ
  | p :: ps, ρ => g p ρ fun ρ1 => body { nx := fun ρ2 => forGo g body D ps ρ2, rt := D.rt, bk := D.nx, ct := fun ρ2 => forGo g body D ps ρ2 } ρ1
def qFor (ti : QTI) (g : QTG) (body : QTS) (D : PEnds) (ρ : En) : Prop := ti ρ fun ps ρ1 => forGo g body D ps ρ1
theorem for_walk {X : Cx} {g1 : TG} {t1 : TS} {g : QTG} {t : QTS} {sl : List Nat} (q2 : RzG X.K g1 sl g) (q3 : RzS X.K t1 t) {G : Gd} {H1 : Hp} {σ : L2.St} {ρ1 : En} {pd pd1 : Pds} {J : It} {ps : List PV} {D' : PEnds} {D : Ends} (sb : ∀ x ∈ pd, x ∈ pd1) (R2 : RE X.K G H1 σ ρ1 pd1) (wk : Wk X.K J ps pd1 G.keep) (go : forGo g t D' ps ρ1) (e : EndsOk X.K G pd D' D) :
    ∃ W : Nat → Nat → L2.St → Hp → Prop, (∃ m, W 0 m σ H1) ∧ ∀ i m σ H, W i m σ H → (J.stop i H ∧ D.nx σ H) ∨ (J.go i H ∧ ∃ N : L2.St → Hp → Prop, (∀ σ' H', N σ' H' → ∃ m', m' < m ∧ W (i + 1) m' σ' H') ∧ ∀ v H', J.yld i H v H' → g1 v σ H' fun σ2 H2 => t1 { D with nx := N, ct := N, bk := D.nx } σ2 H2) := by
  let W : Nat → Nat → L2.St → Hp → Prop := fun i m σ H => m = ps.length - i ∧ i ≤ ps.length ∧ ∃ ρ, RE X.K G H σ ρ pd1 ∧ forGo g t D' (ps.drop i) ρ
  refine ⟨W, ⟨ps.length, by simp, Nat.zero_le _, ρ1, R2, go⟩, ?_⟩
  rintro i m σ H ⟨rfl, hi, ρ2, R3, g3⟩
  by_cases lt : i < ps.length
  · have ep : ps[i]? = some ps[i] := List.getElem?_eq_getElem lt
    obtain ⟨jg, jy⟩ := wk.item G H σ ρ2 pd1 i _ (fun _ hx => hx) (fun _ _ e => e) R3 ep
    refine .inr ⟨jg, fun σ' H' => W (i + 1) (ps.length - (i + 1)) σ' H', fun σ' H' w => ⟨_, by omega, w⟩, fun x H' y => ?_⟩
    rw [List.drop_eq_getElem_cons lt] at g3
    refine q2 G H' σ ρ2 pd1 _ x _ _ (jy x H' y) g3 fun σ3 ρ3 H3 _ _ R4 g4 => ?_
    have e1 := e.more sb
    exact q3 G H3 σ3 ρ3 pd1 _ _ R4 g4 ⟨fun σ ρ H R h => ⟨rfl, lt, ρ, R, h⟩, e1.rt, e1.nx, fun σ ρ H R h => ⟨rfl, lt, ρ, R, h⟩⟩
  · have el : i = ps.length := by omega
    subst el
    rw [List.drop_length] at g3
    exact .inl ⟨wk.stop G H σ ρ2 pd1 _ (fun _ hx => hx) (fun _ _ e => e) R3 (Nat.le_refl _), (e.more sb).nx σ ρ2 H R3 g3⟩
theorem qs_for (hp : PassesOwn (model X.prog X.w) X.A X.env X.xe) (hc : X.calm = true) (hi : QI X tg iter ti) (hg : QG X tg sl g) (hb : QSs X body t)
    (hs : ∀ x, foldedSetIterable iter X.env x = pure x := by intro _; rfl) : QS X (.For tg iter body [] pos) (qFor ti g t) := by
  obtain ⟨wi, p1, q1⟩ := hi.ex
  obtain ⟨g1, p2, q2⟩ := hg.ex
  obtain ⟨t1, p3, q3⟩ := hb.ex
  refine ⟨_, ps_for hp hc p1 p2 p3 hs, fun G H σ ρ pd D' D R1 h e => ?_⟩
  exact q1 G H σ ρ pd _ _ R1 h fun J ps ρ1 pd1 H1 sb R2 wk go => for_walk q2 q3 sb R2 wk go e
def qWhile (c : QTT) (body : QTS) (D : PEnds) (ρ : En) : Prop := ∃ I : Nat → En → Prop, (∃ m, I m ρ) ∧ ∀ m ρ, I m ρ →
  c ρ fun b ρ1 => Br b (body { nx := fun ρ' => ∃ m', m' < m ∧ I m' ρ', rt := D.rt, bk := D.nx, ct := fun ρ' => ∃ m', m' < m ∧ I m' ρ' } ρ1) (D.nx ρ1)
theorem qs_while (hp : PassesOwn (model X.prog X.w) X.A X.env X.xe) (hc : QC X c tc) (hb : QSs X body t) : QS X (.While c body [] pos) (qWhile tc t) := by
  obtain ⟨t1, p1, q1⟩ := hc.ex
  obtain ⟨t2, p2, q2⟩ := hb.ex
  refine ⟨_, ps_while hp p1 p2, fun G H σ ρ pd D' D R1 h e => ?_⟩
  obtain ⟨I, ⟨m0, i0⟩, turn⟩ := h
  refine ⟨fun m σ H => ∃ ρ, RE X.K G H σ ρ pd ∧ I m ρ, ⟨m0, ρ, R1, i0⟩, ?_⟩
  rintro m σ H ⟨ρ2, R2, i2⟩
  refine q1 G H σ ρ2 pd _ _ R2 (turn m ρ2 i2) fun b ρ3 H3 R3 g => ?_
  cases b with
  | true =>
    refine ⟨fun σ' H' => ∃ m', m' < m ∧ ∃ ρ, RE X.K G H' σ' ρ pd ∧ I m' ρ, fun σ' H' h => h, ?_⟩
    exact q2 G H3 σ ρ3 pd _ _ R3 (g.1 rfl) ⟨fun σ ρ H R ⟨m', l, i⟩ => ⟨m', l, ρ, R, i⟩, e.rt, e.nx, fun σ ρ H R ⟨m', l, i⟩ => ⟨m', l, ρ, R, i⟩⟩
  | false => exact e.nx σ ρ3 H3 R3 (g.2 rfl)

/-! ### what a slot owns, changed -/
abbrev GM := PV → List PV → (PV → PV → Prop) → Prop
def RealM (K : PySem.W.Frag) (T : String) (r : V → List V → Hp → VK → Prop) (f : GM) : Prop := ∀ (H : Hp) (W : Addr → Prop) (p : PV) (a : Addr) (o : HO) (ps : List PV) (xs : List V) (Q : PV → PV → Prop) (F : VK), MutT H W → W a → H a = some o → OwnO K H W p o → Iss K H W ps xs → f p ps Q →
  (∀ v o' z p', OwnO K H W p' o' → Is K H W z v → Q z p' → F v (upd H a o')) → r (.ref a) xs H F
def MtP (X : Cx) (T : String) (id : String) (f : GM) : Prop := ∃ r, MtR X id r ∧ RealM X.K T r f
/-- what type a slot's own object has -/
def ownTy (T : String) (ρ : En) (i : Nat) : Prop := match ρ[i]? with
  | some (Sl.own _ (.lst _)) => T = "list"
  | some (Sl.own _ (.dic _ _)) => T = "dict"
  | _ => False
def qMut (T : String) (i : Nat) (f : GM) (ta : QTA) (ρ : En) (Q : PK1) : Prop := ownTy T ρ i ∧ ta ρ fun rs ρ1 => match vals rs, ρ1[i]? with
  | some ps, some (Sl.own b p) => f p ps fun z p' => isNst p' = false ∧ Q (.pv z) (ρ1.set i (.own b p'))
  | _, _ => False
theorem ty_own {K : PySem.W.Frag} {G : Gd} {H : Hp} {σ : L2.St} {ρ : En} {pd : Pds} {T : String} {i : Nat} {a : Addr} (R1 : RE K G H σ ρ pd) (h : ownTy T ρ i) (e : σ[i]? = some (some (V.ref a))) : tyV K T (.ref a) H := by
  unfold ownTy at h
  cases es : ρ[i]? with
  | none => rw [es] at h; exact h.elim
  | some s =>
    rw [es] at h
    cases s with
    | own b p =>
      obtain ⟨c, e1, _, o, e2, w⟩ := R1.own i b p es
      rw [e] at e1; cases e1
      cases p with
      | lst ps =>
        cases o with
        | lst vs => exact .inl ⟨h, vs, .inl (.inl e2)⟩
        | _ => exact w.elim
      | dic ks ps =>
        cases o with
        | dK kvs => exact .inr (.inr (.inl ⟨h, .inl ⟨kvs, e2⟩⟩))
        | _ => exact w.elim
      | _ => exact h.elim
    | _ => exact h.elim
theorem own_at {ρ : En} {T : String} {i : Nat} (h : ownTy T ρ i) : ∃ b p, ρ[i]? = some (Sl.own b p) := by
  unfold ownTy at h
  cases es : ρ[i]? with
  | none => rw [es] at h; exact h.elim
  | some s =>
    rw [es] at h
    cases s with
    | own b p => exact ⟨b, p, rfl⟩
    | _ => exact h.elim
theorem rz_mut {K : PySem.W.Frag} {T : String} {i : Nat} {r : V → List V → Hp → VK → Prop} {f : GM} (hr : RealM K T r f) {G : Gd} {H H1 : Hp} {σ : L2.St} {ρ ρ1 : En} {pd pd1 : Pds} {rs : List R} {vs : List V} {a : Addr} {Q : PK1} {F : VK} (sb : ∀ x ∈ pd, x ∈ pd1) (e : σ[i]? = some (some (V.ref a)))
    (R2 : RE K G H1 σ ρ1 pd1) (ar : ArgsR σ pd1 rs vs) (g : match vals rs, ρ1[i]? with
      | some ps, some (Sl.own b p) => f p ps fun z p' => isNst p' = false ∧ Q (.pv z) (ρ1.set i (.own b p'))
      | _, _ => False) (ff : ∀ r ρ' v H', Res K G H' σ ρ' pd r v → Q r ρ' → F v H') : r (.ref a) vs H1 F := by
  cases ev : vals rs with
  | none => rw [ev] at g; exact g.elim
  | some ps =>
    cases es : ρ1[i]? with
    | none => rw [ev, es] at g; exact g.elim
    | some s =>
      rw [ev, es] at g
      cases s with
      | un => exact g.elim
      | val p => exact g.elim
      | own b p =>
        obtain ⟨c, e1, k, o, e2, w⟩ := R2.own i b p es
        rw [e] at e1; cases e1
        have Wa : WS G σ ρ1 a := .inr ⟨i, b, p, es, e⟩
        refine hr H1 _ p a o ps vs _ F R2.mut Wa e2 w (vals_iss R2 ar ev) g fun v o' z p' w' hz hq => ?_
        exact ff (.pv z) _ v _ (((R2.push hz).mutate es e w' fun c s z2 => by rw [z2] at hq; cases hq.1).pds fun x hx => by
          rcases List.mem_cons.mp hx with e | hx
          · rw [e]; exact List.mem_cons_self
          · exact List.mem_cons_of_mem _ (sb x hx)) hq.2
section
variable {T id name : String} {x : Str} {ar : Expr} {es : List Expr} {ta : QTA} {f : GM} {apos npos cpos : Pos}
theorem qe_mut {nm : Str} (i : Nat) (hm : MtP X T id f) (pa : PlainAttrs T) (slot : Slot T nm id) (hty : typeOf (.builtin id) = pure (.type "method_descriptor")) (ha : QA X (ar :: es) ta) (hN : X.N[i]? = some x := by rfl) (hv : Vis X.env.scope x := by first | exact Or.inl rfl | exact Or.inr (Or.inl rfl) | exact Or.inr (Or.inr rfl)) (hd : (x == ("__debug__" : Str)) = false := by decide)
    (hcd : (x == ("__classdict__" : Str)) = false := by decide)
    (hbase : attributeBase (.Name x npos) nm X.env (eval (.Name x npos) X.env) = eval (.Name x npos) X.env := by rfl)
    (hfew : ((backTo cpos (starEach (ar :: es) X.env)).all (fun x => !x.1) && (backToKw cpos (keywordEach [] X.env)).all (fun x => x.1.isSome)
      && decide ((ar :: es).length + ([] : List Keyword).length + (if ([] : List Keyword).isEmpty then 0 else 1) < 30)) = true := by rfl)
    (hline : (apos.endLine == cpos.line) = true := by rfl) (hs : starEach (ar :: es) X.env = (false, eval ar X.env) :: starEach es X.env := by rfl) (hplain : (backTo cpos (starEach es X.env)).any (·.1) = false := by rfl) :
    QE X (.Call (.Attribute (.Name x npos) nm apos) (ar :: es) [] cpos) (qMut T i f ta) := by
  obtain ⟨r, h1, h2⟩ := hm
  obtain ⟨t, p, q⟩ := ha.ex
  refine ⟨_, pe_bm pa slot hty h1 (pe_var hN hv hd hcd) p hbase hfew hline hs hplain, fun G H σ ρ pd Q F R1 h ff => ?_⟩
  obtain ⟨b, p0, e0⟩ := own_at h.1
  obtain ⟨a, e, _⟩ := R1.own i b p0 e0
  refine ⟨.ref a, e, ty_own R1 h.1 e, ?_⟩
  exact q G H σ ρ pd _ _ R1 h.2 fun rs ρ1 pd1 vs H1 sb R2 ar g => rz_mut h2 (H := H) (ρ := ρ) sb e R2 ar g ff
theorem qe_mut0 {nm : Str} (i : Nat) (hm : MtP X T id f) (pa : PlainAttrs T) (slot : Slot T nm id) (hty : typeOf (.builtin id) = pure (.type "method_descriptor")) (hN : X.N[i]? = some x := by rfl) (hv : Vis X.env.scope x := by first | exact Or.inl rfl | exact Or.inr (Or.inl rfl) | exact Or.inr (Or.inr rfl)) (hd : (x == ("__debug__" : Str)) = false := by decide)
    (hcd : (x == ("__classdict__" : Str)) = false := by decide)
    (hbase : attributeBase (.Name x npos) nm X.env (eval (.Name x npos) X.env) = eval (.Name x npos) X.env := by rfl) (hline : (apos.endLine == cpos.line) = true := by rfl) :
    QE X (.Call (.Attribute (.Name x npos) nm apos) [] [] cpos) (qMut T i f qNil) := by
  obtain ⟨r, h1, h2⟩ := hm
  refine ⟨_, pe_bm0 pa slot hty h1 (pe_var hN hv hd hcd) hbase hline, fun G H σ ρ pd Q F R1 h ff => ?_⟩
  obtain ⟨b, p0, e0⟩ := own_at h.1
  obtain ⟨a, e, _⟩ := R1.own i b p0 e0
  refine ⟨.ref a, e, ty_own R1 h.1 e, ?_⟩
  exact rz_mut h2 (H := H) (ρ := ρ) (fun _ hx => hx) e R1 .nil h.2 ff
end
def gAppend (p : PV) (ps : List PV) (Q : PV → PV → Prop) : Prop := match p, ps with
  | .lst xs, [q] => small (xs.length + 1) ∧ Q .non (.lst (xs ++ [q]))
  | _, _ => False
theorem gAppend_inv {p : PV} {ps : List PV} {Q : PV → PV → Prop} (g : gAppend p ps Q) : ∃ xs q, p = .lst xs ∧ ps = [q] ∧ small (xs.length + 1) ∧ Q .non (.lst (xs ++ [q])) := by
  unfold gAppend at g
  split at g
  · exact ⟨_, _, rfl, rfl, g⟩
  · exact g.elim
theorem OwnO.lst {K : PySem.W.Frag} {H : Hp} {W : Addr → Prop} {ps : List PV} {o : HO} (w : OwnO K H W (.lst ps) o) : ∃ vs, o = .lst vs ∧ Iss K H W ps vs := by
  cases o with
  | lst vs => exact ⟨vs, rfl, w⟩
  | _ => exact w.elim
theorem Iss.one {K : PySem.W.Frag} {H : Hp} {W : Addr → Prop} {p : PV} {xs : List V} (i : Iss K H W [p] xs) : ∃ v, xs = [v] ∧ Is K H W p v := by
  obtain ⟨v, r, rfl, h1, h2⟩ := i
  cases (show r = [] from h2)
  exact ⟨v, rfl, h1⟩
theorem m_append : MtP X "list" "list.append" gAppend := by
  refine ⟨_, mt_append, fun H W p a o ps xs Q F m wa e w i g f => ?_⟩
  obtain ⟨qs, q, rfl, rfl, sm, g⟩ := gAppend_inv g
  obtain ⟨vs, rfl, w⟩ := w.lst
  obtain ⟨v, rfl, h1⟩ := i.one
  exact ⟨a, vs, v, rfl, rfl, e, by have z := small_lt sm; rw [w.length] at z; exact z, f .non (.lst (vs ++ [v])) .non (.lst (qs ++ [q])) (Iss.append w (Iss.cons h1 Iss.nil)) rfl g⟩
def gExtend (p : PV) (ps : List PV) (Q : PV → PV → Prop) : Prop := match p, ps with
  | .lst xs, [.lst ys] => small (xs.length + ys.length) ∧ Q .non (.lst (xs ++ ys))
  | .lst xs, [.tup ys] => small (xs.length + ys.length) ∧ Q .non (.lst (xs ++ ys))
  | _, _ => False
theorem MtR.or' {id : String} {r r' : V → List V → Hp → VK → Prop} (h : MtR X id r) (h' : MtR X id r') : MtR X id (fun x xs H Q => r x xs H Q ∨ r' x xs H Q) := MtR.or h h'
theorem gExtend_inv {p : PV} {ps : List PV} {Q : PV → PV → Prop} (g : gExtend p ps Q) : ∃ xs ys, p = .lst xs ∧ (ps = [.lst ys] ∨ ps = [.tup ys]) ∧ small (xs.length + ys.length) ∧ Q .non (.lst (xs ++ ys)) := by
  unfold gExtend at g
  split at g
  · exact ⟨_, _, rfl, .inl rfl, g⟩
  · exact ⟨_, _, rfl, .inr rfl, g⟩
  · exact g.elim
theorem m_extend : MtP X "list" "list.extend" gExtend := by
  refine ⟨_, MtR.or' mt_extend mt_extT, fun H W p a o ps xs Q F m wa e w i g f => ?_⟩
  obtain ⟨qs, ys, rfl, hp, sm, g'⟩ := gExtend_inv g
  obtain ⟨vs, rfl, w⟩ := w.lst
  rcases hp with rfl | rfl
  · obtain ⟨v, rfl, h1⟩ := i.one
    obtain ⟨b, us, rfl, n, hb, hu⟩ : ∃ b us, v = .ref b ∧ ¬ W b ∧ H b = some (.lst us) ∧ Iss X.K H W ys us := h1
    exact .inl ⟨a, b, vs, us, rfl, rfl, e, hb, by have z := small_le sm; rw [w.length, hu.length] at z; exact z, f .non (.lst (vs ++ us)) .non (.lst (qs ++ ys)) (Iss.append w hu) rfl g'⟩
  · obtain ⟨v, rfl, h1⟩ := i.one
    obtain ⟨b, us, rfl, hb, hu⟩ : ∃ b us, v = .ref b ∧ H b = some (.tup us) ∧ Iss X.K H W ys us := h1
    exact .inr ⟨a, b, vs, us, rfl, rfl, e, .inl (.inl hb), by have z := small_le sm; rw [w.length, hu.length] at z; exact z, f .non (.lst (vs ++ us)) .non (.lst (qs ++ ys)) (Iss.append w hu) rfl g'⟩
def gPop (p : PV) (ps : List PV) (Q : PV → PV → Prop) : Prop := match p, ps with
  | .lst xs, [] => match xs.getLast? with
    | some q => Q q (.lst xs.dropLast)
    | none => False
  | _, _ => False
theorem Iss.dropLast {K : PySem.W.Frag} {H : Hp} {W : Addr → Prop} {ps : List PV} {vs : List V} (h : Iss K H W ps vs) : Iss K H W ps.dropLast vs.dropLast := by
  rw [List.dropLast_eq_take, List.dropLast_eq_take, h.length]
  exact h.take _
theorem gPop_inv {p : PV} {ps : List PV} {Q : PV → PV → Prop} (g : gPop p ps Q) : ∃ xs q, p = .lst xs ∧ ps = [] ∧ xs.getLast? = some q ∧ Q q (.lst xs.dropLast) := by
  unfold gPop at g
  split at g
  · split at g
    · rename_i h; exact ⟨_, _, rfl, rfl, h, g⟩
    · exact g.elim
  · exact g.elim
theorem m_pop : MtP X "list" "list.pop" gPop := by
  refine ⟨_, mt_pop, fun H W p a o ps xs Q F m wa e w i g f => ?_⟩
  obtain ⟨qs, q, rfl, rfl, eq, g⟩ := gPop_inv g
  obtain ⟨vs, rfl, w⟩ := w.lst
  cases (show xs = [] from i)
  rw [List.getLast?_eq_getElem?] at eq
  obtain ⟨v, hv, hi⟩ := w.getP eq
  exact ⟨a, vs, v, rfl, rfl, e, by rw [← w.length]; exact hv, f v (.lst vs.dropLast) q (.lst qs.dropLast) (Iss.dropLast w) hi g⟩
def isOwn (ρ : En) (i : Nat) : Prop := match ρ[i]? with
  | some (Sl.own _ _) => True
  | _ => False
theorem isOwn.ex {ρ : En} {i : Nat} (h : isOwn ρ i) : ∃ b p, ρ[i]? = some (Sl.own b p) := by
  unfold isOwn at h
  cases es : ρ[i]? with
  | none => rw [es] at h; exact h.elim
  | some s =>
    rw [es] at h
    cases s with
    | own b p => exact ⟨b, p, rfl⟩
    | _ => exact h.elim
/-- xs[k] = e, xs a slot's own list -/
def qSetIx (i : Nat) (t ti : QT) (D : PEnds) (ρ : En) : Prop := t ρ fun r ρ1 => match r.wk with
  | .pv q => isOwn ρ1 i ∧ ti ρ1 fun r2 ρ2 => match ρ2[i]? with
    | some (Sl.own b (.lst ps)) => match r2 with
      | .pv (.int k) => match ixN ps.length k with
        | some j => D.nx (ρ2.set i (.own b (.lst (ps.set j q))))
        | none => False
      | _ => False
    | some (Sl.own b (.dic ks ps)) => match r2 with
      | .pv p => match keyP p with
        | some k => small (ks.length + 1) ∧ D.nx (ρ2.set i (.own b (.dic (putKs ks k) (putPs ks ps k q))))
        | none => False
      | _ => False
    | _ => False
  | _ => False
theorem qs_setIx {x : Str} {ix : Expr} {tix : QT} {npos spos' : Pos} (hu : X.A.units + 65 < cLine) (i : Nat) (he : QE X e te) (hi : QE X ix tix) (hN : X.N[i]? = some x := by rfl) (hv : Vis X.env.scope x := by first | exact Or.inl rfl | exact Or.inr (Or.inl rfl) | exact Or.inr (Or.inr rfl)) (hd : (x == ("__debug__" : Str)) = false := by decide)
    (hcd : (x == ("__classdict__" : Str)) = false := by decide)
    (ha : ∀ v, assign (.Subscript (.Name x npos) ix spos') X.env v = (do
      let ov ← holding [v] (eval (.Name x npos) X.env)
      let iv ← holding [v, ov] (eval ix X.env)
      standAt spos'
      holding [v, ov, iv] (setItem ov iv v)
      release [v, ov, iv] []) := by intro _; rfl)
    (hs : swapsWithSole [.Subscript (.Name x npos) ix spos'] e pos.line X.env = pure false := by rfl) (hw : swappedStores [.Subscript (.Name x npos) ix spos'] e X.env = pure none := by rfl)
    (h1 : (assignEach [.Subscript (.Name x npos) ix spos'] X.env).map (·.2) = [assign (.Subscript (.Name x npos) ix spos') X.env] := by rfl) :
    QS X (.Assign [.Subscript (.Name x npos) ix spos'] e pos) (qSetIx i te tix) := by
  obtain ⟨t, p, q⟩ := he.ex
  obtain ⟨t2, p2, q2⟩ := hi.ex
  refine ⟨_, ps_asg p (pg_sub (pe_var hN hv hd hcd) p2 (PSet.or set_list (set_dict hu)) ha) hs hw h1, fun G H σ ρ pd D' D R1 h ee => ?_⟩
  refine q G H σ ρ pd _ _ R1 h fun r ρ1 v H1 s g => ?_
  have s' := s.wk
  cases er : r.wk with
  | sl j => rw [er] at g; exact g.elim
  | fr p => rw [er] at g; exact g.elim
  | pv qv =>
    rw [er] at s' g
    have R2 : RE X.K G H1 σ ρ1 ((qv, v) :: pd) := s'
    obtain ⟨ho, g⟩ := g
    obtain ⟨b0, p0, e0⟩ := ho.ex
    obtain ⟨a, ea, _⟩ := R2.own i b0 p0 e0
    refine ⟨.ref a, ea, ?_⟩
    refine q2 G H1 σ ρ1 _ _ _ R2 g fun r2 ρ2 kv H2 s2 g2 => ?_
    cases es : ρ2[i]? with
    | none => rw [es] at g2; exact g2.elim
    | some sv =>
      rw [es] at g2
      cases sv with
      | un => exact g2.elim
      | val p => exact g2.elim
      | own b pp =>
        cases r2 with
        | sl _ => cases pp <;> exact g2.elim
        | fr _ => cases pp <;> exact g2.elim
        | pv kp =>
        have R3 : RE X.K G H2 σ ρ2 ((kp, kv) :: (qv, v) :: pd) := s2
        have hv : Is X.K H2 (WS G σ ρ2) qv v := R3.pd (qv, v) (List.mem_cons_of_mem _ List.mem_cons_self)
        obtain ⟨c, ec, k0, o, Hc, w⟩ := R3.own i b _ es
        rw [ea] at ec; cases ec
        cases pp with
        | lst ps =>
          cases kp with
          | int k =>
            have ek : kv = .int k := R3.pd (.int k, kv) List.mem_cons_self
            subst ek
            cases o with
            | lst vs =>
              have w' : Iss X.K H2 (WS G σ ρ2) ps vs := w
              have g3 : match ixN ps.length k with
                | some j => D'.nx (ρ2.set i (.own b (.lst (ps.set j qv))))
                | none => False := g2
              cases ej : ixN ps.length k with
              | none => rw [ej] at g3; exact g3.elim
              | some j =>
                rw [ej] at g3
                refine .inl ⟨a, vs, k, j, rfl, rfl, Hc, by rw [← w'.length]; exact ej, ?_⟩
                exact ee.nx _ _ _ ((R3.tl.tl).mutate es ea (o' := .lst (vs.set j v)) (p' := .lst (ps.set j qv)) (Iss.set hv j w') fun _ _ z => by cases z) g3
            | _ => exact w.elim
          | _ => exact g2.elim
        | dic ks ps =>
          have g3 : match keyP kp with
            | some k => small (ks.length + 1) ∧ D'.nx (ρ2.set i (.own b (.dic (putKs ks k) (putPs ks ps k qv))))
            | none => False := g2
          cases ek : keyP kp with
          | none => rw [ek] at g3; exact g3.elim
          | some k =>
            rw [ek] at g3
            obtain ⟨sm, g3⟩ := g3
            have hk : Is X.K H2 (WS G σ ρ2) kp kv := R3.pd (kp, kv) List.mem_cons_self
            obtain ⟨e5, ko⟩ := keyP_is hk ek
            cases o with
            | dK kvs =>
              obtain ⟨vs, e6, le, ok, w'⟩ : ∃ vs, kvs = ks.zip vs ∧ ks.length = vs.length ∧ ks.all keyOk = true ∧ Iss X.K H2 (WS G σ ρ2) ps vs := w
              subst e6
              obtain ⟨e7, e8⟩ := put_zip (j := k) (v := v) le
              refine .inr ⟨a, _, k, rfl, e5, Hc, by rw [zip_len le]; exact small_lt sm, ?_⟩
              exact ee.nx _ _ _ ((R3.tl.tl).mutate es ea (o' := .dK (putK (ks.zip vs) k v)) (p' := .dic (putKs ks k) (putPs ks ps k qv)) ⟨putPs ks vs k v, e7, e8, putKs_ok ok ko, putPs_is w' hv⟩ fun _ _ z => by cases z) g3
            | _ => exact w.elim
        | _ => exact g2.elim
end
end Px
namespace Px
open PySem L2 PyProof.Rows

/-! ### what a def is promised to do. io: which parameters the caller owns and the def may change; fr: the answer is a new object -/
structure FS where
  io : List Bool
  fr : Bool := false
  pre : List PV → Prop
  post : List PV → PV → List PV → Prop
def mk (io : List Bool) (ps : List PV) : En := List.zipWith (fun b p => if b = true then Sl.own true p else Sl.val p) io ps
def outsOf : List Bool → En → List PV
  | true :: fs, .own _ p :: ρ => p :: outsOf fs ρ
  | true :: fs, _ :: ρ => .non :: outsOf fs ρ
  | false :: fs, _ :: ρ => outsOf fs ρ
  | true :: fs, [] => .non :: outsOf fs []
  | false :: fs, [] => outsOf fs []
  | [], _ => []
/-- the outs by parameter -/
def sel : List Bool → List PV → List (Option PV)
  | true :: fs, q :: qs => some q :: sel fs qs
  | true :: fs, [] => none :: sel fs []
  | false :: fs, qs => none :: sel fs qs
  | [], _ => []
def Iob (io : List Bool) (vs : List V) (b : Addr) : Prop := ∃ i : Nat, io[i]? = some true ∧ vs[i]? = some (V.ref b)
open Classical in
noncomputable def G0 (H : Hp) (io : List Bool) (vs : List V) (ex vo : Addr → Prop) : Gd := ⟨fun b => if Iob io vs b ∨ vo b then none else H b, ex, fun i a => io[i]? = some true ∧ vs[i]? = some (V.ref a), vo⟩
theorem G0_no {H : Hp} {io : List Bool} {vs : List V} {ex vo : Addr → Prop} {b : Addr} (h : Iob io vs b) : (G0 H io vs ex vo).keep b = none := if_pos (.inl h)
theorem G0_vo {H : Hp} {io : List Bool} {vs : List V} {ex vo : Addr → Prop} {b : Addr} (h : vo b) : (G0 H io vs ex vo).keep b = none := if_pos (.inr h)
theorem G0_yes {H : Hp} {io : List Bool} {vs : List V} {ex vo : Addr → Prop} {b : Addr} (h : ¬ Iob io vs b) (h2 : ¬ vo b) : (G0 H io vs ex vo).keep b = H b := if_neg (fun z => z.elim h h2)
theorem G0_of {H : Hp} {io : List Bool} {vs : List V} {ex vo : Addr → Prop} {b : Addr} {o : HO} (e : (G0 H io vs ex vo).keep b = some o) : ¬ Iob io vs b ∧ ¬ vo b ∧ H b = some o := by
  have n : ¬ Iob io vs b := fun z => by rw [G0_no z] at e; cases e
  have n2 : ¬ vo b := fun z => by rw [G0_vo z] at e; cases e
  rw [G0_yes n n2] at e
  exact ⟨n, n2, e⟩
/-- what the caller may count on, behind the call -/
structure Fin (K : PySem.W.Frag) (S : FS) (H : Hp) (ex vo : Addr → Prop) (vs : List V) (v : V) (H' : Hp) (r : PV) (outs : List PV) : Prop where
  keep : ∀ b o, H b = some o → ¬ Iob S.io vs b → ¬ vo b → H' b = some o
  vok : ∀ b, vo b → IntsAt H' b
  nstk : ∀ (i c : Nat) (s : Int), (sel S.io outs)[i]? = some (some (.nst false c s)) → vo c
  outs : ∀ (i : Nat) (q : PV) (a : Addr), (sel S.io outs)[i]? = some (some q) → vs[i]? = some (V.ref a) → Own K H' (fun b => ex b ∨ Iob S.io vs b ∨ (S.fr = true ∧ v = .ref b)) q a
  res : S.fr = false → Is K H' (fun b => ex b ∨ Iob S.io vs b) r v
  new : S.fr = true → ∃ a o, v = .ref a ∧ H a = none ∧ H' a = some o ∧ OwnO K H' (fun b => ex b ∨ Iob S.io vs b ∨ (S.fr = true ∧ v = .ref b)) r o
def spP (K : PySem.W.Frag) (S : FS) : Sp := fun vs H Q _ => ∃ (ps : List PV) (ex vo : Addr → Prop), ps.length = S.io.length ∧ vs.length = S.io.length ∧ RE K (G0 H S.io vs ex vo) H (vs.map some) (mk S.io ps) [] ∧ S.pre ps ∧
  ∀ v H' r outs, S.post ps r outs → outs.length = (S.io.filter id).length → Fin K S H ex vo vs v H' r outs → Q v H'

/-! ### a call -/
def splitArgs (ρ : En) : List Bool → List R → Option (List PV × List Nat)
  | [], [] => some ([], [])
  | false :: fs, .pv p :: rs => match splitArgs ρ fs rs with
    | some (ps, js) => some (p :: ps, js)
    | none => none
  | true :: fs, .sl j :: rs => match ρ[j]?, splitArgs ρ fs rs with
    | some (Sl.own _ p), some (ps, js) => some (p :: ps, j :: js)
    | _, _ => none
  | _, _ => none
def setOwn (ρ : En) (j : Nat) (q : PV) : En := match ρ[j]? with
  | some (Sl.own b _) => ρ.set j (Sl.own b q)
  | _ => ρ
def putOuts : List Nat → List PV → En → En
  | j :: js, q :: qs, ρ => putOuts js qs (setOwn ρ j q)
  | _, _, ρ => ρ
def callR (S : FS) (rs : List R) (ρ1 : En) (Q : PK1) (_ : Dum Q) : Prop := match splitArgs ρ1 S.io rs with
  | some (ps, js) => js.Nodup ∧ S.pre ps ∧ ∀ r outs, S.post ps r outs → outs.length = js.length → Q (if S.fr = true then .fr r else .pv r) (putOuts js outs ρ1)
  | none => False
def qCall (S : FS) (ta : QTA) (ρ : En) (Q : PK1) : Prop := ta ρ fun rs ρ1 => callR S rs ρ1 Q .mk
theorem putOuts_spec : ∀ {js : List Nat} {qs : List PV} {ρ : En}, js.Nodup → qs.length = js.length → (∀ j ∈ js, ∃ b p, ρ[j]? = some (Sl.own b p)) →
    (putOuts js qs ρ).length = ρ.length ∧ (∀ i : Nat, i ∉ js → (putOuts js qs ρ)[i]? = ρ[i]?) ∧ ∀ (k j : Nat) (q : PV), js[k]? = some j → qs[k]? = some q → ∃ b p, ρ[j]? = some (Sl.own b p) ∧ (putOuts js qs ρ)[j]? = some (Sl.own b q)
  | [], qs, ρ, _, l, _ => by
    cases qs with
    | nil => exact ⟨rfl, fun _ _ => rfl, fun k j q e => by simp at e⟩
    | cons _ _ => simp at l
  | j :: js, [], ρ, _, l, _ => by simp at l
  | j :: js, q :: qs, ρ, nd, l, o => by
    obtain ⟨b, p, e⟩ := o j List.mem_cons_self
    have nj : j ∉ js := (List.nodup_cons.mp nd).1
    have es : setOwn ρ j q = ρ.set j (Sl.own b q) := by unfold setOwn; rw [e]
    have lj : j < ρ.length := (List.getElem?_eq_some_iff.mp e).1
    have ih := putOuts_spec (js := js) (qs := qs) (ρ := ρ.set j (Sl.own b q)) (List.nodup_cons.mp nd).2 (by simpa using l) (fun i hi => by
      have ne : j ≠ i := fun z => nj (by rw [z]; exact hi)
      rw [ix_ne ne]
      exact o i (List.mem_cons_of_mem _ hi))
    unfold putOuts
    rw [es]
    refine ⟨by rw [ih.1, List.length_set], fun i hi => ?_, fun k m q' e1 e2 => ?_⟩
    · rw [ih.2.1 i fun z => hi (List.mem_cons_of_mem _ z)]
      exact ix_ne fun z => hi (by rw [z]; exact List.mem_cons_self)
    · cases k with
      | zero =>
        cases e1
        cases e2
        exact ⟨b, p, e, by rw [ih.2.1 _ nj, List.getElem?_set_self lj]⟩
      | succ k =>
        obtain ⟨b', p', h1, h2⟩ := ih.2.2 k m q' (by simpa using e1) (by simpa using e2)
        have ne : j ≠ m := fun z => nj (by rw [z]; exact List.mem_of_getElem? (i := k) (by simpa using e1))
        rw [ix_ne ne] at h1
        exact ⟨b', p', h1, h2⟩
/-- the arguments, one by one: a value, or the j-th slot that the caller owns -/
inductive Spl (σ : L2.St) (ρ : En) (pd : Pds) : List Bool → List V → List PV → List Nat → Prop where
  | nil : Spl σ ρ pd [] [] [] []
  | val {fs : List Bool} {v : V} {vs : List V} {p : PV} {ps : List PV} {js : List Nat} (h : (p, v) ∈ pd) (t : Spl σ ρ pd fs vs ps js) : Spl σ ρ pd (false :: fs) (v :: vs) (p :: ps) js
  | own {fs : List Bool} {v : V} {vs : List V} {p : PV} {ps : List PV} {j : Nat} {js : List Nat} {b : Bool} (e : ρ[j]? = some (Sl.own b p)) (h : σ[j]? = some (some v)) (t : Spl σ ρ pd fs vs ps js) : Spl σ ρ pd (true :: fs) (v :: vs) (p :: ps) (j :: js)
theorem spl_of {σ : L2.St} {ρ : En} {pd : Pds} : ∀ {fs : List Bool} {rs : List R} {vs : List V} {ps : List PV} {js : List Nat}, ArgsR σ pd rs vs → splitArgs ρ fs rs = some (ps, js) → Spl σ ρ pd fs vs ps js
  | [], [], _, _, _, a, e => by cases a; cases e; exact .nil
  | [], _ :: _, _, _, _, a, e => by simp [splitArgs] at e
  | false :: fs, [], _, _, _, a, e => by simp [splitArgs] at e
  | true :: fs, [], _, _, _, a, e => by simp [splitArgs] at e
  | false :: fs, r :: rs, _, _, _, a, e => by
    cases r with
    | pv p =>
      cases a with
      | cons h t =>
        unfold splitArgs at e
        cases e1 : splitArgs ρ fs rs with
        | none => rw [e1] at e; cases e
        | some x => rw [e1] at e; cases e; exact .val h (spl_of t e1)
    | _ => simp [splitArgs] at e
  | true :: fs, r :: rs, _, _, _, a, e => by
    cases r with
    | sl j =>
      cases a with
      | cons h t =>
        unfold splitArgs at e
        cases e2 : ρ[j]? with
        | none => rw [e2] at e; simp at e
        | some s =>
          rw [e2] at e
          cases s with
          | own b p =>
            cases e1 : splitArgs ρ fs rs with
            | none => rw [e1] at e; simp at e
            | some x => rw [e1] at e; cases e; exact .own e2 h (spl_of t e1)
          | _ => simp at e
    | _ => simp [splitArgs] at e
theorem Spl.len {σ : L2.St} {ρ : En} {pd : Pds} {fs : List Bool} {vs : List V} {ps : List PV} {js : List Nat} (s : Spl σ ρ pd fs vs ps js) : vs.length = fs.length ∧ ps.length = fs.length ∧ js.length = (fs.filter id).length := by
  induction s with
  | nil => exact ⟨rfl, rfl, rfl⟩
  | val _ _ ih => exact ⟨by simp [ih.1], by simp [ih.2.1], by simp [ih.2.2]⟩
  | own _ _ _ ih => exact ⟨by simp [ih.1], by simp [ih.2.1], by simp [ih.2.2]⟩
theorem Spl.get {σ : L2.St} {ρ : En} {pd : Pds} {fs : List Bool} {vs : List V} {ps : List PV} {js : List Nat} (s : Spl σ ρ pd fs vs ps js) : ∀ {i : Nat} {b : Bool} {p : PV}, fs[i]? = some b → ps[i]? = some p → ∃ v, vs[i]? = some v ∧
    (b = false → (p, v) ∈ pd) ∧ (b = true → ∃ (j : Nat) (c : Bool), j ∈ js ∧ ρ[j]? = some (Sl.own c p) ∧ σ[j]? = some (some v)) := by
  induction s with
  | nil => intro i b p e; simp at e
  | val h t ih =>
    intro i b p e1 e2
    cases i with
    | zero => cases e1; cases e2; exact ⟨_, rfl, fun _ => h, (fun z => nomatch z)⟩
    | succ i => simpa using ih (i := i) (by simpa using e1) (by simpa using e2)
  | own e h t ih =>
    intro i b p e1 e2
    cases i with
    | zero => cases e1; cases e2; exact ⟨_, rfl, (fun z => nomatch z), fun _ => ⟨_, _, List.mem_cons_self, e, h⟩⟩
    | succ i =>
      obtain ⟨v, h1, h2, h3⟩ := ih (i := i) (by simpa using e1) (by simpa using e2)
      exact ⟨v, by simpa using h1, h2, fun z => let ⟨j, c, m, r⟩ := h3 z; ⟨j, c, List.mem_cons_of_mem _ m, r⟩⟩
/-- the k-th owned slot and its parameter -/
theorem Spl.io {σ : L2.St} {ρ : En} {pd : Pds} {fs : List Bool} {vs : List V} {ps : List PV} {js : List Nat} (s : Spl σ ρ pd fs vs ps js) : ∀ {outs : List PV} {k j : Nat} {q : PV}, js[k]? = some j → outs[k]? = some q → ∃ (i : Nat) (v : V), fs[i]? = some true ∧ vs[i]? = some v ∧ σ[j]? = some (some v) ∧ (sel fs outs)[i]? = some (some q) := by
  induction s with
  | nil => intro outs k j q e; simp at e
  | val h t ih =>
    intro outs k j q e1 e2
    obtain ⟨i, v, h1, h2, h3, h4⟩ := ih e1 e2
    exact ⟨i + 1, v, by simpa using h1, by simpa using h2, h3, by simpa [sel] using h4⟩
  | own e h t ih =>
    intro outs k j q e1 e2
    cases outs with
    | nil => simp at e2
    | cons o outs =>
      cases k with
      | zero => cases e1; cases e2; exact ⟨0, _, rfl, rfl, h, rfl⟩
      | succ k =>
        obtain ⟨i, v, h1, h2, h3, h4⟩ := ih (outs := outs) (k := k) (by simpa using e1) (by simpa using e2)
        exact ⟨i + 1, v, by simpa using h1, by simpa using h2, h3, by simpa [sel] using h4⟩
theorem Spl.js {σ : L2.St} {ρ : En} {pd : Pds} {fs : List Bool} {vs : List V} {ps : List PV} {js : List Nat} (s : Spl σ ρ pd fs vs ps js) : ∀ j ∈ js, ∃ b p, ρ[j]? = some (Sl.own b p) := by
  induction s with
  | nil => intro j hj; simp at hj
  | val _ _ ih => exact ih
  | own e _ _ ih =>
    intro j hj
    rcases List.mem_cons.mp hj with rfl | hj
    · exact ⟨_, _, e⟩
    · exact ih j hj
/-- slot and place apart -/
theorem Spl.same {K : PySem.W.Frag} {G : Gd} {H : Hp} {σ : L2.St} {ρ : En} {pd pd0 : Pds} (R1 : RE K G H σ ρ pd0) {fs : List Bool} {vs : List V} {ps : List PV} {js : List Nat} (s : Spl σ ρ pd fs vs ps js) (nd : js.Nodup) : ∀ {i j : Nat} {a : Addr}, fs[i]? = some true → fs[j]? = some true → vs[i]? = some (V.ref a) → vs[j]? = some (V.ref a) → i = j := by
  induction s with
  | nil => intro i j a e; simp at e
  | val h t ih =>
    intro i j a e1 e2 e3 e4
    cases i with
    | zero => simp at e1
    | succ i =>
      cases j with
      | zero => simp at e2
      | succ j => rw [ih nd (i := i) (j := j) (by simpa using e1) (by simpa using e2) (by simpa using e3) (by simpa using e4)]
  | @own fs v vs p ps m js b e h t ih =>
    intro i j a e1 e2 e3 e4
    have back : ∀ {i : Nat} {a : Addr}, fs[i]? = some true → vs[i]? = some (V.ref a) → v = .ref a → False := fun {i a} f1 f2 f3 => by
      obtain ⟨l1, l2, _⟩ := t.len
      have li : i < ps.length := by rw [l2]; exact (List.getElem?_eq_some_iff.mp f1).1
      obtain ⟨v', g1, _, g2⟩ := t.get f1 (List.getElem?_eq_getElem li)
      obtain ⟨j', c, mj, g3, g4⟩ := g2 rfl
      rw [f2] at g1; cases g1
      subst f3
      have z := R1.inj m j' b c _ _ a e g3 h g4
      exact (List.nodup_cons.mp nd).1 (by rw [z]; exact mj)
    cases i with
    | zero =>
      cases j with
      | zero => rfl
      | succ j =>
        simp at e3
        exact (back (by simpa using e2) (by simpa using e4) e3).elim
    | succ i =>
      cases j with
      | zero =>
        simp at e4
        exact (back (by simpa using e1) (by simpa using e3) e4).elim
      | succ j => rw [ih (List.nodup_cons.mp nd).2 (i := i) (j := j) (by simpa using e1) (by simpa using e2) (by simpa using e3) (by simpa using e4)]
theorem mk_get {io : List Bool} {ps : List PV} {i : Nat} {s : Sl} (h : (mk io ps)[i]? = some s) : ∃ b p, io[i]? = some b ∧ ps[i]? = some p ∧ s = if b = true then Sl.own true p else Sl.val p := by
  unfold mk at h
  rw [List.getElem?_zipWith] at h
  cases e1 : io[i]? with
  | none => rw [e1] at h; simp at h
  | some b =>
    cases e2 : ps[i]? with
    | none => rw [e1, e2] at h; simp at h
    | some p => rw [e1, e2] at h; exact ⟨b, p, rfl, rfl, by simpa using h.symm⟩
theorem mk_own {io : List Bool} {ps : List PV} {i : Nat} {b : Bool} {p : PV} (h : (mk io ps)[i]? = some (Sl.own b p)) : io[i]? = some true ∧ ps[i]? = some p ∧ b = true := by
  obtain ⟨c, q, e1, e2, e3⟩ := mk_get h
  cases c with
  | true => simp at e3; obtain ⟨rfl, rfl⟩ := e3; exact ⟨e1, e2, rfl⟩
  | false => simp at e3
theorem mk_val {io : List Bool} {ps : List PV} {i : Nat} {p : PV} (h : (mk io ps)[i]? = some (Sl.val p)) : io[i]? = some false ∧ ps[i]? = some p := by
  obtain ⟨c, q, e1, e2, e3⟩ := mk_get h
  cases c with
  | true => simp at e3
  | false => simp at e3; subst e3; exact ⟨e1, e2⟩
theorem mk_at {io : List Bool} {ps : List PV} {i : Nat} {b : Bool} {p : PV} (h : io[i]? = some b) (h2 : ps[i]? = some p) : (mk io ps)[i]? = some (if b = true then Sl.own true p else Sl.val p) := by
  unfold mk
  rw [List.getElem?_zipWith, h, h2]
section
variable {K : PySem.W.Frag} {G : Gd} {H H' : Hp} {σ : L2.St} {ρ : En} {pd : Pds} {S : FS} {vs : List V} {ps : List PV} {js : List Nat}
/-- the callee's start -/
theorem call_start (R1 : RE K G H σ ρ pd) (s : Spl σ ρ pd S.io vs ps js) (nd : js.Nodup) : RE K (G0 H S.io vs (fun b => WS G σ ρ b ∧ ¬ Iob S.io vs b) G.vo) H (vs.map some) (mk S.io ps) [] ∧ ∀ b, Iob S.io vs b → WS G σ ρ b := by
  obtain ⟨l1, l2, l3⟩ := s.len
  have iob : ∀ b, Iob S.io vs b → WS G σ ρ b := fun b ⟨i, e1, e2⟩ => by
    have li : i < ps.length := by rw [l2]; exact (List.getElem?_eq_some_iff.mp e1).1
    obtain ⟨v, g1, _, g2⟩ := s.get e1 (List.getElem?_eq_getElem li)
    obtain ⟨j, c, mj, g3, g4⟩ := g2 rfl
    rw [e2] at g1; cases g1
    exact .inr ⟨j, c, _, g3, g4⟩
  have sub : ∀ b, WS (G0 H S.io vs (fun b => WS G σ ρ b ∧ ¬ Iob S.io vs b) G.vo) (vs.map some) (mk S.io ps) b → WS G σ ρ b := fun b w => by
    rcases w with w | ⟨i, c, p, e1, e2⟩
    · exact w.1
    · obtain ⟨f1, f2, rfl⟩ := mk_own e1
      refine iob b ⟨i, f1, ?_⟩
      rw [List.getElem?_map] at e2
      cases e : vs[i]? with
      | none => rw [e] at e2; simp at e2
      | some v => rw [e] at e2; simp at e2; rw [e2]
  have vget : ∀ {i : Nat} {v : V}, vs[i]? = some v → (vs.map some)[i]? = some (some v) := fun {i v} e => by rw [List.getElem?_map, e]; rfl
  have vback : ∀ {i : Nat} {v : V}, (vs.map some)[i]? = some (some v) → vs[i]? = some v := fun {i v} e => by
    rw [List.getElem?_map] at e
    cases q : vs[i]? with
    | none => rw [q] at e; simp at e
    | some u => rw [q] at e; simp at e; rw [e]
  refine ⟨⟨?_, fun i p e => ?_, fun i b p e => ?_, fun i j b c p q a e1 e2 e3 e4 => ?_, fun i a h => ?_, fun b o e => ?_, fun b h hv => ?_, fun x hx => by simp at hx, ⟨fun b h => ?_, fun i b p a e1 e2 => ?_, fun i b c z e1 => ?_⟩⟩, iob⟩
  · unfold mk; rw [List.length_zipWith, List.length_map, l1, l2]; simp
  · obtain ⟨f1, f2⟩ := mk_val e
    obtain ⟨v, g1, g2, _⟩ := s.get f1 f2
    exact ⟨v, vget g1, Is.anti sub _ _ (R1.pd _ (g2 rfl))⟩
  · obtain ⟨f1, f2, rfl⟩ := mk_own e
    obtain ⟨v, g1, _, g2⟩ := s.get f1 f2
    obtain ⟨j, c, mj, g3, g4⟩ := g2 rfl
    obtain ⟨a, h1, h2, o, h3, w⟩ := R1.own j c p g3
    rw [g4] at h1; cases h1
    exact ⟨a, vget g1, G0_no ⟨i, f1, g1⟩, o, h3, w.anti sub⟩
  · obtain ⟨f1, _, _⟩ := mk_own e1
    obtain ⟨f2, _, _⟩ := mk_own e2
    exact s.same R1 nd f1 f2 (vback e3) (vback e4)
  · have li : i < ps.length := by rw [l2]; exact (List.getElem?_eq_some_iff.mp h.1).1
    exact ⟨vget h.2, ps[i], by rw [mk_at h.1 (List.getElem?_eq_getElem li)]; simp⟩
  · exact (G0_of e).2.2
  · have m := R1.mut b h.1
    obtain ⟨o, e⟩ := R1.there h.1
    exact ⟨o, (G0_yes h.2 hv).trans e, by rw [e] at m; exact m⟩
  · obtain ⟨h1, h2, h3⟩ := R1.ext.vo b h
    refine ⟨⟨.inl h1, fun ⟨i, e1, e2⟩ => ?_⟩, G0_vo h, h3⟩
    have li : i < ps.length := by rw [l2]; exact (List.getElem?_eq_some_iff.mp e1).1
    obtain ⟨v, g1, _, g2⟩ := s.get e1 (List.getElem?_eq_getElem li)
    obtain ⟨j, c, mj, g3, g4⟩ := g2 rfl
    rw [e2] at g1; cases g1
    exact R1.ext.off j c _ b g3 g4 h
  · obtain ⟨f1, f2, rfl⟩ := mk_own e1
    obtain ⟨v, g1, _, g2⟩ := s.get f1 f2
    obtain ⟨j, c, mj, g3, g4⟩ := g2 rfl
    have e3 := vback e2
    rw [g1] at e3; cases e3
    exact R1.ext.off j c _ a g3 g4
  · obtain ⟨f1, f2, rfl⟩ := mk_own e1
    obtain ⟨v, g1, _, g2⟩ := s.get f1 f2
    obtain ⟨j, d, mj, g3, g4⟩ := g2 rfl
    exact R1.ext.nst j d c z g3
/-- behind it -/
theorem call_end {pd0 : Pds} {v : V} {r : PV} {outs : List PV} (R1 : RE K G H σ ρ pd) (sb : ∀ x ∈ pd0, x ∈ pd) (s : Spl σ ρ pd S.io vs ps js) (nd : js.Nodup) (iob : ∀ b, Iob S.io vs b → WS G σ ρ b) (lo : outs.length = js.length)
    (fin : Fin K S H (fun b => WS G σ ρ b ∧ ¬ Iob S.io vs b) G.vo vs v H' r outs) : Res K G H' σ (putOuts js outs ρ) pd0 (if S.fr = true then .fr r else .pv r) v := by
  have jo := s.js
  obtain ⟨p1, p2, p3⟩ := putOuts_spec (ρ := ρ) nd lo jo
  have A : Alike ρ (putOuts js outs ρ) := by
    refine ⟨p1, fun i => ?_⟩
    by_cases hi : i ∈ js
    · obtain ⟨k, lk, e⟩ := List.getElem_of_mem hi
      have lk' : k < outs.length := by rw [lo]; exact lk
      obtain ⟨b, p, h1, h2⟩ := p3 k i outs[k] (by rw [List.getElem?_eq_getElem lk, e]) (List.getElem?_eq_getElem lk')
      exact .inr ⟨b, p, _, h1, h2⟩
    · exact .inl (p2 i hi)
  have ws : ∀ b, (WS G σ ρ b ∧ ¬ Iob S.io vs b) ∨ Iob S.io vs b ↔ WS G σ ρ b := fun b => by
    constructor
    · rintro (w | w)
      · exact w.1
      · exact iob b w
    · intro w
      by_cases z : Iob S.io vs b
      · exact .inr z
      · exact .inl ⟨w, z⟩
  -- an owned slot that is no argument: its object stands
  have stay : ∀ (i : Nat) (b : Bool) (q : PV) (a : Addr), i ∉ js → ρ[i]? = some (Sl.own b q) → σ[i]? = some (some (V.ref a)) → ¬ Iob S.io vs a := fun i b q a hi e1 e2 ⟨m, f1, f2⟩ => by
    obtain ⟨_, l2, _⟩ := s.len
    have lm : m < ps.length := by rw [l2]; exact (List.getElem?_eq_some_iff.mp f1).1
    obtain ⟨v', g1, _, g2⟩ := s.get f1 (List.getElem?_eq_getElem lm)
    obtain ⟨j, c, mj, g3, g4⟩ := g2 rfl
    rw [f2] at g1; cases g1
    exact hi (by rw [R1.inj i j b c q _ a e1 g3 e2 g4]; exact mj)
  have keepG : ∀ b o, G.keep b = some o → H' b = some o := fun b o e => by
    refine fin.keep b o (R1.keep b o e) (fun z => ?_) fun z => by rw [(R1.ext.vo b z).2.1] at e; cases e
    rcases iob b z with w | ⟨i, c, p, e1, e2⟩
    · obtain ⟨m, f1, f2⟩ := z
      obtain ⟨_, l2, _⟩ := s.len
      have lm : m < ps.length := by rw [l2]; exact (List.getElem?_eq_some_iff.mp f1).1
      obtain ⟨v', g1, _, g2⟩ := s.get f1 (List.getElem?_eq_getElem lm)
      obtain ⟨j, c, mj, g3, g4⟩ := g2 rfl
      rw [f2] at g1; cases g1
      obtain ⟨a, h1, h2, _⟩ := R1.own j c _ g3
      rw [g4] at h1; cases h1
      rw [h2] at e; cases e
    · obtain ⟨a, h1, h2, _⟩ := R1.own i c p e1
      rw [e2] at h1; cases h1
      rw [h2] at e; cases e
  have hn : ∀ (i : Nat) (b : Bool) (c : Nat) (z : Int), (putOuts js outs ρ)[i]? = some (Sl.own b (.nst false c z)) → G.vo c := fun i b c z e1 => by
    by_cases hi : i ∈ js
    · obtain ⟨k, lk, e⟩ := List.getElem_of_mem hi
      have lk' : k < outs.length := by rw [lo]; exact lk
      have ek : js[k]? = some i := by rw [List.getElem?_eq_getElem lk, e]
      have eo : outs[k]? = some outs[k] := List.getElem?_eq_getElem lk'
      obtain ⟨b', p, h1, h2⟩ := p3 k i outs[k] ek eo
      rw [e1] at h2
      injection h2 with h2
      injection h2 with _ h3
      obtain ⟨m, v', g1, g2, g3, g4⟩ := s.io ek eo
      exact fin.nstk m c z (by rw [h3]; exact g4)
    · rw [p2 i hi] at e1
      exact R1.ext.nst i b c z e1
  cases hf : S.fr with
  | false =>
    have R2 : RE K G H' σ (putOuts js outs ρ) pd := by
      refine R1.swap A (fun b o e n => fin.keep b o e (fun z => n (iob b z)) fun z => n (.inl (R1.ext.vo b z).1)) keepG (fun i b q a e1 e2 => ?_) fin.vok hn
      by_cases hi : i ∈ js
      · obtain ⟨k, lk, e⟩ := List.getElem_of_mem hi
        have lk' : k < outs.length := by rw [lo]; exact lk
        have ek : js[k]? = some i := by rw [List.getElem?_eq_getElem lk, e]
        have eo : outs[k]? = some outs[k] := List.getElem?_eq_getElem lk'
        obtain ⟨b', p, h1, h2⟩ := p3 k i outs[k] ek eo
        rw [e1] at h2; cases h2
        obtain ⟨m, v', g1, g2, g3, g4⟩ := s.io ek eo
        rw [e2] at g3; cases g3
        obtain ⟨o, ho, w⟩ := fin.outs m _ a g4 g2
        exact ⟨o, ho, w.anti fun b w => by
          rcases (ws b).2 w with w | w
          · exact .inl w
          · exact .inr (.inl w)⟩
      · rw [p2 i hi] at e1
        obtain ⟨c, f1, f2, o, f3, w⟩ := R1.own i b q e1
        rw [e2] at f1; cases f1
        exact ⟨o, fin.keep a o f3 (stay i b q a hi e1 e2) (R1.ext.off i b q a e1 e2), w.move (fun b o e n => fin.keep b o e (fun z => n (iob b z)) fun z => n (.inl (R1.ext.vo b z).1)) R1.mut fun _ _ w => w⟩
    have hw : ∀ b, WS G σ (putOuts js outs ρ) b → WS G σ ρ b := fun b w => by
      rcases w with w | ⟨i, c, q, e1, e2⟩
      · exact .inl w
      · obtain ⟨p, e⟩ := A.back e1
        exact .inr ⟨i, c, p, e, e2⟩
    exact (R2.push (Is.anti (fun b w => (ws b).2 (hw b w)) _ _ (fin.res hf))).pds fun x hx => by
      rcases List.mem_cons.mp hx with e | hx
      · rw [e]; exact List.mem_cons_self
      · exact List.mem_cons_of_mem _ (sb x hx)
  | true =>
    obtain ⟨a, o, rfl, na, ea, w⟩ := fin.new hf
    have kn : G.keep a = none := by
      cases q : G.keep a with
      | none => rfl
      | some u => rw [R1.keep a u q] at na; cases na
    have R2 : RE K (G.add a o) (upd H a o) σ ρ pd := R1.add na (same_new na) upd_same w.mut
    have ws2 : ∀ b, WS (G.add a o) σ ρ b → (WS G σ ρ b ∧ ¬ Iob S.io vs b) ∨ Iob S.io vs b ∨ (S.fr = true ∧ V.ref a = .ref b) := fun b w => by
      have h2 : b = a ∨ WS G σ ρ b := by
        rcases w with (w | w) | w
        · exact .inl w
        · exact .inr (.inl w)
        · exact .inr (.inr w)
      rcases h2 with z | w
      · exact .inr (.inr ⟨hf, by rw [z]⟩)
      · rcases (ws b).2 w with w | w
        · exact .inl w
        · exact .inr (.inl w)
    have kp2 : ∀ b u, upd H a o b = some u → ¬ WS (G.add a o) σ ρ b → H' b = some u := fun b u e n => by
      have ne : b ≠ a := fun z => n (.inl (.inl z))
      rw [upd_ne ne] at e
      exact fin.keep b u e (fun z => n ((iob b z).elim (fun w => .inl (.inr w)) .inr)) fun z => n (.inl (.inr (R1.ext.vo b z).1))
    have R3 : RE K (G.add a o) H' σ (putOuts js outs ρ) pd := by
      refine R2.swap A kp2 (fun b u e => ?_) (fun i b q c e1 e2 => ?_) fin.vok hn
      · have e' : upd G.keep a o b = some u := e
        by_cases z : b = a
        · rw [z] at e' ⊢; rw [upd_same] at e'; cases e'; exact ea
        · rw [upd_ne z] at e'; exact keepG b u e'
      · by_cases hi : i ∈ js
        · obtain ⟨k, lk, e⟩ := List.getElem_of_mem hi
          have lk' : k < outs.length := by rw [lo]; exact lk
          have ek : js[k]? = some i := by rw [List.getElem?_eq_getElem lk, e]
          have eo : outs[k]? = some outs[k] := List.getElem?_eq_getElem lk'
          obtain ⟨b', p, h1, h2⟩ := p3 k i outs[k] ek eo
          rw [e1] at h2; cases h2
          obtain ⟨m, v', g1, g2, g3, g4⟩ := s.io ek eo
          rw [e2] at g3; cases g3
          obtain ⟨u, ho, w'⟩ := fin.outs m _ c g4 g2
          exact ⟨u, ho, w'.anti ws2⟩
        · rw [p2 i hi] at e1
          obtain ⟨d, f1, f2, u, f3, w'⟩ := R2.own i b q e1
          rw [e2] at f1; cases f1
          have nd : c ≠ a := fun z => by
            obtain ⟨d', f1', _, u', f3', _⟩ := R1.own i b q e1
            rw [e2] at f1'; cases f1'
            rw [z, na] at f3'; cases f3'
          rw [upd_ne nd] at f3
          exact ⟨u, fin.keep c u f3 (stay i b q c hi e1 e2) (R1.ext.off i b q c e1 e2), w'.move kp2 R2.mut fun _ _ w => w⟩
    have hw : ∀ b, WS (G.add a o) σ (putOuts js outs ρ) b → WS (G.add a o) σ ρ b := fun b w => by
      rcases w with w | ⟨i, c, q, e1, e2⟩
      · exact .inl w
      · obtain ⟨p, e⟩ := A.back e1
        exact .inr ⟨i, c, p, e, e2⟩
    exact ⟨a, o, rfl, kn, R1.exk, R3.pds sb, w.anti fun b w => ws2 b (hw b w)⟩
end
section
variable {X : Cx} {k : Nat} {f : Addr} {fd : FuncData} {x : Str} {ps : List Str} {S : FS} {e : Expr} {es : List Expr} {t : QTA} {p pos : Pos}
theorem rz_call {K : PySem.W.Frag} {ta : TA} {E : XK} (q : RzA K ta t) : Rz K (tCall (spP K S) [] E ta) (qCall S t) := by
  intro G H σ ρ pd Q F R1 h ff
  refine q G H σ ρ pd _ _ R1 h fun rs ρ1 pd1 vs H1 sb R2 ar g => ?_
  unfold callR at g
  cases es : splitArgs ρ1 S.io rs with
  | none => rw [es] at g; exact g.elim
  | some z =>
    obtain ⟨pvs, js⟩ := z
    rw [es] at g
    obtain ⟨nd, pre, post⟩ := g
    have s := spl_of ar es
    obtain ⟨R3, iob⟩ := call_start R2 s nd
    obtain ⟨l1, l2, l3⟩ := s.len
    show spP K S (vs ++ []) H1 F E
    rw [List.append_nil]
    refine ⟨pvs, _, _, l2, l1, R3, pre, fun v H' r outs hp lo fin => ?_⟩
    exact ff _ _ v H' (call_end R2 sb s nd iob (lo.trans l3.symm) fin) (post r outs hp (lo.trans l3.symm))
theorem qe_call (F : FnOk X.prog X.w X.K X.mg X.base CX0 k f fd ps (spP X.K S)) (hr : Room k X.A) (hm : X.mg x = some (.ref f)) (hk : PySem.W.keepIn X.K (.ref f) = true) (hb : Binds X.K fd ps []) (ha : QA X (e :: es) t) (hg : Gl X x := by rfl) (hdb : (x == ("__debug__" : Str)) = false := by decide)
    (he : starEach (e :: es) X.env = (false, eval e X.env) :: starEach es X.env := by rfl) (hpl : (backTo pos (starEach es X.env)).any (·.1) = false := by rfl) : QE X (.Call (.Name x p) (e :: es) [] pos) (qCall S t) := by
  obtain ⟨ta, p1, q⟩ := ha.ex
  exact ⟨_, pe_call F hr hg hm hk hb .nil pass0 p1 hdb he hpl, rz_call q⟩
end

/-! ### a def keeps its promise -/
def finOk (S : FS) (ps : List PV) (r : R) (ρ : En) : Prop := match S.fr, r with
  | true, .fr p => S.post ps p (outsOf S.io ρ)
  | false, .pv p => S.post ps p (outsOf S.io ρ)
  | false, .fr p => S.post ps p (outsOf S.io ρ)
  | _, _ => False
def endsOf (S : FS) (ps : List PV) : PEnds := { nx := fun ρ => finOk S ps (.pv .non) ρ, rt := fun r ρ => finOk S ps r ρ }
def uns (n : Nat) : En := List.replicate n Sl.un
theorem outs_len : ∀ (io : List Bool) (ρ : En), (outsOf io ρ).length = (io.filter id).length
  | [], ρ => by cases ρ <;> rfl
  | true :: io, [] => by simp [outsOf, outs_len io []]
  | false :: io, [] => by simp [outsOf, outs_len io []]
  | true :: io, s :: ρ => by
    have ih := outs_len io ρ
    cases s <;> simp [outsOf, ih]
  | false :: io, s :: ρ => by
    have ih := outs_len io ρ
    simp [outsOf, ih]
theorem outs_get : ∀ (io : List Bool) (ρ : En) {i : Nat} {q : PV}, (sel io (outsOf io ρ))[i]? = some (some q) → io[i]? = some true ∧ ∀ b p, ρ[i]? = some (Sl.own b p) → p = q
  | [], ρ, i, q, h => by cases ρ <;> simp [outsOf, sel] at h
  | true :: io, [], i, q, h => by
    cases i with
    | zero => exact ⟨rfl, fun b p e => by simp at e⟩
    | succ i =>
      have ih := outs_get io [] (i := i) (q := q) (by simpa [outsOf, sel] using h)
      exact ⟨by simpa using ih.1, fun b p e => by simp at e⟩
  | false :: io, [], i, q, h => by
    cases i with
    | zero => simp [outsOf, sel] at h
    | succ i =>
      have ih := outs_get io [] (i := i) (q := q) (by simpa [outsOf, sel] using h)
      exact ⟨by simpa using ih.1, fun b p e => by simp at e⟩
  | true :: io, s :: ρ, i, q, h => by
    cases i with
    | zero =>
      refine ⟨rfl, fun b p e => ?_⟩
      simp at e
      subst e
      simpa [outsOf, sel] using h
    | succ i =>
      have h' : (sel io (outsOf io ρ))[i]? = some (some q) := by
        cases s <;> simpa [outsOf, sel] using h
      simpa using outs_get io ρ h'
  | false :: io, s :: ρ, i, q, h => by
    cases i with
    | zero => simp [outsOf, sel] at h
    | succ i =>
      have h' : (sel io (outsOf io ρ))[i]? = some (some q) := by simpa [outsOf, sel] using h
      simpa using outs_get io ρ h'
theorem RE.pad {K : PySem.W.Frag} {G : Gd} {H : Hp} {σ : L2.St} {ρ : En} {pd : Pds} (R1 : RE K G H σ ρ pd) (n : Nat) : RE K G H (σ ++ List.replicate n none) (ρ ++ uns n) pd := by
  have sg : ∀ {i : Nat} {v : Option V}, σ[i]? = some v → (σ ++ List.replicate n none)[i]? = some v := fun {i v} e => by
    rw [List.getElem?_append_left (List.getElem?_eq_some_iff.mp e).1]; exact e
  have rg : ∀ {i : Nat} {s : Sl}, (ρ ++ uns n)[i]? = some s → s ≠ Sl.un → ρ[i]? = some s := fun {i s} e ne => by
    by_cases l : i < ρ.length
    · rw [List.getElem?_append_left l] at e; exact e
    · rw [List.getElem?_append_right (by omega)] at e
      unfold uns at e
      rw [List.getElem?_replicate] at e
      split at e
      · cases e; exact absurd rfl ne
      · cases e
  have rf : ∀ {i : Nat} {s : Sl}, ρ[i]? = some s → (ρ ++ uns n)[i]? = some s := fun {i s} e => by
    rw [List.getElem?_append_left (List.getElem?_eq_some_iff.mp e).1]; exact e
  have sb : ∀ {i : Nat} {s : Sl} {v : Option V}, ρ[i]? = some s → (σ ++ List.replicate n none)[i]? = some v → σ[i]? = some v := fun {i s v} e1 e2 => by
    have l : i < σ.length := by rw [← R1.len]; exact (List.getElem?_eq_some_iff.mp e1).1
    rw [List.getElem?_append_left l] at e2; exact e2
  have sub : ∀ b, WS G (σ ++ List.replicate n none) (ρ ++ uns n) b → WS G σ ρ b := fun b w => by
    rcases w with w | ⟨i, c, p, e1, e2⟩
    · exact .inl w
    · have f := rg e1 (by simp)
      exact .inr ⟨i, c, p, f, sb f e2⟩
  refine ⟨by simp [R1.len, uns], fun i p e => ?_, fun i b p e => ?_, fun i j b c p q a e1 e2 e3 e4 => ?_, fun i a h => ?_, R1.keep, R1.exk, fun x hx => Is.anti sub _ _ (R1.pd x hx), ⟨R1.ext.vo, fun i b p a e1 e2 => ?_, fun i b c s e1 => R1.ext.nst i b c s (rg e1 (by simp))⟩⟩
  · obtain ⟨v, e1, h⟩ := R1.val i p (rg e (by simp))
    exact ⟨v, sg e1, Is.anti sub _ _ h⟩
  · obtain ⟨a, e1, k, o, e2, w⟩ := R1.own i b p (rg e (by simp))
    exact ⟨a, sg e1, k, o, e2, w.anti sub⟩
  · have f1 := rg e1 (by simp)
    have f2 := rg e2 (by simp)
    exact R1.inj i j b c p q a f1 f2 (sb f1 e3) (sb f2 e4)
  · obtain ⟨e, p, e1⟩ := R1.io i a h
    exact ⟨sg e, p, rf e1⟩
  · have f1 := rg e1 (by simp)
    exact R1.ext.off i b p a f1 (sb f1 e2)
section
variable {P : Program} {w : World} {K : PySem.W.Frag} {mg : Str → Option Value} {base : Heap} {x qual : Str} {st : Stmt} {f : Addr} {fd : FuncData} {N ps : List Str} {k : Nat} {S : FS} {t : QTS}
theorem fn_p (F : Fun K x qual st f fd) (sc : FnScope N ps (defScope st)) (lp : S.io.length = ps.length)
    (hb : ∀ (cdv : Value) (A : Around) (outer : List Env) (s : Shared) (H : Hp) (E : XK), Room k (A.deeper (envOfC qual (defScope st) s.heap.objs.size f cdv)) → QSs (cxOf CX0 P w K mg base N qual (defScope st) f cdv A outer s H E).nox (defBody st) t)
    (rd : ∀ pvs : List PV, pvs.length = S.io.length → S.pre pvs → t (endsOf S pvs) (mk S.io pvs ++ uns (N.length - ps.length))) : FnOk P w K mg base CX0 (k + 1) f fd ps (spP K S) := by
  refine F.ok sc (fun vs H Q E h => ?_) (fun cdv A outer s H vs Q E hr h => ?_)
  · obtain ⟨_, _, _, _, l, _⟩ := h
    rw [l, lp]
  obtain ⟨pvs, ex, vo, l1, l2, R1, pre, post⟩ := h
  obtain ⟨ts, p, q⟩ := (hb cdv A outer s H E hr).ex
  refine ⟨ts, p, ?_⟩
  have R2 : RE K (G0 H S.io vs ex vo) H (L2.start N vs) (mk S.io pvs ++ uns (N.length - ps.length)) [] := by
    have z := R1.pad (N.length - ps.length)
    have e : L2.start N vs = vs.map some ++ List.replicate (N.length - ps.length) none := by
      unfold L2.start
      rw [l2, lp]
    rw [e]; exact z
  have fin : ∀ (r : R) (v : V) (σ' : L2.St) (ρ' : En) (H' : Hp), Res K (G0 H S.io vs ex vo) H' σ' ρ' [] r v → finOk S pvs r ρ' → Q v H' := fun r v σ' ρ' H' s' g => by
    have R3 := s'.re
    have kp : ∀ b o, H b = some o → ¬ Iob S.io vs b → ¬ vo b → H' b = some o := fun b o e n n2 => R3.keep b o ((G0_yes n n2).trans e)
    have vk : ∀ b, vo b → IntsAt H' b := fun b h => (R3.ext.vo b h).2.2
    have wio : ∀ b, Iob S.io vs b → WS (G0 H S.io vs ex vo) σ' ρ' b := fun b ⟨i, e1, e2⟩ => by
      obtain ⟨e3, p, e4⟩ := R3.io i b ⟨e1, e2⟩
      exact .inr ⟨i, true, p, e4, e3⟩
    have wsub : ∀ b, ex b ∨ Iob S.io vs b → WS (G0 H S.io vs ex vo) σ' ρ' b := fun b w => w.elim .inl (wio b)
    -- the outs, as the slots own them
    have ow : ∀ (i : Nat) (q : PV) (a : Addr), (sel S.io (outsOf S.io ρ'))[i]? = some (some q) → vs[i]? = some (V.ref a) → ∃ b, ρ'[i]? = some (Sl.own b q) ∧ σ'[i]? = some (some (V.ref a)) := fun i q a e1 e2 => by
      obtain ⟨f1, f2⟩ := outs_get _ _ e1
      obtain ⟨e3, p, e4⟩ := R3.io i a ⟨f1, e2⟩
      have := f2 true p e4
      subst this
      exact ⟨true, e4, e3⟩
    have nk : ∀ (i c : Nat) (s : Int), (sel S.io (outsOf S.io ρ'))[i]? = some (some (.nst false c s)) → vo c := fun i c z e1 => by
      obtain ⟨f1, f2⟩ := outs_get _ _ e1
      have li : i < S.io.length := (List.getElem?_eq_some_iff.mp f1).1
      have e2 : (mk S.io pvs)[i]? = some (Sl.own true pvs[i]) := by rw [mk_at f1 (List.getElem?_eq_getElem (by rw [l1]; exact li))]; simp
      obtain ⟨a, e3, _⟩ := R1.own i true _ e2
      have e4 : vs[i]? = some (V.ref a) := by
        rw [List.getElem?_map] at e3
        cases q : vs[i]? with
        | none => rw [q] at e3; simp at e3
        | some u => rw [q] at e3; simp at e3; rw [e3]
      obtain ⟨b, e5, _⟩ := ow i _ a e1 e4
      exact R3.ext.nst i b c z e5
    cases hf : S.fr with
    | false =>
      have key : ∀ p, Is K H' (WS (G0 H S.io vs ex vo) σ' ρ') p v → S.post pvs p (outsOf S.io ρ') → Q v H' := fun p hp g => post v H' p (outsOf S.io ρ') g (outs_len _ _) {
        keep := kp
        vok := vk
        nstk := nk
        outs := fun i q a e1 e2 => by
          obtain ⟨b, e3, e4⟩ := ow i q a e1 e2
          obtain ⟨c, e5, _, o, e6, w⟩ := R3.own i b q e3
          rw [e4] at e5; cases e5
          exact ⟨o, e6, w.anti fun b w => by
            rcases w with w | w | w
            · exact .inl w
            · exact wio b w
            · rw [hf] at w; cases w.1⟩
        res := fun _ => Is.anti wsub _ _ hp
        new := fun z => by rw [hf] at z; cases z }
      unfold finOk at g
      rw [hf] at g
      cases r with
      | pv p => exact key p ((show RE K _ H' σ' ρ' [(p, v)] from s').pd (p, v) List.mem_cons_self) g
      | fr p =>
        have s2 := s'.weak
        exact key p ((show RE K _ H' σ' ρ' [(p, v)] from s2).pd (p, v) List.mem_cons_self) g
      | sl i => exact g.elim
    | true =>
      unfold finOk at g
      rw [hf] at g
      cases r with
      | pv p => exact g.elim
      | sl i => exact g.elim
      | fr p =>
        obtain ⟨a, o, rfl, n, kx, R4, w⟩ := s'
        have Ha : H' a = some o := R4.keep a o upd_same
        have nio : ¬ Iob S.io vs a := fun ⟨i, e1, e2⟩ => by
          obtain ⟨e3, p', e4⟩ := R4.io i a ⟨e1, e2⟩
          obtain ⟨c, e5, k, _⟩ := R4.own i true p' e4
          rw [e3] at e5; cases e5
          have k' : upd (G0 H S.io vs ex vo).keep a o a = none := k
          rw [upd_same] at k'; cases k'
        have nvo : ¬ vo a := fun h => by
          obtain ⟨_, h2, _⟩ := R4.ext.vo a h
          have h2' : upd (G0 H S.io vs ex vo).keep a o a = none := h2
          rw [upd_same] at h2'; cases h2'
        have n' : H a = none := (G0_yes nio nvo).symm.trans n
        have wsub2 : ∀ b, ex b ∨ Iob S.io vs b ∨ (S.fr = true ∧ V.ref a = .ref b) → WS ((G0 H S.io vs ex vo).add a o) σ' ρ' b := fun b w => by
          rcases w with w | ⟨i, e1, e2⟩ | w
          · exact .inl (.inr w)
          · obtain ⟨e3, p', e4⟩ := R4.io i b ⟨e1, e2⟩
            exact .inr ⟨i, true, p', e4, e3⟩
          · cases w.2; exact .inl (.inl rfl)
        refine post (.ref a) H' p (outsOf S.io ρ') g (outs_len _ _) {
          keep := kp
          vok := vk
          nstk := nk
          outs := fun i q c e1 e2 => ?_
          res := fun z => by rw [hf] at z; cases z
          new := fun _ => ⟨a, o, rfl, n', Ha, w.anti wsub2⟩ }
        obtain ⟨b, e3, e4⟩ := ow i q c e1 e2
        obtain ⟨d, e5, _, u, e6, w'⟩ := R4.own i b q e3
        rw [e4] at e5; cases e5
        exact ⟨u, e6, w'.anti wsub2⟩
  exact q _ H _ _ [] (endsOf S pvs) _ R2 (rd pvs l1 pre) ⟨fun σ' ρ' H' R3 g => fin (.pv .non) .non σ' ρ' H' (R3.push rfl) g, fun r v σ' ρ' H' s' g => fin r v σ' ρ' H' s' g, fun _ _ _ _ g => g.elim, fun _ _ _ _ g => g.elim⟩
end
end Px
namespace Px
open PySem L2 PyProof.Rows

/-! ### data -/
mutual
def toD : PV → PyData
  | .non => .none
  | .bl b => .bool b
  | .int i => .int i
  | .str s => .str s
  | .tup ps => .tuple (toDs ps)
  | .lst ps => .list (toDs ps)
  | .dic _ _ => .dict []
  | .scr _ => .dict []
  | .nst _ _ _ => .dict []
  | .ty _ => .dict []
def toDs : List PV → List PyData
  | [] => []
  | p :: ps => toD p :: toDs ps
end
mutual
def plain : PV → Bool
  | .non => true
  | .bl _ => true
  | .int _ => true
  | .str _ => true
  | .tup ps => plains ps
  | .lst ps => plains ps
  | .dic _ _ => false
  | .scr _ => false
  | .nst _ _ _ => false
  | .ty _ => false
def plains : List PV → Bool
  | [] => true
  | p :: ps => plain p && plains ps
end
mutual
/-- how deep data is nested -/
def dep : PV → Nat
  | .tup ps => deps ps + 1
  | .lst ps => deps ps + 1
  | .non => 0
  | .bl _ => 0
  | .int _ => 0
  | .str _ => 0
  | .dic _ _ => 0
  | .scr _ => 0
  | .nst _ _ _ => 0
  | .ty _ => 0
def deps : List PV → Nat
  | [] => 0
  | p :: ps => max (dep p) (deps ps)
end
mutual
theorem dp_of {K : PySem.W.Frag} {H : Hp} {W : Addr → Prop} : ∀ (p : PV) (v : V), plain p = true → Is K H W p v → Dp K H v (toD p) ∧ (toD p).canLay0 = true ∧ (toD p).depth = dep p
  | .non, _, _, h => by cases (show _ = V.non from h); exact ⟨.non, rfl, rfl⟩
  | .bl b, _, _, h => by cases (show _ = V.bl b from h); exact ⟨.bl b, rfl, rfl⟩
  | .int i, _, _, h => by cases (show _ = V.int i from h); exact ⟨.int i, rfl, rfl⟩
  | .str s, v, _, h => by
    obtain ⟨e, ok⟩ : v = .str s ∧ sOk s = true := h
    subst e
    exact ⟨.str s, ok, rfl⟩
  | .tup ps, v, pl, h => by
    obtain ⟨a, vs, e, r, i⟩ : ∃ a vs, v = .ref a ∧ H a = some (.tup vs) ∧ Iss K H W ps vs := h
    subst e
    obtain ⟨d, c, z⟩ := dps_of ps vs (by rw [plain] at pl; exact pl) i
    exact ⟨.tup (.inl (.inl r)) d, by rw [toD, PyData.canLay0]; exact c, by rw [toD, PyData.depth, dep, z]⟩
  | .lst ps, v, pl, h => by
    obtain ⟨a, vs, e, _, r, i⟩ : ∃ a vs, v = .ref a ∧ ¬ W a ∧ H a = some (.lst vs) ∧ Iss K H W ps vs := h
    subst e
    obtain ⟨d, c, z⟩ := dps_of ps vs (by rw [plain] at pl; exact pl) i
    exact ⟨.lst (.inl (.inl r)) d, by rw [toD, PyData.canLay0]; exact c, by rw [toD, PyData.depth, dep, z]⟩
  | .dic _ _, _, pl, _ => by simp [plain] at pl
  | .scr _, _, pl, _ => by simp [plain] at pl
  | .nst _ _ _, _, pl, _ => by simp [plain] at pl
  | .ty _, _, pl, _ => by simp [plain] at pl
theorem dps_of {K : PySem.W.Frag} {H : Hp} {W : Addr → Prop} : ∀ (ps : List PV) (vs : List V), plains ps = true → Iss K H W ps vs → DpAll K H vs (toDs ps) ∧ PyData.canLayAll0 (toDs ps) = true ∧ PyData.depthAll (toDs ps) = deps ps
  | [], _, _, h => by cases (show _ = [] from h); exact ⟨.nil, rfl, rfl⟩
  | p :: ps, vs, pl, h => by
    obtain ⟨v, r, e, h1, h2⟩ := h
    subst e
    rw [plains, Bool.and_eq_true] at pl
    obtain ⟨d1, c1, z1⟩ := dp_of p v pl.1 h1
    obtain ⟨d2, c2, z2⟩ := dps_of ps r pl.2 h2
    refine ⟨.cons d1 d2, ?_, ?_⟩
    · rw [toDs, PyData.canLayAll0, c1, c2]; rfl
    · rw [toDs, PyData.depthAll, z1, z2, deps]
end
theorem lk_dp {K : PySem.W.Frag} {H : Hp} {W : Addr → Prop} {p : PV} {v : V} (pl : plain p = true) (h : Lk K H W p v) : Dp K H v (toD p) ∧ (toD p).canLay0 = true ∧ (toD p).depth = dep p := by
  cases p with
  | lst ps =>
    obtain ⟨a, vs, e, r, i⟩ := h
    subst e
    obtain ⟨d, c, z⟩ := dps_of ps vs (by rw [plain] at pl; exact pl) i
    exact ⟨.lst (.inl (.inl r)) d, by rw [toD, PyData.canLay0]; exact c, by rw [toD, PyData.depth, dep, z]⟩
  | dic ks ps => simp [plain] at pl
  | nst t c s => simp [plain] at pl
  | _ => exact dp_of (W := W) _ v pl h
def peq (p q : PV) : Bool := PyData.eqv (toD p) (toD q)
def peqs (ps qs : List PV) : Bool := PyData.eqvAll (toDs ps) (toDs qs)
/-- data that == may be asked of -/
def eqOk (p : PV) : Prop := plain p = true ∧ dep p ≤ 64
theorem shaped_of {p : PV} (c : (toD p).canLay0 = true) (z : (toD p).depth = dep p) (h : eqOk p) : SeqAt.shaped (toD p) = true := by
  unfold SeqAt.shaped
  rw [c, z, Bool.true_and]
  exact decide_eq_true h.2

section
variable {X : Cx}
theorem fin1 {K : PySem.W.Frag} {H : Hp} {W : Addr → Prop} {Q : R → Prop} {F : VK} {v : V} {p : PV} (f : ∀ v H' z, Same H H' → ResV K H W H' z v → Q z → F v H') (h : Is K H W p v) (q : Q (.pv p)) : F v H := f v H (.pv p) (Same.refl H) h q

/-! ### arithmetic -/
theorem sOk_append {a b : Str} (h1 : sOk a = true) (h2 : sOk b = true) : sOk (a ++ b) = true := by
  have e1 : a.cps.all (· < 0x110000) = true := h1
  have e2 : b.cps.all (· < 0x110000) = true := h2
  show (a ++ b).cps.all (· < 0x110000) = true
  show (a.cps ++ b.cps).all (· < 0x110000) = true
  rw [Array.all_append, e1, e2]; rfl
def gAdd : G2
  | .int i, .int j, Q => Q (.pv (.int (i + j)))
  | .str a, .str b, Q => small (a.length + b.length) ∧ Q (.pv (.str (a ++ b)))
  | .tup a, .tup b, Q => small (a.length + b.length) ∧ Q (.pv (.tup (a ++ b)))
  | .lst a, .lst b, Q => small (a.length + b.length) ∧ Q (.fr (.lst (a ++ b)))
  | _, _, _ => False
theorem op_addP : OpP X (binaryOp .Add) gAdd := by
  refine ⟨_, op_add.or (op_add_str.or (op_catA.or op_cat)), fun H W p q x y Q F m l1 l2 g f => ?_⟩
  cases p <;> cases q <;> first
    | exact g.elim
    | skip
  · cases (show x = _ from l1); cases (show y = _ from l2)
    exact .inl ⟨_, _, rfl, rfl, fin1 f (p := .int _) rfl g⟩
  · obtain ⟨e1, o1⟩ : x = .str _ ∧ sOk _ = true := l1
    obtain ⟨e2, o2⟩ : y = .str _ ∧ sOk _ = true := l2
    subst e1 e2
    exact .inr (.inl ⟨_, _, rfl, rfl, g.1, fin1 f (p := .str _) ⟨rfl, sOk_append o1 o2⟩ g.2⟩)
  · rename_i ps qs
    obtain ⟨a, vs, e1, r1, i1⟩ : ∃ a vs, x = .ref a ∧ H a = some (.tup vs) ∧ Iss X.K H W ps vs := l1
    obtain ⟨b, us, e2, r2, i2⟩ : ∃ a vs, y = .ref a ∧ H a = some (.tup vs) ∧ Iss X.K H W qs vs := l2
    subst e1 e2
    have sm : vs.length + us.length ≤ sizeLine := by rw [← i1.length, ← i2.length]; exact small_le g.1
    refine .inr (.inr (.inl ⟨a, b, vs, us, rfl, rfl, .inl (.inl r1), .inl (.inl r2), sm, fun e => ?_, fun _ e => ?_, fun _ _ p hp => f _ _ _ (same_new hp) (resTup m (i1.append i2) hp) g.2⟩))
    · have ep : ps = [] := List.length_eq_zero_iff.mp (by rw [i1.length, e]; rfl)
      subst ep
      exact fin1 f (p := .tup qs) ⟨b, us, rfl, r2, i2⟩ g.2
    · have ep : qs = [] := List.length_eq_zero_iff.mp (by rw [i2.length, e]; rfl)
      subst ep
      have g2 : Q (.pv (.tup (ps ++ []))) := g.2
      rw [List.append_nil] at g2
      exact fin1 f (p := .tup ps) ⟨a, vs, rfl, r1, i1⟩ g2
  · rename_i ps qs
    obtain ⟨a, vs, e1, r1, i1⟩ : ∃ a vs, x = .ref a ∧ H a = some (.lst vs) ∧ Iss X.K H W ps vs := l1
    obtain ⟨b, us, e2, r2, i2⟩ : ∃ a vs, y = .ref a ∧ H a = some (.lst vs) ∧ Iss X.K H W qs vs := l2
    subst e1 e2
    have sm : vs.length + us.length ≤ sizeLine := by rw [← i1.length, ← i2.length]; exact small_le g.1
    exact .inr (.inr (.inr ⟨a, b, vs, us, rfl, rfl, r1, r2, sm, fun p hp => f _ _ _ (same_new hp) (resLst m (i1.append i2) hp) g.2⟩))
def gInt (C : Int → Int → Prop) (h : Int → Int → PV) : G2
  | .int i, .int j, Q => C i j ∧ Q (.pv (h i j))
  | _, _, _ => False
theorem op_int {fo : Value → Value → Sem Value} {C : Int → Int → Prop} {g : Int → Int → V} {h : Int → Int → PV} (ho : OpR X fo (rI C g)) (hh : ∀ K H W i j, Is K H W (h i j) (g i j)) : OpP X fo (gInt C h) := by
  refine ⟨_, ho, fun H W p q x y Q F m l1 l2 z f => ?_⟩
  cases p <;> cases q <;> first
    | exact z.elim
    | skip
  cases (show x = _ from l1); cases (show y = _ from l2)
  exact ⟨_, _, rfl, rfl, z.1, fin1 f (hh _ _ _ _ _) z.2⟩
def gInt0 (h : Int → Int → PV) : G2
  | .int i, .int j, Q => Q (.pv (h i j))
  | _, _, _ => False
theorem op_int0 {fo : Value → Value → Sem Value} {g : Int → Int → V} {h : Int → Int → PV} (ho : OpR X fo (rI0 g)) (hh : ∀ K H W i j, Is K H W (h i j) (g i j)) : OpP X fo (gInt0 h) := by
  refine ⟨_, ho, fun H W p q x y Q F m l1 l2 z f => ?_⟩
  cases p <;> cases q <;> first
    | exact z.elim
    | skip
  cases (show x = _ from l1); cases (show y = _ from l2)
  exact ⟨_, _, rfl, rfl, fin1 f (hh _ _ _ _ _) z⟩
abbrev gSub := gInt0 fun i j => .int (i - j)
theorem op_subP : OpP X (binaryOp .Sub) gSub := op_int0 op_sub fun _ _ _ _ _ => rfl
abbrev gMul := gInt CMul fun i j => .int (i * j)
theorem op_mulP : OpP X (binaryOp .Mult) gMul := op_int op_mul fun _ _ _ _ _ => rfl
abbrev gMod := gInt (fun _ j => 0 < j) fun i j => .int (i % j)
theorem op_modP : OpP X (binaryOp .Mod) gMod := op_int op_mod fun _ _ _ _ _ => rfl
abbrev gDiv := gInt CDiv fun i j => .int (i / j)
theorem op_divP : OpP X (binaryOp .FloorDiv) gDiv := op_int op_fdiv fun _ _ _ _ _ => rfl
abbrev gPow := gInt CPow fun i j => .int (i ^ j.toNat)
theorem op_powP : OpP X (binaryOp .Pow) gPow := op_int op_pow fun _ _ _ _ _ => rfl
abbrev gLt := gInt0 fun i j => .bl (decide (i < j))
theorem op_ltP : OpP X (compareOp .Lt) gLt := op_int0 op_lt fun _ _ _ _ _ => rfl
abbrev gLe := gInt0 fun i j => .bl (decide (i ≤ j))
theorem op_leP : OpP X (compareOp .LtE) gLe := op_int0 op_le fun _ _ _ _ _ => rfl
abbrev gGt := gInt0 fun i j => .bl (decide (j < i))
theorem op_gtP : OpP X (compareOp .Gt) gGt := op_int0 op_gt fun _ _ _ _ _ => rfl
abbrev gGe := gInt0 fun i j => .bl (decide (j ≤ i))
theorem op_geP : OpP X (compareOp .GtE) gGe := op_int0 op_ge fun _ _ _ _ _ => rfl

/-! ### ==, in, is -/
def gEq (p : PV) (q : PV) (Q : R → Prop) : Prop := eqOk p ∧ eqOk q ∧ Q (.pv (.bl (peq p q)))
def gNe (p : PV) (q : PV) (Q : R → Prop) : Prop := eqOk p ∧ eqOk q ∧ Q (.pv (.bl (!peq p q)))
theorem op_eqP (hu : X.A.units + 64 < cLine) : OpP X (compareOp .Eq) gEq := by
  refine ⟨_, op_eqD hu, fun H W p q x y Q F m l1 l2 z f => ?_⟩
  obtain ⟨h1, h2, h3⟩ := z
  obtain ⟨d1, c1, z1⟩ := lk_dp h1.1 l1
  obtain ⟨d2, c2, z2⟩ := lk_dp h2.1 l2
  exact ⟨_, _, d1, d2, shaped_of c1 z1 h1, shaped_of c2 z2 h2, fin1 f (p := .bl _) rfl h3⟩
theorem op_neP (hu : X.A.units + 64 < cLine) : OpP X (compareOp .NotEq) gNe := by
  refine ⟨_, op_neD hu, fun H W p q x y Q F m l1 l2 z f => ?_⟩
  obtain ⟨h1, h2, h3⟩ := z
  obtain ⟨d1, c1, z1⟩ := lk_dp h1.1 l1
  obtain ⟨d2, c2, z2⟩ := lk_dp h2.1 l2
  exact ⟨_, _, d1, d2, shaped_of c1 z1 h1, shaped_of c2 z2 h2, fin1 f (p := .bl _) rfl h3⟩
/-- among the items of a list -/
def memP (p : PV) (qs : List PV) : Bool := qs.any fun z => peq z p
theorem any_toDs (p : PV) : ∀ qs : List PV, (toDs qs).any (fun z => PyData.eqv z (toD p)) = memP p qs
  | [] => rfl
  | q :: qs => by
    show (PyData.eqv (toD q) (toD p) || (toDs qs).any _) = (peq q p || memP p qs)
    rw [any_toDs p qs]; rfl
theorem lk_is {K : PySem.W.Frag} {H : Hp} {W : Addr → Prop} {p : PV} {k : Key} {v : V} (l : Lk K H W p v) (e : keyP p = some k) : v = kV k ∧ keyOk k = true := by
  refine keyP_is (K := K) (H := H) (W := W) (p := p) ?_ e
  cases p with
  | int i => exact l
  | str s => exact l
  | _ => cases e
def gIn (p q : PV) (Q : R → Prop) : Prop := match q with
  | .lst qs => eqOk p ∧ eqOk (.lst qs) ∧ Q (.pv (.bl (memP p qs)))
  | .tup qs => eqOk p ∧ eqOk (.tup qs) ∧ Q (.pv (.bl (memP p qs)))
  | .dic ks ps => match keyP p with
    | some k => Q (.pv (.bl ((getD ks ps k).isSome)))
    | none => False
  | _ => False
theorem op_inP (hu : X.A.units + 65 < cLine) : OpP X (compareOp .In) gIn := by
  refine ⟨_, OpR.or (op_inD hu) (OpR.or (op_inTD hu) (op_inK hu)), fun H W p q x y Q F m l1 l2 z f => ?_⟩
  unfold gIn at z
  cases q with
  | lst qs =>
    obtain ⟨h1, h2, h3⟩ := z
    obtain ⟨d1, c1, z1⟩ := lk_dp h1.1 l1
    obtain ⟨d2, c2, z2⟩ := lk_dp h2.1 l2
    refine .inl ⟨_, _, d1, d2, shaped_of c1 z1 h1, shaped_of c2 z2 h2, fin1 f (p := .bl _) rfl (?_ : Q (.pv (.bl _)))⟩
    rw [any_toDs]; exact h3
  | tup qs =>
    obtain ⟨h1, h2, h3⟩ := z
    obtain ⟨d1, c1, z1⟩ := lk_dp h1.1 l1
    obtain ⟨d2, c2, z2⟩ := lk_dp h2.1 l2
    refine .inr (.inl ⟨_, _, d1, d2, shaped_of c1 z1 h1, shaped_of c2 z2 h2, fin1 f (p := .bl _) rfl (?_ : Q (.pv (.bl _)))⟩)
    rw [any_toDs]
    cases e : memP p qs <;> rw [e] at h3 <;> exact h3
  | dic ks ps =>
    obtain ⟨a, vs, e1, r1, le, ok, i1⟩ := l2
    subst e1
    cases e : keyP p with
    | none => rw [e] at z; exact z.elim
    | some k =>
      rw [e] at z
      dsimp only at z
      obtain ⟨e2, _⟩ := lk_is l1 e
      refine .inr (.inr ⟨a, _, k, rfl, r1, e2, fin1 f (p := .bl _) rfl (?_ : Q (.pv (.bl _)))⟩)
      rw [getD_val le, getD_some_is i1]
      cases e : (getD ks ps k).isSome <;> rw [e] at z <;> exact z
  | _ => exact z.elim
def gNotIn (p q : PV) (Q : R → Prop) : Prop := match q with
  | .lst qs => eqOk p ∧ eqOk (.lst qs) ∧ Q (.pv (.bl (!memP p qs)))
  | .tup qs => eqOk p ∧ eqOk (.tup qs) ∧ Q (.pv (.bl (!memP p qs)))
  | .dic ks ps => match keyP p with
    | some k => Q (.pv (.bl (!(getD ks ps k).isSome)))
    | none => False
  | _ => False
theorem op_notInP (hu : X.A.units + 65 < cLine) : OpP X (compareOp .NotIn) gNotIn := by
  refine ⟨_, OpR.or (op_notInD hu) (OpR.or (op_notInTD hu) (op_notInK hu)), fun H W p q x y Q F m l1 l2 z f => ?_⟩
  unfold gNotIn at z
  cases q with
  | lst qs =>
    obtain ⟨h1, h2, h3⟩ := z
    obtain ⟨d1, c1, z1⟩ := lk_dp h1.1 l1
    obtain ⟨d2, c2, z2⟩ := lk_dp h2.1 l2
    refine .inl ⟨_, _, d1, d2, shaped_of c1 z1 h1, shaped_of c2 z2 h2, fin1 f (p := .bl _) rfl (?_ : Q (.pv (.bl _)))⟩
    rw [any_toDs]; exact h3
  | tup qs =>
    obtain ⟨h1, h2, h3⟩ := z
    obtain ⟨d1, c1, z1⟩ := lk_dp h1.1 l1
    obtain ⟨d2, c2, z2⟩ := lk_dp h2.1 l2
    refine .inr (.inl ⟨_, _, d1, d2, shaped_of c1 z1 h1, shaped_of c2 z2 h2, fin1 f (p := .bl _) rfl (?_ : Q (.pv (.bl _)))⟩)
    rw [any_toDs]
    cases e : memP p qs <;> rw [e] at h3 <;> exact h3
  | dic ks ps =>
    obtain ⟨a, vs, e1, r1, le, ok, i1⟩ := l2
    subst e1
    cases e : keyP p with
    | none => rw [e] at z; exact z.elim
    | some k =>
      rw [e] at z
      dsimp only at z
      obtain ⟨e2, _⟩ := lk_is l1 e
      refine .inr (.inr ⟨a, _, k, rfl, r1, e2, fin1 f (p := .bl _) rfl (?_ : Q (.pv (.bl _)))⟩)
      rw [getD_val le, getD_some_is i1]
      cases e : (getD ks ps k).isSome <;> rw [e] at z <;> exact z
  | _ => exact z.elim
def isNon : PV → Bool
  | .non => true
  | _ => false
def gIs : G2
  | p, .non, Q => Q (.pv (.bl (isNon p)))
  | _, _, _ => False
def gIsNot : G2
  | p, .non, Q => Q (.pv (.bl (!isNon p)))
  | _, _, _ => False
theorem isNon_iff {K : PySem.W.Frag} {H : Hp} {W : Addr → Prop} {p : PV} {x : V} (l : Lk K H W p x) : decide (x = .non) = isNon p := by
  cases p with
  | non => cases (show x = .non from l); rfl
  | bl b => cases (show x = _ from l); rfl
  | int b => cases (show x = _ from l); rfl
  | ty b => cases (show x = _ from l); rfl
  | str s => obtain ⟨e, _⟩ : x = .str s ∧ sOk s = true := l; subst e; rfl
  | tup ps => obtain ⟨a, vs, e, _⟩ : ∃ a vs, x = .ref a ∧ H a = some (.tup vs) ∧ Iss K H W ps vs := l; subst e; rfl
  | lst ps => obtain ⟨a, vs, e, _⟩ := l; subst e; rfl
  | dic ks ps => obtain ⟨a, vs, e, _⟩ := l; subst e; rfl
  | scr ns => obtain ⟨a, e, _⟩ : ∃ a, x = .ref a ∧ _ := l; subst e; rfl
  | nst t c s => obtain ⟨a, e, _⟩ := l; subst e; rfl
theorem op_isP : OpP X (compareOp .Is) gIs := by
  refine ⟨_, op_isN, fun H W p q x y Q F m l1 l2 z f => ?_⟩
  cases q with
  | non =>
    cases (show y = .non from l2)
    have z' : Q (.pv (.bl (isNon p))) := by cases p <;> exact z
    exact ⟨rfl, fin1 f (p := .bl (isNon p)) (by rw [← isNon_iff l1]; rfl) z'⟩
  | _ => cases p <;> exact z.elim
theorem op_isNotP : OpP X (compareOp .IsNot) gIsNot := by
  refine ⟨_, op_notN, fun H W p q x y Q F m l1 l2 z f => ?_⟩
  cases q with
  | non =>
    cases (show y = .non from l2)
    have z' : Q (.pv (.bl (!isNon p))) := by cases p <;> exact z
    exact ⟨rfl, fin1 f (p := .bl (!isNon p)) (by rw [← isNon_iff l1]; rfl) z'⟩
  | _ => cases p <;> exact z.elim

/-! ### x[i] -/
def getP (ps : List PV) (i : Int) (Q : R → Prop) : Prop := match atI ps i with
  | some p => Q (.pv p)
  | none => False
def gIx : G2
  | .tup ps, .int i, Q => getP ps i Q
  | .lst ps, .int i, Q => getP ps i Q
  | .str s, .int i, Q => small s.length ∧ match atI s.cps.toList i with
    | some c => Q (.pv (.str ⟨#[c]⟩))
    | none => False
  | .dic ks ps, p, Q => match keyP p with
    | some k => match getD ks ps k with
      | some q => Q (.pv q)
      | none => False
    | none => False
  | _, _, _ => False
theorem at_iss {K : PySem.W.Frag} {H : Hp} {W : Addr → Prop} {ps : List PV} {vs : List V} {i : Int} {p : PV} (h : Iss K H W ps vs) (e : atI ps i = some p) : ∃ v, atI vs i = some v ∧ Is K H W p v := by
  unfold atI at e ⊢
  rw [h.length] at e
  cases z : ixN vs.length i with
  | none => rw [z] at e; cases e
  | some j => rw [z] at e; exact h.getP e
theorem sOk_at {s : Str} (h : sOk s = true) {i : Int} {c : Nat} (e : atI s.cps.toList i = some c) : sOk ⟨#[c]⟩ = true := by
  unfold atI at e
  cases z : ixN s.cps.toList.length i with
  | none => rw [z] at e; cases e
  | some j =>
    rw [z] at e
    exact sOk_one h (i := j) (by simpa using e)
theorem ix_P : IxP X gIx := by
  refine ⟨_, ix_list.or (ix_tup.or (ix_str.or ix_dict)), fun H W p q x y Q F m l1 l2 z f => ?_⟩
  cases p with
  | dic ks ps =>
    obtain ⟨a, vs, e1, r1, le, ok, i1⟩ := l1
    subst e1
    have z' : (match keyP q with
      | some k => match getD ks ps k with
        | some q => Q (.pv q)
        | none => False
      | none => False) := by cases q <;> exact z
    cases e : keyP q with
    | none => rw [e] at z'; exact z'.elim
    | some k =>
      rw [e] at z'
      dsimp only at z'
      obtain ⟨e2, _⟩ := lk_is l2 e
      cases e3 : getD ks ps k with
      | none => rw [e3] at z'; exact z'.elim
      | some p =>
        rw [e3] at z'
        obtain ⟨v, hv, hi⟩ := getD_is i1 e3
        exact .inr (.inr (.inr ⟨a, _, k, v, rfl, r1, e2, by rw [getD_val le]; exact hv, fin1 f hi z'⟩))
  | tup ps =>
    cases q with
    | int i =>
      cases (show y = _ from l2)
      obtain ⟨a, vs, e1, r1, i1⟩ : ∃ a vs, x = .ref a ∧ H a = some (.tup vs) ∧ Iss X.K H W ps vs := l1
      subst e1
      have z' : getP ps i Q := z
      unfold getP at z'
      cases e : atI ps i with
      | none => rw [e] at z'; exact z'.elim
      | some p =>
        rw [e] at z'
        obtain ⟨v, hv, hi⟩ := at_iss i1 e
        exact .inr (.inl ⟨a, vs, _, v, rfl, rfl, .inl (.inl r1), hv, fin1 f hi z'⟩)
    | _ => exact z.elim
  | lst ps =>
    cases q with
    | int i =>
      cases (show y = _ from l2)
      obtain ⟨a, vs, e1, r1, i1⟩ : ∃ a vs, x = .ref a ∧ H a = some (.lst vs) ∧ Iss X.K H W ps vs := l1
      subst e1
      have z' : getP ps i Q := z
      unfold getP at z'
      cases e : atI ps i with
      | none => rw [e] at z'; exact z'.elim
      | some p =>
        rw [e] at z'
        obtain ⟨v, hv, hi⟩ := at_iss i1 e
        exact .inl ⟨a, vs, _, v, rfl, rfl, .inl (.inl r1), hv, fin1 f hi z'⟩
    | _ => exact z.elim
  | str s =>
    cases q with
    | int i =>
      cases (show y = _ from l2)
      obtain ⟨e1, ok⟩ : x = .str s ∧ sOk s = true := l1
      subst e1
      obtain ⟨z1, z'⟩ : small s.length ∧ (match atI s.cps.toList i with
        | some c => Q (.pv (.str ⟨#[c]⟩))
        | none => False) := z
      cases e : atI s.cps.toList i with
      | none => rw [e] at z'; exact z'.elim
      | some c =>
        rw [e] at z'
        exact .inr (.inr (.inl ⟨s, i, c, rfl, rfl, z1, e, fin1 f (p := .str _) ⟨rfl, sOk_at ok e⟩ z'⟩))
    | _ => exact z.elim
  | _ => cases q <;> exact z.elim

/-! ### built-ins -/
def gLen : GL
  | [.str s], Q => small s.length ∧ Q (.pv (.int (s.length : Nat)))
  | [.tup ps], Q => Q (.pv (.int (ps.length : Nat)))
  | [.lst ps], Q => Q (.pv (.int (ps.length : Nat)))
  | [.dic ks _], Q => Q (.pv (.int (ks.length : Nat)))
  | _, _ => False
theorem lks1 {K : PySem.W.Frag} {H : Hp} {W : Addr → Prop} {p : PV} {xs : List V} (h : Lks K H W [p] xs) : ∃ x, xs = [x] ∧ Lk K H W p x := by
  cases h with
  | cons h t => cases t; exact ⟨_, rfl, h⟩
theorem lks2 {K : PySem.W.Frag} {H : Hp} {W : Addr → Prop} {p q : PV} {xs : List V} (h : Lks K H W [p, q] xs) : ∃ x y, xs = [x, y] ∧ Lk K H W p x ∧ Lk K H W q y := by
  cases h with
  | cons h t =>
    obtain ⟨y, rfl, h2⟩ := lks1 t
    exact ⟨_, y, rfl, h, h2⟩
theorem CallR.or {f : Value} {r r' : List V → Hp → VK → Prop} (h : CallR X f r) (h' : CallR X f r') : CallR X f (fun xs H Q => r xs H Q ∨ r' xs H Q) := by
  intro pins s σ H xs us Q I rs q
  rcases q with q | q
  · exact h pins s σ H xs us Q I rs q
  · exact h' pins s σ H xs us Q I rs q
theorem call_lenP : CallP X (.builtin "len") gLen := by
  refine ⟨_, CallR.or call_len call_lenK, fun H W ps xs Q F m l g f => ?_⟩
  unfold gLen at g
  split at g
  · rename_i s
    obtain ⟨x, rfl, h⟩ := lks1 l
    obtain ⟨e, _⟩ : x = .str s ∧ sOk s = true := h
    subst e
    exact .inl ⟨_, _, rfl, ⟨g.1, rfl⟩, fin1 f (p := .int _) rfl g.2⟩
  · rename_i ps
    obtain ⟨x, rfl, h⟩ := lks1 l
    obtain ⟨a, vs, e, r, i⟩ : ∃ a vs, x = .ref a ∧ H a = some (.tup vs) ∧ Iss X.K H W ps vs := h
    subst e
    exact .inl ⟨_, vs.length, rfl, .inr ⟨vs, .inl (.inl r), rfl⟩, fin1 f (p := .int _) rfl (by rw [← i.length]; exact g)⟩
  · rename_i ps
    obtain ⟨x, rfl, h⟩ := lks1 l
    obtain ⟨a, vs, e, r, i⟩ := h
    subst e
    exact .inl ⟨_, vs.length, rfl, .inl ⟨vs, .inl (.inl r), rfl⟩, fin1 f (p := .int _) rfl (by rw [← i.length]; exact g)⟩
  · rename_i ks ps
    obtain ⟨x, rfl, h⟩ := lks1 l
    obtain ⟨a, vs, e, r, le, _, _⟩ := h
    subst e
    exact .inr ⟨a, _, rfl, r, fin1 f (p := .int _) rfl (by rw [zip_len le]; exact g)⟩
  · exact g.elim
def gAbs : GL
  | [.int i], Q => Q (.pv (.int (if i < 0 then -i else i)))
  | _, _ => False
theorem call_absP : CallP X (.builtin "abs") gAbs := by
  refine ⟨_, call_abs, fun H W ps xs Q F m l g f => ?_⟩
  unfold gAbs at g
  split at g
  · obtain ⟨x, rfl, h⟩ := lks1 l
    cases (show x = _ from h)
    exact ⟨_, rfl, fin1 f (p := .int _) rfl g⟩
  · exact g.elim
def b2n (b : Bool) : Int := if b then 1 else 0
def gIntC : GL
  | [.int i], Q => Q (.pv (.int i))
  | [.bl b], Q => Q (.pv (.int (b2n b)))
  | _, _ => False
theorem call_intP : CallP X (.type "int") gIntC := by
  refine ⟨_, call_int1, fun H W ps xs Q F m l g f => ?_⟩
  unfold gIntC at g
  split at g
  · obtain ⟨x, rfl, h⟩ := lks1 l
    cases (show x = _ from h)
    exact .inl ⟨_, rfl, fin1 f (p := .int _) rfl g⟩
  · obtain ⟨x, rfl, h⟩ := lks1 l
    cases (show x = _ from h)
    exact .inr ⟨_, rfl, fin1 f (p := .int _) rfl g⟩
  · exact g.elim
/-- a list of ints; of truths -/
def asInts : List PV → Option (List Int)
  | [] => some []
  | .int i :: ps => (asInts ps).map (i :: ·)
  | _ :: _ => none
def asBls : List PV → Option (List Bool)
  | [] => some []
  | .bl b :: ps => (asBls ps).map (b :: ·)
  | _ :: _ => none
theorem asInts_iss {K : PySem.W.Frag} {H : Hp} {W : Addr → Prop} : ∀ {ps : List PV} {vs : List V} {ns : List Int}, Iss K H W ps vs → asInts ps = some ns → vs = ns.map V.int
  | [], _, _, h, e => by cases (show _ = [] from h); cases e; rfl
  | p :: ps, vs, ns, h, e => by
    obtain ⟨v, r, e1, h1, h2⟩ := h
    subst e1
    cases p with
    | int i =>
      have e' : (asInts ps).map (i :: ·) = some ns := e
      cases z : asInts ps with
      | none => rw [z] at e'; cases e'
      | some ms => rw [z] at e'; cases e'; cases (show v = .int i from h1); rw [asInts_iss h2 z]; rfl
    | _ => cases e
theorem asBls_iss {K : PySem.W.Frag} {H : Hp} {W : Addr → Prop} : ∀ {ps : List PV} {vs : List V} {ns : List Bool}, Iss K H W ps vs → asBls ps = some ns → vs = ns.map V.bl
  | [], _, _, h, e => by cases (show _ = [] from h); cases e; rfl
  | p :: ps, vs, ns, h, e => by
    obtain ⟨v, r, e1, h1, h2⟩ := h
    subst e1
    cases p with
    | bl i =>
      have e' : (asBls ps).map (i :: ·) = some ns := e
      cases z : asBls ps with
      | none => rw [z] at e'; cases e'
      | some ms => rw [z] at e'; cases e'; cases (show v = .bl i from h1); rw [asBls_iss h2 z]; rfl
    | _ => cases e
def gSum (ps : List PV) (Q : R → Prop) : Prop := match ps with
  | [.lst ps] => match asInts ps with
    | some ns => Q (.pv (.int ns.sum))
    | none => False
  | _ => False
theorem call_sumP (hc : X.calm = true) : CallP X (.builtin "sum") gSum := by
  refine ⟨_, cr_sum hc, fun H W ps xs Q F m l g f => ?_⟩
  unfold gSum at g
  split at g
  · split at g
    · rename_i ps _ ns e
      obtain ⟨x, rfl, h⟩ := lks1 l
      obtain ⟨a, vs, e1, r, i⟩ := h
      subst e1
      exact ⟨a, ns, rfl, by rw [← asInts_iss i e]; exact .inl (.inl r), fin1 f (p := .int _) rfl g⟩
    · exact g.elim
  · exact g.elim
def maxI : Int → List Int → Int
  | m, [] => m
  | m, n :: ns => maxI (if n > m then n else m) ns
theorem maxI_ge : ∀ (ns : List Int) (m : Int), m ≤ maxI m ns ∧ (∀ n ∈ ns, n ≤ maxI m ns) ∧ (maxI m ns = m ∨ maxI m ns ∈ ns)
  | [], m => ⟨Int.le_refl _, fun n h => by simp at h, .inl rfl⟩
  | n :: ns, m => by
    obtain ⟨h1, h2, h3⟩ := maxI_ge ns (if n > m then n else m)
    unfold maxI
    refine ⟨?_, fun k hk => ?_, ?_⟩
    · split at h1 <;> split <;> omega
    · rcases List.mem_cons.mp hk with rfl | hk
      · split at h1 <;> split <;> omega
      · exact h2 k hk
    · rcases h3 with e | e
      · rw [e]
        split
        · exact .inr List.mem_cons_self
        · exact .inl rfl
      · exact .inr (List.mem_cons_of_mem _ e)
def gMax (ps : List PV) (Q : R → Prop) : Prop := match ps with
  | [.lst ps] => match asInts ps with
    | some (n :: ns) => Q (.pv (.int (maxI n ns)))
    | _ => False
  | _ => False
theorem call_maxP (hc : X.calm = true) : CallP X (.builtin "max") gMax := by
  refine ⟨_, cr_max hc, fun H W ps xs Q F m l g f => ?_⟩
  unfold gMax at g
  split at g
  · split at g
    · rename_i ps _ n ns e
      obtain ⟨x, rfl, h⟩ := lks1 l
      obtain ⟨a, vs, e1, r, i⟩ := h
      subst e1
      refine ⟨a, n :: ns, rfl, by rw [← asInts_iss i e]; exact .inl (.inl r), by simp, fun k hk hm => ?_⟩
      obtain ⟨h1, h2, h3⟩ := maxI_ge ns n
      have ek : k = maxI n ns := by
        have a1 : k ≤ maxI n ns := by
          rcases List.mem_cons.mp hk with rfl | hk
          · exact h1
          · exact h2 k hk
        have a2 : maxI n ns ≤ k := by
          rcases h3 with e | e
          · rw [e]; exact hm n List.mem_cons_self
          · exact hm _ (List.mem_cons_of_mem _ e)
        omega
      rw [ek]
      exact fin1 f (p := .int _) rfl g
    · exact g.elim
  · exact g.elim
def gAll (ps : List PV) (Q : R → Prop) : Prop := match ps with
  | [.lst ps] => match asBls ps with
    | some bs => Q (.pv (.bl (bs.all id)))
    | none => False
  | _ => False
theorem call_allP (hc : X.calm = true) : CallP X (.builtin "all") gAll := by
  refine ⟨_, cr_all hc, fun H W ps xs Q F m l g f => ?_⟩
  unfold gAll at g
  split at g
  · split at g
    · rename_i ps _ ns e
      obtain ⟨x, rfl, h⟩ := lks1 l
      obtain ⟨a, vs, e1, r, i⟩ := h
      subst e1
      exact ⟨a, ns, rfl, by rw [← asBls_iss i e]; exact .inl (.inl r), fin1 f (p := .bl _) rfl g⟩
    · exact g.elim
  · exact g.elim
def gAny (ps : List PV) (Q : R → Prop) : Prop := match ps with
  | [.lst ps] => match asBls ps with
    | some bs => Q (.pv (.bl (bs.any id)))
    | none => False
  | _ => False
theorem call_anyP (hc : X.calm = true) : CallP X (.builtin "any") gAny := by
  refine ⟨_, cr_any hc, fun H W ps xs Q F m l g f => ?_⟩
  unfold gAny at g
  split at g
  · split at g
    · rename_i ps _ ns e
      obtain ⟨x, rfl, h⟩ := lks1 l
      obtain ⟨a, vs, e1, r, i⟩ := h
      subst e1
      exact ⟨a, ns, rfl, by rw [← asBls_iss i e]; exact .inl (.inl r), fin1 f (p := .bl _) rfl g⟩
    · exact g.elim
  · exact g.elim
/-- list(x), tuple(x) -/
def gList : GL
  | [.lst ps], Q => Q (.fr (.lst ps))
  | [.tup ps], Q => Q (.fr (.lst ps))
  | [.scr ns], Q => Q (.fr (.lst (ns.map PV.int)))
  | _, _ => False
theorem call_listP : CallP X (.type "list") gList := by
  refine ⟨_, call_list_of, fun H W ps xs Q F m l g f => ?_⟩
  unfold gList at g
  split at g
  · rename_i ps
    obtain ⟨x, rfl, h⟩ := lks1 l
    obtain ⟨a, vs, e, r, i⟩ := h
    subst e
    exact ⟨a, vs, rfl, .inl (.inl (.inl r)), fun p hp => f _ _ _ (same_new hp) (resLst m i hp) g⟩
  · rename_i ps
    obtain ⟨x, rfl, h⟩ := lks1 l
    obtain ⟨a, vs, e, r, i⟩ : ∃ a vs, x = .ref a ∧ H a = some (.tup vs) ∧ Iss X.K H W ps vs := h
    subst e
    exact ⟨a, vs, rfl, .inr (.inl (.inl r)), fun p hp => f _ _ _ (same_new hp) (resLst m i hp) g⟩
  · rename_i ns
    obtain ⟨x, rfl, h⟩ := lks1 l
    obtain ⟨a, e, r⟩ : ∃ a, x = .ref a ∧ ((∃ o, H a = some (.frz o (.lst (ns.map V.int)))) ∨ KLst X.K a (ns.map V.int)) := h
    subst e
    refine ⟨a, ns.map V.int, rfl, .inl ?_, fun p hp => f _ _ _ (same_new hp) (resLst m (Iss.ints ns) hp) g⟩
    rcases r with ⟨o, r⟩ | r
    · exact .inl (.inr ⟨o, r⟩)
    · exact .inr r
  · exact g.elim
def gTuple : GL
  | [.lst ps], Q => Q (.pv (.tup ps))
  | [.tup ps], Q => Q (.pv (.tup ps))
  | _, _ => False
theorem call_tupleP : CallP X (.type "tuple") gTuple := by
  refine ⟨_, call_tuple_of, fun H W ps xs Q F m l g f => ?_⟩
  unfold gTuple at g
  split at g
  · rename_i ps
    obtain ⟨x, rfl, h⟩ := lks1 l
    obtain ⟨a, vs, e, r, i⟩ := h
    subst e
    exact ⟨a, vs, rfl, .inl ⟨.inl (.inl r), fun p hp => f _ _ _ (same_new hp) (resTup m i hp) g⟩⟩
  · rename_i ps
    obtain ⟨x, rfl, h⟩ := lks1 l
    obtain ⟨a, vs, e, r, i⟩ : ∃ a vs, x = .ref a ∧ H a = some (.tup vs) ∧ Iss X.K H W ps vs := h
    subst e
    exact ⟨a, vs, rfl, .inr ⟨.inl (.inl r), fin1 f (p := .tup ps) ⟨a, vs, rfl, r, i⟩ g⟩⟩
  · exact g.elim
/-- isinstance with one built-in type -/
def tyN : PV → String
  | .non => "NoneType"
  | .bl _ => "bool"
  | .int _ => "int"
  | .str _ => "str"
  | .tup _ => "tuple"
  | .lst _ => "list"
  | .dic _ _ => "dict"
  | .scr _ => ""
  | .nst _ _ _ => ""
  | .ty _ => ""
def isTy (p : PV) (T : String) : Bool := tyN p == T || (tyN p == "bool" && T == "int")
def tyOk (T : String) : Prop := T ∈ ["str", "tuple", "int", "bool", "list", "dict"]
theorem kit_all : ∀ a ∈ ["NoneType", "bool", "int", "str", "tuple", "list", "dict"], ∀ T ∈ ["str", "tuple", "int", "bool", "list", "dict"], kitB a T = some (a == T || (a == "bool" && T == "int")) := by decide +kernel
def gIsi : GL
  | [p, .ty T], Q => (tyN p ≠ "" ∧ tyOk T) ∧ Q (.pv (.bl (isTy p T)))
  | _, _ => False
theorem tyx_of {K : PySem.W.Frag} {H : Hp} {W : Addr → Prop} {p : PV} {x : V} (l : Lk K H W p x) (n : tyN p ≠ "") : TyX K H x (.type (tyN p)) ∧ tyN p ∈ ["NoneType", "bool", "int", "str", "tuple", "list", "dict"] := by
  cases p with
  | non => cases (show x = _ from l); exact ⟨.base .non, by decide⟩
  | bl b => cases (show x = _ from l); exact ⟨.base (.bl b), by simp [tyN]⟩
  | int i => cases (show x = _ from l); exact ⟨.base (.int i), by simp [tyN]⟩
  | str s => obtain ⟨e, _⟩ : x = .str s ∧ sOk s = true := l; subst e; exact ⟨.base (.str s), by simp [tyN]⟩
  | tup ps => obtain ⟨a, vs, e, r, _⟩ : ∃ a vs, x = .ref a ∧ H a = some (.tup vs) ∧ Iss K H W ps vs := l; subst e; exact ⟨.base (.tup r), by simp [tyN]⟩
  | lst ps => obtain ⟨a, vs, e, r, _⟩ := l; subst e; exact ⟨.base (.lst r), by simp [tyN]⟩
  | dic ks ps =>
    obtain ⟨a, vs, e, r, _⟩ := l
    subst e
    rcases r with r | ⟨o, r⟩
    · exact ⟨.base (.dK r), by simp [tyN]⟩
    · exact ⟨.fDict r, by simp [tyN]⟩
  | scr ns => exact absurd rfl n
  | nst t c s => exact absurd rfl n
  | ty s => exact absurd rfl n
theorem call_isiP : CallP X (.builtin "isinstance") gIsi := by
  refine ⟨_, call_isi, fun H W ps xs Q F m l g f => ?_⟩
  unfold gIsi at g
  split at g
  · rename_i p T
    obtain ⟨x, y, rfl, h1, h2⟩ := lks2 l
    cases (show y = .ty T from h2)
    obtain ⟨t, mem⟩ := tyx_of h1 g.1.1
    exact ⟨x, .ty T, _, _, isTy p T, rfl, .ty T, t, kit_ty (kit_all _ mem T g.1.2), fin1 f (p := .bl _) rfl g.2⟩
  · exact g.elim
theorem qe_ty {T : String} {x : Str} {pos : Pos} (hm : X.mg x = none) (hg : Gl X x := by rfl) (hv : bootBuiltins x = some (.type T) := by decide +kernel) (hn : x ≠ "__name__" := by decide) (hd : (x == ("__debug__" : Str)) = false := by decide) : QE X (.Name x pos) (qK (.ty T)) :=
  ⟨_, pe_bltn (v := .ty T) hg hm hv rfl hn hd, rz_c fun _ _ => rfl⟩
/-- {} -/
def qDict0 (ρ : En) (Q : PK1) : Prop := Q (.fr (.dic [] [])) ρ
theorem qe_dict0 {pos : Pos} : QE X (.Dict [] [] pos) qDict0 := by
  refine ⟨_, pe_dnewK, fun G H σ ρ pd Q F R1 h f => ?_⟩
  intro d hd
  exact f _ ρ _ _ (res_of (z := .fr (.dic [] [])) R1 (same_new hd) ⟨d, .dK [], rfl, hd, upd_same, [], rfl, rfl, rfl, rfl⟩) h
end
end Px
namespace Px
open PySem L2 PyProof.Rows

/-- a def that keeps its promise, under its name -/
structure Has (P : Program) (w : World) (K : PySem.W.Frag) (mg : Str → Option Value) (base : Heap) (x : Str) (k : Nat) (ps : List Str) (S : FS) : Prop where
  ex : ∃ f fd, FnOk P w K mg base CX0 k f fd ps (spP K S) ∧ mg x = some (.ref f) ∧ PySem.W.keepIn K (.ref f) = true ∧ Binds K fd ps [] ∧ ∃ (y : Str) (o : Option Addr) (c : Value) (sl : Array (Option Value)), K.lookup f = some ⟨c, o, .func fd, sl⟩
theorem _root_.L2.Fun.at {K : PySem.W.Frag} {x y : Str} {st : Stmt} {f : Addr} {fd : FuncData} (F : Fun K x y st f fd) : ∃ (y : Str) (o : Option Addr) (c : Value) (sl : Array (Option Value)), K.lookup f = some ⟨c, o, .func fd, sl⟩ := by
  obtain ⟨oc, od, kV, doc, pm, an, cdv, ct, osl, e1, l1, _⟩ := F.ex
  exact ⟨x, od, oc, osl, l1⟩
/-- a def as it stands behind the top -/
structure IsDef (K : PySem.W.Frag) (mg : Str → Option Value) (x : Str) (st : Stmt) : Prop where
  ex : ∃ f fd, Fun K x x st f fd ∧ mg x = some (.ref f)
section
variable {P : Program} {w : World} {K : PySem.W.Frag} {mg : Str → Option Value} {base : Heap} {x : Str} {k j : Nat} {ps : List Str} {S S' : FS}
theorem Has.mono (h : Has P w K mg base x k ps S) (l : k ≤ j) : Has P w K mg base x j ps S := by
  obtain ⟨f, fd, F, r⟩ := h.ex
  exact ⟨f, fd, F.mono l, r⟩
/-- no call is allowed -/
theorem has_none {st : Stmt} (d : IsDef K mg x st) (b : ∀ {f : Addr} {fd : FuncData}, Fun K x x st f fd → Binds K fd ps []) (n : ∀ pvs, ¬ S.pre pvs) : Has P w K mg base x 0 ps S := by
  obtain ⟨f, fd, F, m⟩ := d.ex
  have no : ∀ vs H Q E, ¬ spP K S vs H Q E := fun vs H Q E h => by
    obtain ⟨pvs, _, _, _, _, _, pre, _⟩ := h
    exact n pvs pre
  exact ⟨f, fd, ⟨fun vs H Q E h => absurd h (no vs H Q E), fun A outer s H args us vs Q E _ _ _ _ h => absurd h (no vs H Q E)⟩, m, F.kp, b F, F.at⟩
end
section
variable {X : Cx} {k j : Nat} {x : Str} {ps : List Str} {S : FS} {e : Expr} {es : List Expr} {t : QTA} {p pos : Pos}
theorem qe_callH (h : Has X.prog X.w X.K X.mg X.base x j ps S) (hr : Room j X.A) (ha : QA X (e :: es) t) (hg : Gl X x := by rfl) (hdb : (x == ("__debug__" : Str)) = false := by decide)
    (he : starEach (e :: es) X.env = (false, eval e X.env) :: starEach es X.env := by rfl) (hpl : (backTo pos (starEach es X.env)).any (·.1) = false := by rfl) : QE X (.Call (.Name x p) (e :: es) [] pos) (qCall S t) := by
  obtain ⟨f, fd, F, m, kk, b, _⟩ := h.ex
  exact qe_call F hr m kk b ha hg hdb he hpl
def qNeg (t : QT) (ρ : En) (Q : PK1) : Prop := t ρ fun r ρ1 => match r with
  | .pv (.int i) => Q (.pv (.int (-i))) ρ1
  | _ => False
theorem qe_neg {a : Expr} {ta : QT} (ha : QE X a ta) : QE X (.UnaryOp .USub a pos) (qNeg ta) := by
  obtain ⟨t1, p1, q1⟩ := ha.ex
  refine ⟨_, pe_un un_neg p1, fun G H σ ρ pd Q F R1 h f => q1 G H σ ρ pd _ _ R1 h fun r ρ' v H' s g => ?_⟩
  cases r with
  | pv p =>
    cases p with
    | int i =>
      have e : v = .int i := s.pd (.int i, v) List.mem_cons_self
      subst e
      exact ⟨i, rfl, f (.pv (.int (-i))) ρ' _ H' (s.re.push rfl) g⟩
    | _ => exact g.elim
  | _ => exact g.elim
theorem room64 {k : Nat} {A : Around} (hr : Room k A) : A.units + 64 < cLine := by have := hr.un; omega
theorem room65 {k : Nat} {A : Around} (hr : Room k A) : A.units + 65 < cLine := by have := hr.un; omega
end

/-- a def's data from its place -/
theorem same_fd {P : Program} {w : World} {K : PySem.W.Frag} {mg : Str → Option Value} {base : Heap} {CX : CXT} {x y : Str} {st : Stmt} {f : Addr} {fd fd' : FuncData} {k : Nat} {ps : List Str} {sp : Sp} (h : Fun K x y st f fd) (F : FnOk P w K mg base CX k f fd' ps sp)
    (h' : ∃ (y : Str) (o : Option Addr) (c : Value) (sl : Array (Option Value)), K.lookup f = some ⟨c, o, .func fd', sl⟩) : FnOk P w K mg base CX k f fd ps sp := by
  obtain ⟨oc, od, kV, doc, pm, an, cdv, ct, osl, e1, l1, _⟩ := h.ex
  obtain ⟨_, _, _, _, l2⟩ := h'
  rw [l1] at l2
  cases l2
  exact F

/-! ### the law -/
def sLaw : FS := { io := [false], pre := fun ps => ∃ ns : List Int, ps = [.scr ns] ∧ ns.length ≤ 63, post := fun _ r _ => r = .bl true }
theorem law_sp {K : PySem.W.Frag} {H : Hp} {a : Addr} {ns : List Int} {E : XK} (hl : ns.length ≤ 63) (ho : Only H) (hs : SqL K H a (ns.map V.int)) : spP K sLaw [.ref a] H (fun v _ => v = .bl true) E := by
  have hi : (∃ o, H a = some (.frz o (.lst (ns.map V.int)))) ∨ KLst K a (ns.map V.int) := by
    rcases hs with (h | ⟨o, h⟩) | h
    · rcases ho a with z | ⟨o, xs, z⟩
      · rw [z] at h; cases h
      · rw [z] at h; cases h
    · exact .inl ⟨o, h⟩
    · exact .inr h
  have nio : ∀ b, ¬ Iob [false] [V.ref a] b := fun b ⟨i, e, _⟩ => by
    cases i with
    | zero => simp at e
    | succ i => simp at e
  have nown : ∀ (i : Nat) (b : Bool) (p : PV), (mk [false] [PV.scr ns])[i]? ≠ some (Sl.own b p) := fun i b p e => by
    obtain ⟨e1, _, _⟩ := mk_own e
    cases i with
    | zero => simp at e1
    | succ i => simp at e1
  refine ⟨[.scr ns], fun _ => False, fun _ => False, rfl, rfl, ⟨rfl, fun i p e => ?_, fun i b p e => absurd e (nown i b p), fun i j b c p q d e1 => absurd e1 (nown i b p), fun i b h => ?_, fun b o e => (G0_of e).2.2, fun b h => h.elim, fun x hx => by simp at hx, ⟨fun b h => h.elim, fun i b p a _ _ h => h.elim, fun i b c s e => absurd e (nown i b _)⟩⟩, ⟨ns, rfl, hl⟩, fun v H' r outs hp _ fin => ?_⟩
  · obtain ⟨e1, e2⟩ := mk_val e
    cases i with
    | zero => cases e2; exact ⟨.ref a, rfl, a, rfl, hi⟩
    | succ i => simp at e2
  · cases i with
    | zero => have := h.1; simp [sLaw] at this
    | succ i => have := h.1; simp [sLaw] at this
  · have hp' : r = .bl true := hp
    subst hp'
    exact fin.res rfl
end Px
namespace Px
open PySem L2 PyProof.Rows

/-! ### facts for readings -/
theorem eqOk_str (s : Str) : eqOk (.str s) := ⟨rfl, Nat.zero_le _⟩
theorem eqOk_int (i : Int) : eqOk (.int i) := ⟨rfl, Nat.zero_le _⟩
theorem eqOk_bl (b : Bool) : eqOk (.bl b) := ⟨rfl, Nat.zero_le _⟩
theorem eqOk_non : eqOk .non := ⟨rfl, Nat.zero_le _⟩
theorem peq_str (a b : Str) : peq (.str a) (.str b) = (a == b) := rfl
theorem peq_int (a b : Int) : peq (.int a) (.int b) = (a == b) := rfl
theorem peq_bl (a b : Bool) : peq (.bl a) (.bl b) = (a == b) := rfl
theorem peq_tup (a b : List PV) : peq (.tup a) (.tup b) = peqs a b := rfl
theorem peq_lst (a b : List PV) : peq (.lst a) (.lst b) = peqs a b := rfl
theorem peqs_nil : peqs [] [] = true := rfl
theorem peqs_cons (a b : PV) (as bs : List PV) : peqs (a :: as) (b :: bs) = (peq a b && peqs as bs) := rfl
theorem peqs_nc (a : PV) (as : List PV) : peqs [] (a :: as) = false := rfl
theorem peqs_cn (a : PV) (as : List PV) : peqs (a :: as) [] = false := rfl
theorem forGo_nil {g : QTG} {body : QTS} {D : PEnds} {ρ : En} : forGo g body D [] ρ = D.nx ρ := rfl
theorem forGo_cons {g : QTG} {body : QTS} {D : PEnds} {p : PV} {ps : List PV} {ρ : En} : forGo g body D (p :: ps) ρ = g p ρ fun ρ1 => body { nx := fun ρ2 => forGo g body D ps ρ2, rt := D.rt, bk := D.nx, ct := fun ρ2 => forGo g body D ps ρ2 } ρ1 := rfl
theorem lcGo_nil {g : QTG} {tt : QTT} {te : QT} {vs : List Nat} {Q : List PV → En → Prop} {acc : List PV} {ρ : En} : lcGo g tt te vs Q [] acc ρ = Q acc ρ := rfl
theorem notIos_nil {ρ : En} : notIos ρ [] = True := by simp [notIos]
theorem notIos_cons {ρ : En} {v : Nat} {vs : List Nat} : notIos ρ (v :: vs) = (notIo ρ v = true ∧ notIos ρ vs) := by simp [notIos]
theorem getP_of {ps : List PV} {i : Int} {p : PV} {Q : R → Prop} (h : atI ps i = some p) (q : Q (.pv p)) : getP ps i Q := by unfold getP; rw [h]; exact q
theorem atI_0 {α : Type} {x : α} {xs : List α} : atI (x :: xs) 0 = some x := atI_nat (j := 0) rfl
theorem atI_1 {α : Type} {x y : α} {xs : List α} : atI (x :: y :: xs) 1 = some y := atI_nat (j := 1) rfl
theorem atI_2 {α : Type} {x y z : α} {xs : List α} : atI (x :: y :: z :: xs) 2 = some z := atI_nat (j := 2) rfl
theorem atI_3 {α : Type} {x y z u : α} {xs : List α} : atI (x :: y :: z :: u :: xs) 3 = some u := atI_nat (j := 3) rfl
theorem atI_in {α : Type} {xs : List α} {i : Int} (h0 : 0 ≤ i) (h : i < (xs.length : Int)) : ∃ x, atI xs i = some x ∧ x ∈ xs := by
  have l : i.toNat < xs.length := by omega
  have e : i = ((i.toNat : Nat) : Int) := by omega
  refine ⟨xs[i.toNat], ?_, List.getElem_mem l⟩
  have z : atI xs ((i.toNat : Nat) : Int) = some xs[i.toNat] := atI_nat (List.getElem?_eq_getElem l)
  rw [← e] at z
  exact z
theorem ixN_of {n : Nat} {k : Nat} (h : k < n) : ixN n (k : Int) = some k := by unfold ixN; simp; omega
theorem ixN_0 {m : Nat} : ixN (m + 1) 0 = some 0 := ixN_of (k := 0) (by omega)
theorem ixN_1 {m : Nat} : ixN (m + 2) 1 = some 1 := ixN_of (k := 1) (by omega)
theorem ixN_2 {m : Nat} : ixN (m + 3) 2 = some 2 := ixN_of (k := 2) (by omega)
theorem ixN_3 {m : Nat} : ixN (m + 4) 3 = some 3 := ixN_of (k := 3) (by omega)
theorem cmul_r {i : Int} {j : Int} (h : -(2 ^ 64) < j ∧ j < 2 ^ 64) : CMul i j := .inr h
theorem atI_int {ns : List Int} {i : Int} (h0 : 0 ≤ i) (h : i < (ns.length : Int)) : ∃ x, atI (ns.map PV.int) i = some (PV.int x) := by
  obtain ⟨x, e, m⟩ := atI_in (xs := ns.map PV.int) h0 (by rw [List.length_map]; exact h)
  obtain ⟨y, _, rfl⟩ := List.mem_map.mp m
  exact ⟨y, e⟩
theorem cut_from1 {α : Type} (x : α) (xs : List α) : cutP (x :: xs) (some 1) none = xs := by
  unfold cutP
  have e1 : HT.sIx (x :: xs).length 0 (some 1) = 1 := by
    rw [show (1 : Int) = ((1 : Nat) : Int) from rfl, HT.sIx_nat]; simp
  have e2 : HT.sIx (x :: xs).length (x :: xs).length none = (x :: xs).length := rfl
  rw [e1, e2]
  simp
theorem lcGo_cons {g : QTG} {tt : QTT} {te : QT} {vs : List Nat} {Q : List PV → En → Prop} {p : PV} {ps acc : List PV} {ρ : En} : lcGo g tt te vs Q (p :: ps) acc ρ = g p ρ fun ρ1 => tt ρ1 fun b ρ2 => Br b (te ρ2 fun r ρ3 => match r.wk with
      | .pv q => small (acc.length + 1) ∧ notIos ρ3 vs ∧ lcGo g tt te vs Q ps (acc ++ [q]) (wipeE ρ3 vs)
      | _ => False) (notIos ρ2 vs ∧ lcGo g tt te vs Q ps acc (wipeE ρ2 vs)) := rfl
/-- a comprehension, by what holds ahead of the rest; N stands for what follows the rest -/
theorem lc_ind {g : QTG} {tt : QTT} {te : QT} {vs : List Nat} {Q : List PV → En → Prop} (I : List PV → List PV → En → Prop) (hn : ∀ acc ρ, I [] acc ρ → Q acc ρ)
    (hc : ∀ p ps acc ρ, I (p :: ps) acc ρ → ∀ N : List PV → En → Prop, (∀ acc' ρ', I ps acc' ρ' → N acc' ρ') → g p ρ fun ρ1 => tt ρ1 fun b ρ2 => Br b (te ρ2 fun r ρ3 => match r.wk with
      | .pv q => small (acc.length + 1) ∧ notIos ρ3 vs ∧ N (acc ++ [q]) (wipeE ρ3 vs)
      | _ => False) (notIos ρ2 vs ∧ N acc (wipeE ρ2 vs))) : ∀ ps acc ρ, I ps acc ρ → lcGo g tt te vs Q ps acc ρ
  | [], acc, ρ, h => hn acc ρ h
  | p :: ps, acc, ρ, h => hc p ps acc ρ h (lcGo g tt te vs Q ps) fun acc' ρ' h' => lc_ind I hn hc ps acc' ρ' h'
theorem tyOk_str : tyOk "str" := by unfold tyOk; decide
theorem tyOk_tuple : tyOk "tuple" := by unfold tyOk; decide
theorem tyOk_int : tyOk "int" := by unfold tyOk; decide
theorem tyOk_bool : tyOk "bool" := by unfold tyOk; decide
theorem tyOk_list : tyOk "list" := by unfold tyOk; decide
theorem tyOk_dict : tyOk "dict" := by unfold tyOk; decide
/-- a slot that the def may store to -/
def Pl (s : Sl) : Prop := s = .un ∨ ∃ p, s = .val p
theorem pl_un : Pl .un := .inl rfl
theorem pl_val {p : PV} : Pl (.val p) := .inr ⟨p, rfl⟩
/-- the items of a list or a tuple -/
def items : PV → List PV
  | .lst qs => qs
  | .tup qs => qs
  | _ => []
def isRow : PV → Prop
  | .lst _ => True
  | .tup _ => True
  | _ => False
theorem call_i {S : FS} {rs : List R} {ρ : En} {Q : PK1} {ps : List PV} {js : List Nat} {dm : Dum Q} (h : splitArgs ρ S.io rs = some (ps, js)) (nd : js.Nodup) (pre : S.pre ps) (k : ∀ r outs, S.post ps r outs → outs.length = js.length → Q (if S.fr = true then .fr r else .pv r) (putOuts js outs ρ)) : callR S rs ρ Q dm := by
  unfold callR
  rw [h]
  exact ⟨nd, pre, k⟩
/-- .. nothing handed on to be changed -/
theorem call_p {S : FS} {rs : List R} {ρ : En} {Q : PK1} {ps : List PV} {dm : Dum Q} (h : splitArgs ρ S.io rs = some (ps, [])) (hf : S.fr = false) (pre : S.pre ps) (k : ∀ r, S.post ps r [] → Q (.pv r) ρ) : callR S rs ρ Q dm :=
  call_i h List.nodup_nil pre fun r outs hp l => by
    have e : outs = [] := List.length_eq_zero_iff.mp l
    subst e
    rw [hf]
    exact k r hp
/-- .. one thing -/
theorem call_1 {S : FS} {rs : List R} {ρ : En} {Q : PK1} {ps : List PV} {j : Nat} {dm : Dum Q} (h : splitArgs ρ S.io rs = some (ps, [j])) (hf : S.fr = false) (pre : S.pre ps) (k : ∀ r d, S.post ps r [d] → Q (.pv r) (setOwn ρ j d)) : callR S rs ρ Q dm :=
  call_i h (List.nodup_cons.mpr ⟨by simp, List.nodup_nil⟩) pre fun r outs hp l => by
    obtain ⟨d, rfl⟩ := List.length_eq_one_iff.mp l
    rw [hf]
    exact k r d hp
theorem lcR_i {g : QTG} {tt : QTT} {te : QT} {vs : List Nat} {ps : List PV} {ρ : En} {Q : PK1} {dm : Dum Q} (h : lcGo g tt te vs (fun acc ρ' => Q (.fr (.lst acc)) ρ') ps [] ρ) : lcR g tt te vs ps ρ Q dm := h
theorem while_i {c : QTT} {body : QTS} {D : PEnds} {ρ : En} (I : Nat → En → Prop) (m : Nat) (h0 : I m ρ) (h : ∀ m ρ, I m ρ → c ρ fun b ρ1 => Br b (body { nx := fun ρ' => ∃ m', m' < m ∧ I m' ρ', rt := D.rt, bk := D.nx, ct := fun ρ' => ∃ m', m' < m ∧ I m' ρ' } ρ1) (D.nx ρ1)) : qWhile c body D ρ := ⟨I, ⟨m, h0⟩, h⟩
/-- a loop, by what holds ahead of the rest; N stands for what follows the rest -/
theorem for_ind {g : QTG} {body : QTS} {D : PEnds} (I : List PV → En → Prop) (hn : ∀ ρ, I [] ρ → D.nx ρ)
    (hc : ∀ p ps ρ, I (p :: ps) ρ → ∀ N : En → Prop, (∀ ρ', I ps ρ' → N ρ') → g p ρ fun ρ1 => body { nx := N, rt := D.rt, bk := D.nx, ct := N } ρ1) : ∀ ps ρ, I ps ρ → forGo g body D ps ρ
  | [], ρ, h => hn ρ h
  | p :: ps, ρ, h => hc p ps ρ h (forGo g body D ps) fun ρ' h' => for_ind I hn hc ps ρ' h'
end Px
set_option maxHeartbeats 1000000
/-! list(zip(xs, ys)), of two lists or two tuples, as the model has it: the pairs are all kept, so the zip's own tuple is never used again -/
namespace PxZ
open PySem PySem.Spec PyProof.Rows RZ
section
variable {prog : Program} {w : World} {A : Around} {E : Value → Shared → Prop} {s : Shared}
theorem freeT {zz TI TO T : Addr} {f : Bool} {oT : Obj} {Q : Bool → Shared → Prop} (e1 : IsZipHeld s.heap zz TI TO T f) (e2 : s.heap.get? T = some oT)
    (h : ∀ h', IsZipHeld h' zz TI TO T true → Heap.SameBut zz s.heap h' → Q false { s with heap := h' }) : wpAny (model prog w) A (Builtin.SmallTypes.ownedTupleIsFree (.ref zz)) Q E s := wpAny_tupleHeld_zip e1 e2 h
/-- the next pair of two tuples, the pair ahead still held -/
theorem heldT {zz TI TO T j1 j2 m1 m2 : Addr} {f : Bool} {oT : Obj} {n1 n2 : Nat} {xs ys : Array Value} {x y : Value} {Q : Option Value → Shared → Prop} (D : ZipApart zz TI TO j1 j2 m1 m2)
    (e1 : IsZipHeld s.heap zz TI TO T f) (e2 : s.heap.get? T = some oT) (e3 : IsPair s.heap TI (.ref j1) (.ref j2))
    (g1 : s.heap.IsTupleIter j1 m1 n1) (g2 : s.heap.IsTupleIter j2 m2 n2) (t1 : s.heap.IsTuple m1 xs) (t2 : s.heap.IsTuple m2 ys) (ex : xs[n1]? = some x) (ey : ys[n2]? = some y)
    (k : ∀ h', IsZipHeld h' zz TI TO T true → h'.IsTupleIter j1 m1 (n1 + 1) → h'.IsTupleIter j2 m2 (n2 + 1) → IsPair h' s.heap.objs.size x y → h'.objs.size = s.heap.objs.size + 1 →
      (∀ c o, c ≠ zz → c ≠ j1 → c ≠ j2 → s.heap.get? c = some o → h'.get? c = some o) → Q (some (.ref s.heap.objs.size)) { s with heap := h' }) :
    wpAny (model prog w) A (pyNext (.ref zz)) Q E s := by
  have ty : s.TypeIs (.ref zz) "zip" := ⟨_, e1, rfl⟩
  unfold pyNext
  refine wpAny_bind (wpAny_attempt (wpAny_callSpecial?_slot (name := Str.ofString "__next__") ty F.slot_zip_next (wpAny_call_entry F.slot_zip_next ty F.entry_zip_next ?_ (F.args_zip_next_1 _))))
  show wpAny _ _ (field (.ref zz) 2 >>= _) _ _ _; refine wpAny_bind (wpAny_field e1 rfl (x := .bool false) rfl ?_)
  show wpAny _ _ (field (.ref zz) 3 >>= _) _ _ _; refine wpAny_bind (wpAny_field e1 rfl (x := .ref TI) rfl ?_)
  refine wpAny_bind (wpAny_seqItems e3 rfl ?_); show wpAny _ _ (Builtin.SmallTypes.ownedTupleIsFree (.ref zz) >>= _) _ _ _
  refine wpAny_bind (freeT e1 e2 fun hA zA sA => ?_)
  simp only [Bool.false_eq_true, if_false]; refine wpAny_bind ?_
  rw [← Array.forIn_toList]; simp only [List.forIn_cons, List.forIn_nil]; refine wpAny_bind (wpAny_bind (wpAny_holding ?_))
  show wpAny _ _ (Builtin.SmallTypes.nextOf (.ref j1) >>= _) _ _ _
  refine wpAny_bind (nextOf_tuple_item (s := { s with heap := hA }) (g1.extBut sA.extBut D.i1z) (t1.extBut sA.extBut D.l1z) ex fun hB gB sB => wpAny_pure ?_)
  refine wpAny_pure ?_; refine wpAny_bind (wpAny_bind (wpAny_holding ?_))
  show wpAny _ _ (Builtin.SmallTypes.nextOf (.ref j2) >>= _) _ _ _
  refine wpAny_bind (nextOf_tuple_item (s := { s with heap := hB }) ((g2.extBut sA.extBut D.i2z).extBut sB.extBut D.i12.symm) ((t2.extBut sA.extBut D.l2z).extBut sB.extBut D.l2i1) ey fun hC gC sC => wpAny_pure ?_)
  refine wpAny_pure (wpAny_pure ?_); show wpAny _ _ (newTuple [x, y] >>= _) _ _ _
  refine wpAny_bind (wpAny_newTuple ?_)
  have sz : hC.objs.size = s.heap.objs.size := by rw [sC.1, sB.1, sA.1]
  have zC : IsZipHeld hC zz TI TO T true := sC.extBut _ _ D.i2z.symm (sB.extBut _ _ D.i1z.symm zA)
  have kp : ∀ c o, c ≠ zz → c ≠ j1 → c ≠ j2 → s.heap.get? c = some o → hC.get? c = some o := fun c o c1 c2 c3 e => sC.extBut _ _ c3 (sB.extBut _ _ c2 (sA.extBut _ _ c1 e))
  have gB' : hC.IsTupleIter j1 m1 (n1 + 1) := gB.extBut sC.extBut D.i12
  refine wpAny_pure ⟨_, rfl, wpAny_pure ?_⟩; show Q (some (.ref hC.objs.size)) _
  have hp : IsPair (hC.push { cls := .type "tuple", data := .seq #[x, y] }) hC.objs.size x y := Heap.get?_push_size _ rfl
  have hz : (hC.push { cls := .type "tuple", data := .seq #[x, y] }).objs.size = hC.objs.size + 1 := Heap.size_push ..
  rw [sz] at hp hz ⊢
  exact k _ (Heap.get?_push_of_some _ zC) (gB'.at fun o e => Heap.get?_push_of_some _ e) (gC.at fun o e => Heap.get?_push_of_some _ e) hp hz fun c o c1 c2 c3 e => Heap.get?_push_of_some _ (kp c o c1 c2 c3 e)
theorem endT {zz TI TO T j1 j2 m1 m2 : Addr} {f : Bool} {oT : Obj} {n1 n2 : Nat} {xs ys : Array Value} {Q : Option Value → Shared → Prop} (hh : A.handled = none) (D : ZipApart zz TI TO j1 j2 m1 m2)
    (e1 : IsZipHeld s.heap zz TI TO T f) (e2 : s.heap.get? T = some oT) (e3 : IsPair s.heap TI (.ref j1) (.ref j2))
    (g1 : s.heap.IsTupleIter j1 m1 n1) (g2 : s.heap.IsTupleIter j2 m2 n2) (t1 : s.heap.IsTuple m1 xs) (t2 : s.heap.IsTuple m2 ys) (en : xs[n1]? = none ∨ ys[n2]? = none)
    (k : ∀ h', (∀ c o, c ≠ zz → c ≠ j1 → c ≠ j2 → s.heap.get? c = some o → h'.get? c = some o) → Q none { s with heap := h' }) : wpAny (model prog w) A (pyNext (.ref zz)) Q E s := by
  have ty : s.TypeIs (.ref zz) "zip" := ⟨_, e1, rfl⟩
  unfold pyNext
  refine wpAny_bind (wpAny_attempt (wpAny_callSpecial?_slot (name := Str.ofString "__next__") ty F.slot_zip_next (wpAny_call_entry F.slot_zip_next ty F.entry_zip_next ?_ (F.args_zip_next_1 _))))
  show wpAny _ _ (field (.ref zz) 2 >>= _) _ _ _; refine wpAny_bind (wpAny_field e1 rfl (x := .bool false) rfl ?_)
  show wpAny _ _ (field (.ref zz) 3 >>= _) _ _ _; refine wpAny_bind (wpAny_field e1 rfl (x := .ref TI) rfl ?_)
  refine wpAny_bind (wpAny_seqItems e3 rfl ?_); show wpAny _ _ (Builtin.SmallTypes.ownedTupleIsFree (.ref zz) >>= _) _ _ _
  refine wpAny_bind (freeT e1 e2 fun hA zA sA => ?_)
  simp only [Bool.false_eq_true, if_false]; refine wpAny_bind ?_
  rw [← Array.forIn_toList]; simp only [List.forIn_cons, List.forIn_nil]; refine wpAny_bind (wpAny_bind (wpAny_holding ?_))
  show wpAny _ _ (Builtin.SmallTypes.nextOf (.ref j1) >>= _) _ _ _
  cases hx : xs[n1]? with
  | none =>
    refine wpAny_bind (nextOf_tuple_end (s := { s with heap := hA }) hh (g1.extBut sA.extBut D.i1z) (t1.extBut sA.extBut D.l1z) hx fun hB e sB he => ?_)
    obtain ⟨o, ho, hc⟩ := he; refine wpAny_bind (wpAny_isInstance (T := "StopIteration") (b := true) ⟨o, ho, hc⟩ isSubtype_stop ?_)
    exact wpAny_pure (k _ fun c o c1 c2 _ x => sB _ _ c2 (sA.extBut _ _ c1 x))
  | some x =>
    have hy : ys[n2]? = none := by rcases en with h | h; rw [hx] at h; cases h; exact h
    refine wpAny_bind (nextOf_tuple_item (s := { s with heap := hA }) (g1.extBut sA.extBut D.i1z) (t1.extBut sA.extBut D.l1z) hx fun hB gB sB => wpAny_pure ?_)
    refine wpAny_pure ?_; refine wpAny_bind (wpAny_bind (wpAny_holding ?_))
    show wpAny _ _ (Builtin.SmallTypes.nextOf (.ref j2) >>= _) _ _ _
    refine wpAny_bind (nextOf_tuple_end (s := { s with heap := hB }) hh ((g2.extBut sA.extBut D.i2z).extBut sB.extBut D.i12.symm) ((t2.extBut sA.extBut D.l2z).extBut sB.extBut D.l2i1) hy fun hC e sC he => ?_)
    obtain ⟨o, ho, hc⟩ := he; refine wpAny_bind (wpAny_isInstance (T := "StopIteration") (b := true) ⟨o, ho, hc⟩ isSubtype_stop ?_)
    exact wpAny_pure (k _ fun c o c1 c2 c3 x => sC _ _ c3 (sB.extBut _ _ c2 (sA.extBut _ _ c1 x)))
end
/-- a zip that is drawn from while the list at S is filled -/
structure ZSrc (prog : Program) (w : World) (zz S : Addr) (fp : List Addr) (n : Nat) (Pv : Nat → Value → Value → Prop) (St : Nat → Heap → Prop) : Prop where
  off : S ∉ fp
  frame : ∀ i h h', St i h → (∀ b o, b ≠ S → h.get? b = some o → h'.get? b = some o) → St i h'
  item : ∀ (A : Around) (s : Shared) (i : Nat) (Q : Option Value → Shared → Prop) (E : Value → Shared → Prop), i < n → St i s.heap → S < s.heap.objs.size →
    (∀ x y h', Pv i x y → IsPair h' s.heap.objs.size x y → h'.objs.size = s.heap.objs.size + 1 → St (i + 1) h' → (∀ b o, b ∉ fp → s.heap.get? b = some o → h'.get? b = some o) → Q (some (.ref s.heap.objs.size)) { s with heap := h' }) →
    wpAny (model prog w) A (pyNext (.ref zz)) Q E s
  done : ∀ (A : Around) (s : Shared) (Q : Option Value → Shared → Prop) (E : Value → Shared → Prop), A.handled = none → St n s.heap →
    (∀ h', (∀ b o, b ∉ fp → s.heap.get? b = some o → h'.get? b = some o) → Q none { s with heap := h' }) → wpAny (model prog w) A (pyNext (.ref zz)) Q E s
section
variable {prog : Program} {w : World}
theorem min_end {xs ys : Array Value} : xs[min xs.size ys.size]? = none ∨ ys[min xs.size ys.size]? = none := by
  rcases Nat.le_total xs.size ys.size with h | h
  · exact .inl (Array.getElem?_eq_none (by omega))
  · exact .inr (Array.getElem?_eq_none (by omega))
theorem zsrcL {zz TI TO j1 j2 m1 m2 S : Addr} (D : ZipApart zz TI TO j1 j2 m1 m2) (xs ys : Array Value) (hS : S ≠ zz ∧ S ≠ TI ∧ S ≠ TO ∧ S ≠ j1 ∧ S ≠ j2 ∧ S ≠ m1 ∧ S ≠ m2) :
    ZSrc prog w zz S [zz, TO, j1, j2] (min xs.size ys.size) (fun i k v => xs[i]? = some k ∧ ys[i]? = some v)
      (fun i h => IsPair h TI (.ref j1) (.ref j2) ∧ h.IsListIter j1 m1 i ∧ h.IsListIter j2 m2 i ∧ h.IsList m1 xs ∧ h.IsList m2 ys ∧
        ((IsZip h zz TI TO .none ∧ ∃ a b, IsPair h TO a b) ∨ ∃ T f oT, IsZipHeld h zz TI TO T f ∧ h.get? T = some oT ∧ T ≠ zz ∧ T ≠ j1 ∧ T ≠ j2 ∧ T ≠ S)) := by
  obtain ⟨s1, s2, s3, s4, s5, s6, s7⟩ := hS
  refine ⟨by simp [s1, s3, s4, s5], fun i h h' st k => ?_, fun A s i Q E hi st hs q => ?_, fun A s Q E hh st q => ?_⟩
  · obtain ⟨p, g1, g2, t1, t2, c⟩ := st
    refine ⟨k _ _ s2.symm p, g1.at fun o => k _ o s4.symm, g2.at fun o => k _ o s5.symm, t1.at fun o => k _ o s6.symm, t2.at fun o => k _ o s7.symm, ?_⟩
    rcases c with ⟨c, a, b, c2⟩ | ⟨T, f, oT, c, hT, r1, r2, r3, r4⟩
    · exact .inl ⟨k _ _ s1.symm c, a, b, k _ _ s3.symm c2⟩
    · exact .inr ⟨T, f, oT, k _ _ s1.symm c, k _ _ r4 hT, r1, r2, r3, r4⟩
  · obtain ⟨p, g1, g2, t1, t2, c⟩ := st
    have ex := Array.getElem?_eq_getElem (Nat.lt_of_lt_of_le hi (Nat.min_le_left xs.size ys.size))
    have ey := Array.getElem?_eq_getElem (Nat.lt_of_lt_of_le hi (Nat.min_le_right xs.size ys.size))
    have lt : ∀ {c o}, s.heap.get? c = some o → s.heap.objs.size ≠ c := fun e => Nat.ne_of_gt (Heap.lt_size e)
    have n1 : s.heap.objs.size ≠ j1 := let ⟨_, e, _⟩ := g1; lt e
    have n2 : s.heap.objs.size ≠ j2 := let ⟨_, e, _⟩ := g2; lt e
    rcases c with ⟨c, a, b, c2⟩ | ⟨T, f, oT, c, hT, r1, r2, r3, r4⟩
    · refine wpAny_pyNext_zip_item D c p c2 g1 g2 t1 t2 ex ey fun h' a1 a2 a3 a4 a5 a6 hk => ?_
      refine q _ _ h' ⟨ex, ey⟩ a5 a6 ⟨hk _ _ D.TIz D.TITO D.TIi1 D.TIi2 p, a3, a4, t1.at fun o => hk _ o D.l1z D.l1TO D.l1i1 D.l1i2, t2.at fun o => hk _ o D.l2z D.l2TO D.l2i1 D.l2i2, .inr ⟨_, false, _, a1, a5, lt c, n1, n2, Nat.ne_of_gt hs⟩⟩ fun d o hd e => ?_
      simp only [List.mem_cons, List.not_mem_nil, or_false, not_or] at hd
      exact hk d o hd.1 hd.2.1 hd.2.2.1 hd.2.2.2 e
    · refine wpAny_pyNext_zip_item_held D c hT p g1 g2 t1 t2 ex ey fun h' a1 a3 a4 a5 a6 hk => ?_
      refine q _ _ h' ⟨ex, ey⟩ a5 a6 ⟨hk _ _ D.TIz D.TIi1 D.TIi2 p, a3, a4, t1.at fun o => hk _ o D.l1z D.l1i1 D.l1i2, t2.at fun o => hk _ o D.l2z D.l2i1 D.l2i2, .inr ⟨T, true, oT, a1, hk _ _ r1 r2 r3 hT, r1, r2, r3, r4⟩⟩ fun d o hd e => ?_
      simp only [List.mem_cons, List.not_mem_nil, or_false, not_or] at hd
      exact hk d o hd.1 hd.2.2.1 hd.2.2.2 e
  · obtain ⟨p, g1, g2, t1, t2, c⟩ := st
    rcases c with ⟨c, a, b, c2⟩ | ⟨T, f, oT, c, hT, r1, r2, r3, r4⟩
    · exact wpAny_pyNext_zip_end hh D c p c2 g1 g2 t1 t2 min_end fun h' hk => q h' fun d o hd e => by
        simp only [List.mem_cons, List.not_mem_nil, or_false, not_or] at hd
        exact hk d o hd.1 hd.2.1 hd.2.2.1 hd.2.2.2 e
    · exact wpAny_pyNext_zip_end_held hh D c hT p g1 g2 t1 t2 min_end fun h' hk => q h' fun d o hd e => by
        simp only [List.mem_cons, List.not_mem_nil, or_false, not_or] at hd
        exact hk d o hd.1 hd.2.2.1 hd.2.2.2 e
theorem zsrcT {zz TI TO j1 j2 m1 m2 S : Addr} (D : ZipApart zz TI TO j1 j2 m1 m2) (xs ys : Array Value) (hS : S ≠ zz ∧ S ≠ TI ∧ S ≠ TO ∧ S ≠ j1 ∧ S ≠ j2 ∧ S ≠ m1 ∧ S ≠ m2) :
    ZSrc prog w zz S [zz, TO, j1, j2] (min xs.size ys.size) (fun i k v => xs[i]? = some k ∧ ys[i]? = some v)
      (fun i h => IsPair h TI (.ref j1) (.ref j2) ∧ h.IsTupleIter j1 m1 i ∧ h.IsTupleIter j2 m2 i ∧ h.IsTuple m1 xs ∧ h.IsTuple m2 ys ∧
        ((IsZip h zz TI TO .none ∧ ∃ a b, IsPair h TO a b) ∨ ∃ T f oT, IsZipHeld h zz TI TO T f ∧ h.get? T = some oT ∧ T ≠ zz ∧ T ≠ j1 ∧ T ≠ j2 ∧ T ≠ S)) := by
  obtain ⟨s1, s2, s3, s4, s5, s6, s7⟩ := hS
  refine ⟨by simp [s1, s3, s4, s5], fun i h h' st k => ?_, fun A s i Q E hi st hs q => ?_, fun A s Q E hh st q => ?_⟩
  · obtain ⟨p, g1, g2, t1, t2, c⟩ := st
    refine ⟨k _ _ s2.symm p, g1.at fun o => k _ o s4.symm, g2.at fun o => k _ o s5.symm, t1.at fun o => k _ o s6.symm, t2.at fun o => k _ o s7.symm, ?_⟩
    rcases c with ⟨c, a, b, c2⟩ | ⟨T, f, oT, c, hT, r1, r2, r3, r4⟩
    · exact .inl ⟨k _ _ s1.symm c, a, b, k _ _ s3.symm c2⟩
    · exact .inr ⟨T, f, oT, k _ _ s1.symm c, k _ _ r4 hT, r1, r2, r3, r4⟩
  · obtain ⟨p, g1, g2, t1, t2, c⟩ := st
    have ex := Array.getElem?_eq_getElem (Nat.lt_of_lt_of_le hi (Nat.min_le_left xs.size ys.size))
    have ey := Array.getElem?_eq_getElem (Nat.lt_of_lt_of_le hi (Nat.min_le_right xs.size ys.size))
    have lt : ∀ {c o}, s.heap.get? c = some o → s.heap.objs.size ≠ c := fun e => Nat.ne_of_gt (Heap.lt_size e)
    have n1 : s.heap.objs.size ≠ j1 := let ⟨_, e, _⟩ := g1; lt e
    have n2 : s.heap.objs.size ≠ j2 := let ⟨_, e, _⟩ := g2; lt e
    rcases c with ⟨c, a, b, c2⟩ | ⟨T, f, oT, c, hT, r1, r2, r3, r4⟩
    · refine pyNext_zipT_item D c p c2 g1 g2 t1 t2 ex ey fun h' a1 a2 a3 a4 a5 a6 hk => ?_
      refine q _ _ h' ⟨ex, ey⟩ a5 a6 ⟨hk _ _ D.TIz D.TITO D.TIi1 D.TIi2 p, a3, a4, t1.at fun o => hk _ o D.l1z D.l1TO D.l1i1 D.l1i2, t2.at fun o => hk _ o D.l2z D.l2TO D.l2i1 D.l2i2, .inr ⟨_, false, _, a1, a5, lt c, n1, n2, Nat.ne_of_gt hs⟩⟩ fun d o hd e => ?_
      simp only [List.mem_cons, List.not_mem_nil, or_false, not_or] at hd
      exact hk d o hd.1 hd.2.1 hd.2.2.1 hd.2.2.2 e
    · refine heldT D c hT p g1 g2 t1 t2 ex ey fun h' a1 a3 a4 a5 a6 hk => ?_
      refine q _ _ h' ⟨ex, ey⟩ a5 a6 ⟨hk _ _ D.TIz D.TIi1 D.TIi2 p, a3, a4, t1.at fun o => hk _ o D.l1z D.l1i1 D.l1i2, t2.at fun o => hk _ o D.l2z D.l2i1 D.l2i2, .inr ⟨T, true, oT, a1, hk _ _ r1 r2 r3 hT, r1, r2, r3, r4⟩⟩ fun d o hd e => ?_
      simp only [List.mem_cons, List.not_mem_nil, or_false, not_or] at hd
      exact hk d o hd.1 hd.2.2.1 hd.2.2.2 e
  · obtain ⟨p, g1, g2, t1, t2, c⟩ := st
    rcases c with ⟨c, a, b, c2⟩ | ⟨T, f, oT, c, hT, r1, r2, r3, r4⟩
    · exact pyNext_zipT_end hh D c p c2 g1 g2 t1 t2 min_end fun h' hk => q h' fun d o hd e => by
        simp only [List.mem_cons, List.not_mem_nil, or_false, not_or] at hd
        exact hk d o hd.1 hd.2.1 hd.2.2.1 hd.2.2.2 e
    · exact endT hh D c hT p g1 g2 t1 t2 min_end fun h' hk => q h' fun d o hd e => by
        simp only [List.mem_cons, List.not_mem_nil, or_false, not_or] at hd
        exact hk d o hd.1 hd.2.2.1 hd.2.2.2 e
/-- the pairs that were laid -/
structure ZG (n : Nat) (Pv : Nat → Value → Value → Prop) (lo : Addr) (h : Heap) (as : List Addr) : Prop where
  rise : as.Pairwise (· < ·)
  above : ∀ a ∈ as, lo ≤ a
  pairs : ∀ (j : Nat) (a : Addr), as[j]? = some a → ∃ x y, Pv j x y ∧ IsPair h a x y
theorem ZG.lt {n : Nat} {Pv : Nat → Value → Value → Prop} {lo : Addr} {h : Heap} {as : List Addr} (g : ZG n Pv lo h as) {a : Addr} (ha : a ∈ as) : a < h.objs.size := by
  obtain ⟨j, hj⟩ := List.mem_iff_getElem?.mp ha
  obtain ⟨_, _, _, e⟩ := g.pairs j a hj
  exact Heap.lt_size e
theorem zloop {A : Around} {s : Shared} {R : Result → Shared → Prop} {zz S : Addr} {fp : List Addr} {n : Nat} {Pv : Nat → Value → Value → Prop} {St : Nat → Heap → Prop} (Z : ZSrc prog w zz S fp n Pv St) (hh : A.handled = none) (hn : n ≤ sizeLine) (res : Value) {h1 : Heap} {lo : Addr} (hSl : S < lo) (hfp : ∀ b ∈ fp, b < lo)
    (hR : ∀ h' acc c as, (∀ b o, b ≠ S → b ∉ fp → h1.get? b = some o → h'.get? b = some o) → h'.get? S = some { cls := .type "list", dict := none, data := .seq acc c, slots := #[] } → as.length = n → ZG n Pv lo h' as → acc.toList = as.map Value.ref → R (.ok (.ret res)) { s with heap := h' }) :
    ∀ (k i : Nat) (h : Heap) (c : Nat) (acc : Array Value) (as : List Addr), n - i = k → i ≤ n → St i h → (∀ b o, b ≠ S → b ∉ fp → h1.get? b = some o → h.get? b = some o) →
      h.get? S = some { cls := .type "list", dict := none, data := .seq acc c, slots := #[] } → acc.toList = as.map Value.ref → as.length = i → ZG n Pv lo h as → lo ≤ h.objs.size →
      codeAny (model prog w) A (.builtin "list.extend.loop" ⟨[.ref S, .ref zz, res], []⟩) R { s with heap := h } := by
  intro k
  induction k with
  | zero =>
    intro i h c acc as hk hi hst hkeep hS hacc hal hG hlo
    have hin : i = n := by omega
    subst hin
    refine codeAny_builtin PySem.F.entry_extend_loop ?_
    rw [Around.under_plainId PySem.F.plain_extend_loop _]; show wpAny _ A.in1 (pyNext (.ref zz) >>= _) _ _ _
    refine wpAny_bind (Z.done A.in1 { s with heap := h } _ _ hh hst fun h' hk' => ?_)
    refine wpAny_pure (hR h' acc c as (fun b o b1 b2 e => hk' b o b2 (hkeep b o b1 b2 e)) (hk' S _ Z.off hS) hal ⟨hG.rise, hG.above, fun j a hj => ?_⟩ hacc)
    obtain ⟨x, y, pv, e3⟩ := hG.pairs j a hj
    exact ⟨x, y, pv, hk' a _ (fun m => absurd (hfp a m) (Nat.not_lt.mpr (hG.above a (List.mem_of_getElem? hj)))) e3⟩
  | succ k ih =>
    intro i h c acc as hk hi hst hkeep hS hacc hal hG hlo
    have hlt : i < n := by omega
    have hsz : acc.size = i := by rw [← Array.length_toList, hacc, List.length_map, hal]
    have hSz : S < h.objs.size := Heap.lt_size hS
    refine codeAny_builtin PySem.F.entry_extend_loop ?_
    rw [Around.under_plainId PySem.F.plain_extend_loop _]; show wpAny _ A.in1 (pyNext (.ref zz) >>= _) _ _ _
    refine wpAny_bind (Z.item A.in1 { s with heap := h } i _ _ hlt hst hSz fun x y h' pv ht hz hst' hkp => ?_)
    dsimp only at ht hz hkp ⊢
    have hS' := hkp S _ Z.off hS
    have up : ∀ b o, b ≠ S → h'.get? b = some o → (h'.update S (Obj.mapSeq (·.push (Value.ref h.objs.size)))).get? b = some o := fun b o hb e => (Heap.get?_update_other _ _ (Ne.symm hb)).trans e
    have nS : h.objs.size ≠ S := Nat.ne_of_gt hSz
    show wpAny _ A.in1 (updateSeq S (·.push (Value.ref h.objs.size)) >>= _) _ _ _; refine wpAny_bind ?_
    refine wpAny_updateSeq hS' rfl (wpAny_pure ⟨plainId_quiet PySem.F.plain_extend_loop _, ih (i + 1) _ _ (acc.push (Value.ref h.objs.size)) (as ++ [h.objs.size]) (by omega) hlt (Z.frame _ _ _ hst' up)
      (fun b o b1 b2 e => up b o b1 (hkp b o b2 (hkeep b o b1 b2 e))) (Heap.get?_update_self _ hS' rfl) (by rw [Array.toList_push, hacc, List.map_append]; rfl) (by rw [List.length_append, hal]; rfl) ⟨?_, ?_, ?_⟩ ?_⟩) (by rw [hsz]; omega) (by show (acc.push (Value.ref h.objs.size)).size ≤ sizeLine + 1; rw [Array.size_push, hsz]; omega)
    · refine List.pairwise_append.mpr ⟨hG.rise, List.pairwise_singleton _ _, fun a ha b hb => ?_⟩
      rw [List.mem_singleton.mp hb]; exact hG.lt ha
    · intro a ha
      rcases List.mem_append.mp ha with ha | ha
      · exact hG.above a ha
      · rw [List.mem_singleton.mp ha]; exact hlo
    · intro j b hj
      rcases Nat.lt_trichotomy j as.length with q1 | q1 | q1
      · rw [List.getElem?_append_left q1] at hj
        obtain ⟨x', y', pv', e3⟩ := hG.pairs j b hj
        have hb := hG.above b (List.mem_of_getElem? hj)
        exact ⟨x', y', pv', up b _ (fun z => by rw [z] at hb; exact absurd hSl (Nat.not_lt.mpr hb)) (hkp b _ (fun m => absurd (hfp b m) (Nat.not_lt.mpr hb)) e3)⟩
      · subst q1
        have hb : h.objs.size = b := by simpa using hj
        subst hb
        exact ⟨x, y, by rw [hal]; exact pv, up _ _ nS ht⟩
      · rw [List.getElem?_eq_none (by rw [List.length_append, List.length_singleton]; omega)] at hj; cases hj
    · have e : (h'.update S (Obj.mapSeq (·.push (Value.ref h.objs.size)))).get? h.objs.size = _ := up _ _ nS ht
      exact Nat.le_trans hlo (Nat.le_of_lt (Heap.lt_size e))
theorem zip_nolen : typeLookup (.type "zip") "__len__" = pure none := am_miss_of_fast (by decide +kernel)
theorem zip_nohint : typeLookup (.type "zip") "__length_hint__" = pure none := am_miss_of_fast (by decide +kernel)
theorem zhint {A : Around} {E : Value → Shared → Prop} {s : Shared} {zz : Addr} {Q : Bool → Shared → Prop} (ty : s.TypeIs (.ref zz) "zip") (h : Q true s) : wpAny (model prog w) A (Builtin.List.listLengthHint (.ref zz)) Q E s := by
  unfold Builtin.List.listLengthHint
  refine wpAny_bind (wpAny_specialOf ty zip_nolen ?_)
  refine PySem.W.KFB.if_not rfl ?_
  refine PySem.W.KFB.if_not rfl ?_
  refine wpAny_bind (wpAny_specialOf ty zip_nohint ?_)
  exact wpAny_pure h
theorem zextend {A : Around} {s : Shared} {R : Result → Shared → Prop} {zz S : Addr} {fp : List Addr} {n : Nat} {Pv : Nat → Value → Value → Prop} {St : Nat → Heap → Prop} (Z : ZSrc prog w zz S fp n Pv St) (hh : A.handled = none) (hn : n ≤ sizeLine) (res : Value) {lo : Addr} (hSl : S < lo) (hfp : ∀ b ∈ fp, b < lo) (hz : zz ∈ fp)
    {TI TO : Addr} {f0 : Value} (hZ : IsZip s.heap zz TI TO f0) (st : St 0 s.heap) (c0 : Nat) (hS : s.heap.get? S = some { cls := .type "list", data := .seq #[] c0 }) (hlo : lo ≤ s.heap.objs.size)
    (hR : ∀ h' acc c as, (∀ b o, b ≠ S → b ∉ fp → s.heap.get? b = some o → h'.get? b = some o) → h'.get? S = some { cls := .type "list", dict := none, data := .seq acc c, slots := #[] } → as.length = n → ZG n Pv lo h' as → acc.toList = as.map Value.ref → R (.ok (.ret res)) { s with heap := h' }) :
    wpAny (model prog w) A.in1 (Builtin.List.listExtendWith (.ref S) (.ref zz) res)
      (fun fin s' => match fin with | .done f => R (.ok f) s' | .again c' => c'.quiet = true ∧ codeAny (model prog w) A c' R s') (fun e s' => R (.error e) s') s := by
  have ty : s.TypeIs (.ref zz) "zip" := ⟨_, hZ, rfl⟩
  have ne : S ≠ zz := fun e => Z.off (by rw [e]; exact hz)
  unfold Builtin.List.listExtendWith
  refine wpAny_bind (wpAny_typeOf (T := "zip") ty ?_)
  have q1 : Builtin.List.listSameRef (.ref S) (.ref zz) = false := by simp [Builtin.List.listSameRef, ne]
  have q2 : (Value.type "zip" == Value.type "list") = false := by decide
  have q3 : (Value.type "zip" == Value.type "tuple") = false := by decide
  simp only [q1, q2, q3, Bool.or_false, Bool.false_eq_true, if_false]
  refine wpAny_bind (wpAny_pyIter_zip hZ ?_)
  refine wpAny_bind (wpAny_holding (zhint ty ?_))
  refine wpAny_ite_split (fun _ => ?_) (fun hf => absurd rfl hf)
  refine wpAny_bind (wpAny_rule ?_); refine wpAny_bind ?_
  show wpAny _ _ (updateSeq S (·.push .none) >>= fun _ => updateSeq S (·.pop)) _ _ _; refine wpAny_bind (wpAny_updateSeq hS rfl ?_)
  have hS2 := Heap.get?_update_self (Obj.mapSeq (·.push Value.none)) hS rfl
  refine wpAny_updateSeq (hz := by seq_fits) hS2 rfl ?_
  have hS3 := Heap.get?_update_self (Obj.mapSeq (·.pop)) hS2 rfl
  have up : ∀ b o, b ≠ S → s.heap.get? b = some o → ((s.heap.update S (Obj.mapSeq (·.push Value.none))).update S (Obj.mapSeq (·.pop))).get? b = some o := fun b o hb e =>
    (Heap.get?_update_other _ _ (Ne.symm hb)).trans ((Heap.get?_update_other _ _ (Ne.symm hb)).trans e)
  refine wpAny_pure ⟨plainId_quiet PySem.F.plain_extend_loop _, ?_⟩
  exact zloop (s := { s with heap := _ }) Z hh hn res (h1 := s.heap) hSl hfp (fun h' acc c as k1 k2 k3 k4 k5 => hR h' acc c as k1 k2 k3 k4 k5) n 0 _ _ #[] [] (Nat.sub_zero _) (Nat.zero_le _) (Z.frame _ _ _ st up) (fun b o b1 _ e => up b o b1 e) hS3 rfl rfl
    ⟨List.Pairwise.nil, (fun _ ha => nomatch ha), (fun j a hj => by simp at hj)⟩ (by rw [Heap.size_update, Heap.size_update]; exact hlo)
theorem zcall {A : Around} {E : Value → Shared → Prop} {s : Shared} {zz : Addr} {fp : List Addr} {n : Nat} {Pv : Nat → Value → Value → Prop} {St : Nat → Heap → Prop} {Q : Value → Shared → Prop} (Z : ZSrc prog w zz s.heap.objs.size fp n Pv St) (hh : A.handled = none) (hn : n ≤ sizeLine) (hfp : ∀ b ∈ fp, b < s.heap.objs.size) (hz : zz ∈ fp)
    {TI TO : Addr} {f0 : Value} (hZ : IsZip s.heap zz TI TO f0) (st : ∀ h', (∀ b o, s.heap.get? b = some o → h'.get? b = some o) → St 0 h')
    (hQ : ∀ h' acc c as, (∀ b o, b ∉ fp → s.heap.get? b = some o → h'.get? b = some o) → h'.get? s.heap.objs.size = some { cls := .type "list", dict := none, data := .seq acc c, slots := #[] } → as.length = n → ZG n Pv (s.heap.objs.size + 1) h' as → acc.toList = as.map Value.ref → Q (.ref s.heap.objs.size) { s with heap := h' }) :
    wpAny (model prog w) A (call (.type "list") [.ref zz]) Q E s := by
  refine callType_codes (Q₁ := fun obj s₁ => obj = .ref s.heap.objs.size ∧ s₁ = { s with heap := s.heap.push { cls := .type "list", data := .seq #[] } }) PySem.F.called_list (PySem.F.typeCall_list_1 _) PySem.F.entry_list_init (code_list_new _ ⟨rfl, rfl⟩) fun obj s₁ g => ?_
  obtain ⟨rfl, rfl⟩ := g
  have hS : (s.heap.push { cls := .type "list", data := .seq #[] }).get? s.heap.objs.size = some { cls := .type "list", data := .seq #[] } := Heap.get?_push_size _ rfl
  have lS : ∀ b o, s.heap.get? b = some o → b ≠ s.heap.objs.size := fun b o e => Nat.ne_of_lt (Heap.lt_size e)
  refine ⟨⟨_, hS, rfl⟩, PySem.F.args_list_init_2 _ _, ?_⟩
  show wpAny _ _ (do let old ← Builtin.List.listItems (.ref s.heap.objs.size); Builtin.List.listUpdate (.ref s.heap.objs.size) (fun _ => #[]); letGo old.toList.reverse; Builtin.List.listExtendWith (.ref s.heap.objs.size) (.ref zz) .none) _ _ _; refine wpAny_bind ?_
  unfold Builtin.List.listItems
  refine wpAny_bind (wpAny_seqItems hS rfl (wpAny_pure ?_))
  show wpAny _ _ (updateSeq s.heap.objs.size (fun _ => #[]) >>= fun _ => letGo (#[] : Array Value).toList.reverse >>= fun _ => Builtin.List.listExtendWith (.ref s.heap.objs.size) (.ref zz) .none) _ _ _; refine wpAny_bind (wpAny_updateSeq hS rfl ?_)
  have hS2 := Heap.get?_update_self (Obj.mapSeq (fun _ => (#[] : Array Value))) hS rfl
  have up : ∀ b o, s.heap.get? b = some o → ((s.heap.push { cls := .type "list", data := .seq #[] }).update s.heap.objs.size (Obj.mapSeq (fun _ => (#[] : Array Value)))).get? b = some o :=
    fun b o e => (Heap.get?_update_other _ _ (lS b o e).symm).trans (Heap.get?_push_of_some _ e)
  refine wpAny_bind (wpAny_letGo ?_)
  refine zextend (A := A.in1) (s := { s with heap := (s.heap.push { cls := .type "list", data := .seq #[] }).update s.heap.objs.size (Obj.mapSeq (fun _ => (#[] : Array Value))) }) (lo := s.heap.objs.size + 1) Z hh hn .none (Nat.lt_succ_self _) (fun b hb => Nat.lt_succ_of_lt (hfp b hb)) hz (up _ _ hZ) (st _ up) _ hS2 (by show _ ≤ (Heap.update _ _ _).objs.size; rw [Heap.size_update, Heap.size_push]; exact Nat.le_refl _) fun h' acc c as k1 k2 k3 k4 k5 => ?_
  exact ⟨rfl, hQ h' acc c as (fun b o b1 e => k1 b o (lS b o e) b1 (up b o e)) k2 k3 k4 k5⟩
end
end PxZ
namespace Px
open PySem L2 PySem.Spec PyProof.Rows RZ PxZ
/-- many new objects tracked at once -/
theorem inv_more {X : Cx} {pins : List (Addr × Obj)} {σ : L2.St} {H H' : Hp} {s : Shared} {h' : Heap} {t' : Nat} (I : Inv X pins σ H s) (k : ∀ b u, s.heap.get? b = some u → h'.get? b = some u) (sm : ∀ b o, H b = some o → H' b = some o)
    (fr : ∀ b o, H b = none → H' b = some o → s.heap.objs.size ≤ b) (new : ∀ b o, H b = none → H' b = some o → ObjOk X.prog X.w H' h' b o) : Inv X pins σ H' { s with heap := h', toks := t' } := by
  refine I.un ⟨fun b u q _ _ _ => k b u q, fun b u q _ _ _ => ⟨u.slots, k b u q⟩, fun b u q n _ => ?_, fun b u q _ => ⟨u, k b u q⟩, fun b xs q => sm b _ q, fun b u xs q => sm b _ q, fun b ps q => ⟨#[], by rw [sm b _ q]; simp⟩⟩ fun b o e => ?_
  · cases e : H' b with
    | none => rfl
    | some o => exact absurd (fr b o n e) (Nat.not_le.mpr (Heap.lt_size q))
  · cases e2 : H b with
    | none => exact new b o e2 e
    | some u =>
      have e3 := sm b u e2
      rw [e] at e3; cases e3
      exact (I.hok b o e2).stay (fun c v _ q => k c v q) (fun c q => sm c _ q) fun c xs q => sm c _ q
/-- list(zip(xs, ys)) -/
def rLZ (K : PySem.W.Frag) (vs : List V) (H : Hp) (Q : VK) : Prop := ∃ a b xs ys, vs = [.ref a, .ref b] ∧ ((SqL K H a xs ∧ SqL K H b ys) ∨ (SqT K H a xs ∧ SqT K H b ys)) ∧
  ∀ (H' : Hp) (p : Addr) (as : List Addr), Same H H' → H p = none → H' p = some (.lst (as.map V.ref)) → as.length = min xs.length ys.length → (∀ (j : Nat) (c : Addr), as[j]? = some c → ∃ x y, xs[j]? = some x ∧ ys[j]? = some y ∧ H' c = some (.tup [x, y])) → Q (.ref p) H'
def tLZ (K : PySem.W.Frag) (ta : TA) : TE := fun σ H Q => ta σ H fun vs H1 => rLZ K vs H1 Q
theorem vals_get {xs : List V} {us : List Value} (h : Vals xs us) : ∀ {j : Nat} {u : Value}, us[j]? = some u → ∃ x, xs[j]? = some x ∧ RelV x u := by
  induction h with
  | nil => intro j u e; simp at e
  | cons r _ ih =>
    intro j u e
    cases j with
    | zero => simp at e; subst e; exact ⟨_, rfl, r⟩
    | succ j => simpa using ih (by simpa using e)
theorem lz_end {X : Cx} {pins : List (Addr × Obj)} {σ : L2.St} {H : Hp} {s : Shared} {xs ys : List V} {its its2 : List Value} {h' : Heap} {acc : Array Value} {c : Nat} {as : List Addr} {S lo : Addr} {Q : VK} (I : Inv X pins σ H s) (rv : Vals xs its) (rv2 : Vals ys its2) (zx : xs.length ≤ sizeLine)
    (k : ∀ b u, s.heap.get? b = some u → h'.get? b = some u) (hS : h'.get? S = some { cls := .type "list", dict := none, data := .seq acc c, slots := #[] }) (sS : s.heap.objs.size ≤ S) (sl : S < lo)
    (hl : as.length = min its.toArray.size its2.toArray.size) (g : ZG (min its.toArray.size its2.toArray.size) (fun i k v => its.toArray[i]? = some k ∧ its2.toArray[i]? = some v) lo h' as) (ea : acc.toList = as.map Value.ref)
    (q : ∀ (H' : Hp) (p : Addr) (as : List Addr), Same H H' → H p = none → H' p = some (.lst (as.map V.ref)) → as.length = min xs.length ys.length → (∀ (j : Nat) (c : Addr), as[j]? = some c → ∃ x y, xs[j]? = some x ∧ ys[j]? = some y ∧ H' c = some (.tup [x, y])) → Q (.ref p) H') :
    ∃ v H', Inv X pins σ H' { s with heap := h' } ∧ RelV v (.ref S) ∧ Q v H' := by
  have pr : ∀ (j : Nat) (c : Addr), as[j]? = some c → ∃ x y u v, xs[j]? = some x ∧ ys[j]? = some y ∧ RelV x u ∧ RelV y v ∧ IsPair h' c u v := fun j c e => by
    obtain ⟨u, v, ⟨e1, e2⟩, e3⟩ := g.pairs j c e
    obtain ⟨x, e4, r4⟩ := vals_get rv (j := j) (u := u) (by simpa using e1)
    obtain ⟨y, e5, r5⟩ := vals_get rv2 (j := j) (u := v) (by simpa using e2)
    exact ⟨x, y, u, v, e4, e5, r4, r5, e3⟩
  have nd : as.Nodup := g.rise.imp fun h => Nat.ne_of_lt h
  let H' : Hp := fun d => if d = S then some (.lst (as.map V.ref)) else match as.idxOf? d with
    | some j => match xs[j]?, ys[j]? with
      | some x, some y => some (.tup [x, y])
      | _, _ => H d
    | none => H d
  have hS' : H' S = some (.lst (as.map V.ref)) := if_pos rfl
  have ix : ∀ (j : Nat) (c : Addr), as[j]? = some c → as.idxOf? c = some j := fun j c e => by
    rw [List.idxOf?, List.findIdx?_eq_some_iff_getElem]
    obtain ⟨l, e1⟩ := List.getElem?_eq_some_iff.mp e
    refine ⟨l, by simp [e1], fun i hi => ?_⟩
    have := (List.pairwise_iff_getElem.mp g.rise) i j (by omega) l hi
    rw [e1] at this
    simpa using Nat.ne_of_lt this
  have hc : ∀ (j : Nat) (c : Addr) (x y : V), as[j]? = some c → xs[j]? = some x → ys[j]? = some y → H' c = some (.tup [x, y]) := fun j c x y e e1 e2 => by
    have ne : c ≠ S := fun z => by have := g.above c (List.mem_of_getElem? e); rw [z] at this; exact absurd sl (Nat.not_lt.mpr this)
    show (if c = S then _ else _) = _
    rw [if_neg ne, ix j c e]
    simp only [e1, e2]
  have old : ∀ d, d ≠ S → d ∉ as → H' d = H d := fun d n m => by
    show (if d = S then _ else _) = _
    rw [if_neg n]
    have : as.idxOf? d = none := by
      rw [List.idxOf?, List.findIdx?_eq_none_iff]
      intro x hx
      simpa using fun z => m (by rw [← z]; exact hx)
    rw [this]
  have big : ∀ d, d = S ∨ d ∈ as → s.heap.objs.size ≤ d := fun d h => by
    rcases h with rfl | h
    · exact sS
    · exact Nat.le_trans sS (Nat.le_trans (Nat.le_of_lt sl) (g.above d h))
  have fresh : ∀ d, d = S ∨ d ∈ as → H d = none := fun d h => I.hok.fresh (big d h)
  have sm : Same H H' := fun d o e => by
    have n1 : d ≠ S := fun z => by rw [fresh d (.inl z)] at e; cases e
    have n2 : d ∉ as := fun z => by rw [fresh d (.inr z)] at e; cases e
    rw [old d n1 n2]; exact e
  have hal : as.length = min xs.length ys.length := by rw [hl, List.size_toArray, List.size_toArray, ← rv.length, ← rv2.length]
  refine ⟨.ref S, H', inv_more (t' := s.toks) I k sm (fun d o n e => ?_) fun d o n e => ?_, rfl, q H' S as sm (fresh S (.inl rfl)) hS' hal fun j c e => ?_⟩
  · refine big d (Classical.byContradiction fun z => ?_)
    rw [old d (fun y => z (.inl y)) fun y => z (.inr y), n] at e
    cases e
  · by_cases e1 : d = S
    · subst e1
      rw [hS'] at e; cases e
      refine ⟨by rw [List.length_map, hal]; omega, acc.toList, c, ?_, by rw [Array.toArray_toList]; exact hS⟩
      rw [ea]
      clear hl ea g pr hal nd ix hc old big fresh sm hS' n
      induction as with
      | nil => exact .nil
      | cons d as ih => exact .cons rfl ih
    · by_cases e2 : d ∈ as
      · obtain ⟨j, ej⟩ := List.mem_iff_getElem?.mp e2
        obtain ⟨x, y, u, v, ex, ey, rx, ry, e3⟩ := pr j d ej
        rw [hc j d x y ej ex ey] at e; cases e
        exact ⟨by show 2 ≤ sizeLine; rw [sizeLine_eq]; decide, [u, v], .cons rx (.cons ry .nil), _, e3, rfl, _, rfl⟩
      · rw [old d e1 e2, n] at e; cases e
  · obtain ⟨x, y, u, v, ex, ey, _⟩ := pr j c e
    exact ⟨x, y, ex, ey, hc j c x y e ex ey⟩
section
variable {X : Cx} {e e2 : Expr} {ta : TA} {p p2 q pos : Pos}
theorem pe_lz (hg : Gl X "list") (hm : X.mg "list" = none) (hg2 : Gl X "zip") (hm2 : X.mg "zip" = none) (ha : PA X [e, e2] ta) (hc : X.calm = true := by rfl)
    (na : starEach [.Call (.Name "zip" p2) [e, e2] [] q] X.env = (false, eval (.Call (.Name "zip" p2) [e, e2] [] q) X.env) :: starEach [] X.env := by rfl)
    (hs : starEach [e, e2] X.env = (false, eval e X.env) :: starEach [e2] X.env := by rfl) (hpl : (backTo q (starEach [e2] X.env)).any (·.1) = false := by rfl) :
    PE X (.Call (.Name "list" p) [.Call (.Name "zip" p2) [e, e2] [] q] [] pos) (tLZ X.K ta) := by
  refine ⟨fun pins s σ H Q I h => ?_⟩
  refine Call_ (ld_blt I hg hm PyProof.Rows.boot_list ?_)
  refine PyProof.Rows.callWith_type1 (PyProof.Rows.args_cons ?_ na) na rfl
  refine Call_ (ld_blt I hg2 hm2 PyProof.Rows.boot_zip (PyProof.Rows.callWith_type1 (thn (ha.run q pins s σ H _ I h) fun us s1 ⟨vs, H1, I1, r1, q1⟩ => ?_) hs hpl))
  obtain ⟨a, b, xs, ys, rfl, hq, qq⟩ := q1
  cases r1 with
  | cons r rr =>
    cases rr with
    | cons r' rr =>
      cases rr
      cases r
      cases r'
      have fpn : ∀ (n : Nat), ∀ c ∈ [n + 4, n + 3, n, n + 1], n ≤ c ∧ c < n + 5 := fun n c hc => by
        simp only [List.mem_cons, List.not_mem_nil, or_false] at hc
        rcases hc with rfl | rfl | rfl | rfl <;> omega
      have five : ∀ (n m : Nat), m = n + 5 → ∀ l1 l2 : Nat, l1 < n → l2 < n → m ≠ n + 4 ∧ m ≠ n + 2 ∧ m ≠ n + 3 ∧ m ≠ n ∧ m ≠ n + 1 ∧ m ≠ l1 ∧ m ≠ l2 := fun n m e l1 l2 h1 h2 => by omega
      rcases hq with ⟨hqx, hqy⟩ | ⟨hqx, hqy⟩
      · obtain ⟨its, rv, p1, zx⟩ := I1.list hqx
        obtain ⟨its2, rv2, p2, _⟩ := I1.list hqy
        have la : a < s1.heap.objs.size := p1.lt
        have lb : b < s1.heap.objs.size := p2.lt
        refine call_zip_2 p1.isList p2.isList fun h' hz hTI hTO h1 h2 hsz hk => PyProof.Rows.args_nil ?_
        have D := PySem.W.ktu_apart s1.heap.objs.size a b la lb
        refine zcall (s := { s1 with heap := h' }) (zsrcL D its.toArray its2.toArray (five _ _ hsz _ _ la lb)) (I1.ok.hd hc) (Nat.le_trans (Nat.min_le_left _ _) (by rw [List.size_toArray, ← rv.length]; exact zx)) (fun c hc => by show c < h'.objs.size; rw [hsz]; exact (fpn _ c hc).2) List.mem_cons_self hz
          (fun h2' k => ⟨k _ _ hTI, h1.at fun o => k _ o, h2.at fun o => k _ o, (p1.isList.at fun o e => hk _ o e).at fun o => k _ o, (p2.isList.at fun o e => hk _ o e).at fun o => k _ o, .inl ⟨k _ _ hz, _, _, k _ _ hTO⟩⟩) fun h2' acc c as k1 k2 k3 k4 k5 => ?_
        exact lz_end (s := s1) I1 rv rv2 zx (fun d o e => k1 d o (fun m => absurd (Heap.lt_size e) (Nat.not_lt.mpr (fpn _ d m).1)) (hk d o e)) k2 (by show _ ≤ h'.objs.size; rw [hsz]; exact Nat.le_add_right _ _) (Nat.lt_succ_self _) k3 k4 k5 qq
      · obtain ⟨its, rv, p1, zx⟩ := I1.tuple hqx
        obtain ⟨its2, rv2, p2, _⟩ := I1.tuple hqy
        have p1' : s1.heap.IsTuple a its.toArray := p1
        have p2' : s1.heap.IsTuple b its2.toArray := p2
        have la : a < s1.heap.objs.size := p1.lt
        have lb : b < s1.heap.objs.size := p2.lt
        refine call_zipT p1' p2' fun h' hz hTI hTO h1 h2 hsz hk => PyProof.Rows.args_nil ?_
        have D := PySem.W.ktu_apart s1.heap.objs.size a b la lb
        refine zcall (s := { s1 with heap := h' }) (zsrcT D its.toArray its2.toArray (five _ _ hsz _ _ la lb)) (I1.ok.hd hc) (Nat.le_trans (Nat.min_le_left _ _) (by rw [List.size_toArray, ← rv.length]; exact zx)) (fun c hc => by show c < h'.objs.size; rw [hsz]; exact (fpn _ c hc).2) List.mem_cons_self hz
          (fun h2' k => ⟨k _ _ hTI, h1.at fun o => k _ o, h2.at fun o => k _ o, (p1'.at fun o e => hk _ o e).at fun o => k _ o, (p2'.at fun o e => hk _ o e).at fun o => k _ o, .inl ⟨k _ _ hz, _, _, k _ _ hTO⟩⟩) fun h2' acc c as k1 k2 k3 k4 k5 => ?_
        exact lz_end (s := s1) I1 rv rv2 zx (fun d o e => k1 d o (fun m => absurd (Heap.lt_size e) (Nat.not_lt.mpr (fpn _ d m).1)) (hk d o e)) k2 (by show _ ≤ h'.objs.size; rw [hsz]; exact Nat.le_add_right _ _) (Nat.lt_succ_self _) k3 k4 k5 qq
end
end Px
namespace Px
open PySem L2 PySem.Spec PyProof.Rows
section
variable {X : Cx} {a b c e o : Expr} {es : List Expr} {ta tb tc te : QT} {tr : QTA} {pos p p2 q apos cpos : Pos}
/-! ### d.get -/
def isDic : Option PV → Prop
  | some (.dic _ _) => True
  | _ => False
def qGet1 (td ty : QT) (ρ : En) (Q : PK1) : Prop := td ρ fun r ρ1 => isDic (r.look ρ1) ∧ ty ρ1 fun r2 ρ2 => match r.look ρ2, r2.wk with
  | some (.dic ks ps), .pv k => match keyP k with
    | some j => match getD ks ps j with
      | some z => Q (.pv z) ρ2
      | none => Q (.pv .non) ρ2
    | none => False
  | _, _ => False
def qGet2 (td ty tx : QT) (ρ : En) (Q : PK1) : Prop := td ρ fun r ρ1 => isDic (r.look ρ1) ∧ ty ρ1 fun r2 ρ2 => tx ρ2 fun r3 ρ3 => match r.look ρ3, r2.wk with
  | some (.dic ks ps), .pv k => match keyP k with
    | some j => match getD ks ps j with
      | some z => Q (.pv z) ρ3
      | none => Q r3.wk ρ3
    | none => False
  | _, _ => False
theorem isDic_rd {K : PySem.W.Frag} {G : Gd} {H : Hp} {σ : L2.St} {ρ : En} {pd : Pds} {r : R} {v : V} (s : Res K G H σ ρ pd r v) (h : isDic (r.look ρ)) : ∃ a, v = .ref a ∧ IsD H a := by
  unfold isDic at h
  split at h
  · rename_i ks ps e
    obtain ⟨a, vs, e1, r, _⟩ := s.lk e
    exact ⟨a, e1, .inl ⟨_, r⟩⟩
  · exact h.elim
theorem get_at {K : PySem.W.Frag} {H : Hp} {W : Addr → Prop} {ks : List Key} {ps : List PV} {a : Addr} {k : PV} {kv : V} {j : Key} (l : Lk K H W (.dic ks ps) (.ref a)) (hk : Is K H W k kv) (e : keyP k = some j) :
    ∃ o, DGet H a kv o ∧ (∀ z, getD ks ps j = some z → ∃ v, o = some v ∧ Is K H W z v) ∧ (getD ks ps j = none → o = none) := by
  obtain ⟨b, vs, e1, r, le, ok, i⟩ := l
  cases e1
  obtain ⟨e2, _⟩ := keyP_is hk e
  refine ⟨valV (ks.zip vs) j, .inl ⟨_, j, r, e2, rfl⟩, fun z hz => ?_, fun hz => ?_⟩
  · rw [getD_val le]; exact getD_is i hz
  · rw [getD_val le]; exact getD_no i hz
theorem qe_get1 (hu : X.A.units + 65 < cLine) (ho : QE X o ta) (he : QE X e tb) (m : M1 X o "get" apos e cpos := by exact ⟨rfl, rfl, rfl, rfl⟩) : QE X (.Call (.Attribute o "get" apos) [e] [] cpos) (qGet1 ta tb) := by
  obtain ⟨t1, p1, q1⟩ := ho.ex
  obtain ⟨t2, p2, q2⟩ := he.ex
  refine ⟨_, pe_dget1 (by omega) p1 p2 m, fun G H σ ρ pd Q F R1 h f => ?_⟩
  refine q1 G H σ ρ pd _ _ R1 h fun r ρ1 v H1 s ⟨hd, g⟩ => ?_
  obtain ⟨x, rfl, dd⟩ := isDic_rd s hd
  refine ⟨x, rfl, dd, ?_⟩
  obtain ⟨pd1, sb, R2, a1⟩ := s.arg
  refine q2 G H1 σ ρ1 pd1 _ _ R2 g fun r2 ρ2 kv H2 s2 g2 => ?_
  obtain ⟨pd2, sb2, R3, a2⟩ := s2.arg
  split at g2
  · rename_i ks ps k e1 e2
    rw [e2] at a2
    have hk : Is X.K H2 (WS G σ ρ2) k kv := R3.pd _ a2
    cases ek : keyP k with
    | none => rw [ek] at g2; exact g2.elim
    | some j =>
      rw [ek] at g2
      dsimp only at g2
      obtain ⟨ov, dg, h1, h2⟩ := get_at ((a1.mono sb2).lk R3 (by rw [look_wk]; exact e1)) hk ek
      refine ⟨ov, dg, ?_⟩
      have R4 := R3.pds fun y hy => sb2 y (sb y hy)
      cases ez : getD ks ps j with
      | none =>
        rw [ez] at g2
        rw [h2 ez]
        exact f (.pv .non) ρ2 _ H2 (R4.push rfl) g2
      | some z =>
        rw [ez] at g2
        obtain ⟨w, ew, iw⟩ := h1 z ez
        rw [ew]
        exact f (.pv z) ρ2 _ H2 (R4.push iw) g2
  · exact g2.elim
theorem qe_get2 (hu : X.A.units + 65 < cLine) (ho : QE X o ta) (he : QE X e tb) (hf : QE X c tc) (m : M2 X o "get" apos e c cpos := by exact ⟨rfl, rfl, rfl, rfl⟩) : QE X (.Call (.Attribute o "get" apos) [e, c] [] cpos) (qGet2 ta tb tc) := by
  obtain ⟨t1, p1, q1⟩ := ho.ex
  obtain ⟨t2, p2, q2⟩ := he.ex
  obtain ⟨t3, p3, q3⟩ := hf.ex
  refine ⟨_, pe_dget2 (by omega) p1 p2 p3 m, fun G H σ ρ pd Q F R1 h f => ?_⟩
  refine q1 G H σ ρ pd _ _ R1 h fun r ρ1 v H1 s ⟨hd, g⟩ => ?_
  obtain ⟨x, rfl, dd⟩ := isDic_rd s hd
  refine ⟨x, rfl, dd, ?_⟩
  obtain ⟨pd1, sb, R2, a1⟩ := s.arg
  refine q2 G H1 σ ρ1 pd1 _ _ R2 g fun r2 ρ2 kv H2 s2 g2 => ?_
  obtain ⟨pd2, sb2, R3, a2⟩ := s2.arg
  refine q3 G H2 σ ρ2 pd2 _ _ R3 g2 fun r3 ρ3 xv H3 s3 g3 => ?_
  obtain ⟨pd3, sb3, R4, a3⟩ := s3.arg
  split at g3
  · rename_i ks ps k e1 e2
    rw [e2] at a2
    have hk : Is X.K H3 (WS G σ ρ3) k kv := R4.pd _ (sb3 _ a2)
    cases ek : keyP k with
    | none => rw [ek] at g3; exact g3.elim
    | some j =>
      rw [ek] at g3
      dsimp only at g3
      obtain ⟨ov, dg, h1, h2⟩ := get_at ((a1.mono fun y hy => sb3 y (sb2 y hy)).lk R4 (by rw [look_wk]; exact e1)) hk ek
      refine ⟨ov, dg, ?_⟩
      cases ez : getD ks ps j with
      | none =>
        rw [ez] at g3
        rw [h2 ez]
        exact f _ ρ3 xv H3 (s3.wk.pds fun y hy => sb2 y (sb y hy)) g3
      | some z =>
        rw [ez] at g3
        obtain ⟨w, ew, iw⟩ := h1 z ez
        rw [ew]
        exact f (.pv z) ρ3 _ H3 ((R4.pds fun y hy => sb3 y (sb2 y (sb y hy))).push iw) g3
  · exact g3.elim
/-! ### list(zip(xs, ys)) -/
def zipP : List PV → List PV → List PV
  | p :: ps, q :: qs => .tup [p, q] :: zipP ps qs
  | _, _ => []
def gZip (ps : List PV) (Q : R → Prop) : Prop := match ps with
  | [.lst ps, .lst qs] => Q (.fr (.lst (zipP ps qs)))
  | [.tup ps, .tup qs] => Q (.fr (.lst (zipP ps qs)))
  | _ => False
theorem zipP_iss {K : PySem.W.Frag} {H : Hp} {W : Addr → Prop} : ∀ {ps qs : List PV} {xs ys : List V} {as : List Addr}, Iss K H W ps xs → Iss K H W qs ys → as.length = min xs.length ys.length → (∀ (j : Nat) (c : Addr), as[j]? = some c → ∃ x y, xs[j]? = some x ∧ ys[j]? = some y ∧ H c = some (.tup [x, y])) → Iss K H W (zipP ps qs) (as.map V.ref)
  | [], qs, xs, ys, as, h1, h2, hl, _ => by
    cases (show xs = [] from h1)
    have : as = [] := List.length_eq_zero_iff.mp (by simpa using hl)
    subst this
    cases qs <;> exact rfl
  | p :: ps, [], xs, ys, as, h1, h2, hl, _ => by
    cases (show ys = [] from h2)
    have : as = [] := List.length_eq_zero_iff.mp (by simpa using hl)
    subst this
    exact rfl
  | p :: ps, q :: qs, xs, ys, as, h1, h2, hl, hp => by
    obtain ⟨v, r, e1, i1, j1⟩ := h1
    obtain ⟨u, s, e2, i2, j2⟩ := h2
    subst e1 e2
    cases as with
    | nil => simp at hl
    | cons c as =>
      obtain ⟨x, y, ex, ey, ec⟩ := hp 0 c rfl
      simp only [List.getElem?_cons_zero, Option.some.injEq] at ex ey
      subst ex ey
      exact ⟨_, _, rfl, ⟨c, [v, u], rfl, ec, v, [u], rfl, i1, u, [], rfl, i2, rfl⟩, zipP_iss j1 j2 (by simp only [List.length_cons] at hl; omega) fun j d e => by
        obtain ⟨x, y, e1, e2, e3⟩ := hp (j + 1) d (by simpa using e)
        exact ⟨x, y, by simpa using e1, by simpa using e2, e3⟩⟩
def qLZ (tr : QTA) : QT := qCB gZip tr
theorem qe_lz (hm : X.mg "list" = none) (hm2 : X.mg "zip" = none) (ha : QA X [a, b] tr) (hg : Gl X "list" := by rfl) (hg2 : Gl X "zip" := by rfl) (hc : X.calm = true := by rfl)
    (na : starEach [.Call (.Name "zip" p2) [a, b] [] q] X.env = (false, eval (.Call (.Name "zip" p2) [a, b] [] q) X.env) :: starEach [] X.env := by rfl)
    (hs : starEach [a, b] X.env = (false, eval a X.env) :: starEach [b] X.env := by rfl) (hpl : (backTo q (starEach [b] X.env)).any (·.1) = false := by rfl) :
    QE X (.Call (.Name "list" p) [.Call (.Name "zip" p2) [a, b] [] q] [] pos) (qLZ tr) := by
  obtain ⟨t, p1, q1⟩ := ha.ex
  refine ⟨_, pe_lz hg hm hg2 hm2 p1 hc na hs hpl, fun G H σ ρ pd Q F R1 h f => ?_⟩
  refine q1 G H σ ρ pd _ _ R1 h fun rs ρ1 pd1 vs H1 sb R2 ar g => ?_
  cases el : looks ρ1 rs with
  | none => rw [el] at g; exact g.elim
  | some ps =>
    rw [el] at g
    have lk := ar.lks R2 el
    dsimp only at g
    have fin : ∀ {ps qs : List PV} {a b : Addr} {xs ys : List V} {H' : Hp} {p : Addr} {as : List Addr}, Iss X.K H1 (WS G σ ρ1) ps xs → Iss X.K H1 (WS G σ ρ1) qs ys → Q (.fr (.lst (zipP ps qs))) ρ1 → Same H1 H' → H1 p = none → H' p = some (.lst (as.map V.ref)) → as.length = min xs.length ys.length → (∀ (j : Nat) (c : Addr), as[j]? = some c → ∃ x y, xs[j]? = some x ∧ ys[j]? = some y ∧ H' c = some (.tup [x, y])) → F (.ref p) H' := by
      intro ps qs a b xs ys H' p as i1 i2 hq sm hn hp hl hc
      have mv : ∀ {ps : List PV} {xs : List V}, Iss X.K H1 (WS G σ ρ1) ps xs → Iss X.K H' (fun b => b = p ∨ WS G σ ρ1 b) ps xs := fun {ps xs} i =>
        Iss.move (fun b o e _ => sm b o e) R2.mut (fun b t w => by
          rcases w with w | w
          · obtain ⟨u, t⟩ := t; rw [w, hn] at t; cases t
          · exact w) ps xs i
      exact f (.fr (.lst (zipP ps qs))) ρ1 _ H' (res_of (z := .fr (.lst (zipP ps qs))) (R2.pds sb) sm ⟨p, .lst (as.map V.ref), rfl, hn, hp, zipP_iss (mv i1) (mv i2) hl hc⟩) hq
    unfold gZip at g
    split at g
    · rename_i ps qs
      obtain ⟨x, y, rfl, l1, l2⟩ := lks2 lk
      obtain ⟨a1, xs, e1, r1, i1⟩ := l1
      obtain ⟨a2, ys, e2, r2, i2⟩ := l2
      subst e1 e2
      exact ⟨a1, a2, xs, ys, rfl, .inl ⟨.inl (.inl r1), .inl (.inl r2)⟩, fun H' p as sm hn hp hl hc => fin (a := a1) (b := a2) i1 i2 g sm hn hp hl hc⟩
    · rename_i ps qs
      obtain ⟨x, y, rfl, l1, l2⟩ := lks2 lk
      obtain ⟨a1, xs, e1, r1, i1⟩ : ∃ a vs, x = .ref a ∧ H1 a = some (.tup vs) ∧ Iss X.K H1 (WS G σ ρ1) ps vs := l1
      obtain ⟨a2, ys, e2, r2, i2⟩ : ∃ a vs, y = .ref a ∧ H1 a = some (.tup vs) ∧ Iss X.K H1 (WS G σ ρ1) qs vs := l2
      subst e1 e2
      exact ⟨a1, a2, xs, ys, rfl, .inr ⟨.inl (.inl r1), .inl (.inl r2)⟩, fun H' p as sm hn hp hl hc => fin (a := a1) (b := a2) i1 i2 g sm hn hp hl hc⟩
    · exact g.elim

/-! ### {k: v, ..} -/
def qPairs : List (QT × QT) → En → (List (PV × PV) → En → Prop) → Prop
  | [], ρ, Q => Q [] ρ
  | (tk, tv) :: r, ρ, Q => tk ρ fun r1 ρ1 => match r1.wk with
    | .pv k => tv ρ1 fun r2 ρ2 => match r2.wk with
      | .pv z => qPairs r ρ2 fun ps ρ3 => Q ((k, z) :: ps) ρ3
      | _ => False
    | _ => False
def mergeP : List (PV × PV) → List Key → List PV → Option (List Key × List PV)
  | [], ks, ps => some (ks, ps)
  | (k, z) :: r, ks, ps => match keyP k with
    | some j => mergeP r (putKs ks j) (putPs ks ps j z)
    | none => none
def qDisp (prs : List (QT × QT)) (ρ : En) (Q : PK1) : Prop := qPairs prs ρ fun ps ρ1 => match mergeP ps [] [] with
  | some (ks, zs) => Q (.fr (.dic ks zs)) ρ1
  | none => False
inductive QPs (X : Cx) (pos : Pos) : List (Option Expr) → List Expr → List (QT × QT) → Prop where
  | nil : QPs X pos [] [] []
  | cons {k v : Expr} {ks : List (Option Expr)} {vs : List Expr} {tk tv : QT} {r : List (QT × QT)} (hk : QE X k tk) (hv : QE X v tv) (t : QPs X pos ks vs r) : QPs X pos (some k :: ks) (v :: vs) ((tk, tv) :: r)
theorem qps_ex {ks : List (Option Expr)} {vs : List Expr} {r : List (QT × QT)} (h : QPs X pos ks vs r) : ∃ trs : List (TE × TE), PPs X pos ks vs trs ∧ trs.length = ks.length ∧
    ∀ (G : Gd) (H : Hp) (σ : L2.St) (ρ : En) (pd : Pds) (Q : List (PV × PV) → En → Prop) (F : List (V × V) → Hp → Prop), RE X.K G H σ ρ pd → qPairs r ρ Q →
      (∀ ps ρ' pd' vs H', (∀ x ∈ pd, x ∈ pd') → RE X.K G H' σ ρ' pd' → ps.length = ks.length → vs.length = ps.length → (∀ x ∈ ps.zip vs, (x.1.1, x.2.1) ∈ pd' ∧ (x.1.2, x.2.2) ∈ pd') → Q ps ρ' → F vs H') → tPairs trs σ H F := by
  induction h with
  | nil => exact ⟨[], pps_nil, rfl, fun G H σ ρ pd Q F R1 h f => f [] ρ pd [] H (fun _ h => h) R1 rfl rfl (fun x hx => by simp at hx) h⟩
  | cons hk hv t ih =>
    obtain ⟨trs, p3, l3, q3⟩ := ih
    obtain ⟨t1, p1, q1⟩ := hk.ex
    obtain ⟨t2, p2, q2⟩ := hv.ex
    refine ⟨(t1, t2) :: trs, pps_cons p1 p2 p3, by simp [l3], fun G H σ ρ pd Q F R1 h f => ?_⟩
    refine q1 G H σ ρ pd _ _ R1 h fun r1 ρ1 kv H1 s1 g1 => ?_
    have s1' := s1.wk
    cases e1 : r1.wk with
    | sl _ => rw [e1] at g1; exact g1.elim
    | fr _ => rw [e1] at g1; exact g1.elim
    | pv k =>
      rw [e1] at g1 s1'
      have R2 : RE X.K G H1 σ ρ1 ((k, kv) :: pd) := s1'
      refine q2 G H1 σ ρ1 _ _ _ R2 g1 fun r2 ρ2 zv H2 s2 g2 => ?_
      have s2' := s2.wk
      cases e2 : r2.wk with
      | sl _ => rw [e2] at g2; exact g2.elim
      | fr _ => rw [e2] at g2; exact g2.elim
      | pv z =>
        rw [e2] at g2 s2'
        have R3 : RE X.K G H2 σ ρ2 ((z, zv) :: (k, kv) :: pd) := s2'
        refine q3 G H2 σ ρ2 _ _ _ R3 g2 fun ps ρ3 pd3 vs3 H3 sb R4 l4 l5 m4 g4 => ?_
        refine f ((k, z) :: ps) ρ3 pd3 ((kv, zv) :: vs3) H3 (fun x hx => sb x (List.mem_cons_of_mem _ (List.mem_cons_of_mem _ hx))) R4 (by simp [l4]) (by simp [l5]) (fun x hx => ?_) g4
        rcases List.mem_cons.mp hx with e | hx
        · rw [e]; exact ⟨sb _ (List.mem_cons_of_mem _ List.mem_cons_self), sb _ List.mem_cons_self⟩
        · exact m4 x hx
theorem merge_is {K : PySem.W.Frag} {H : Hp} {W : Addr → Prop} : ∀ {ps : List (PV × PV)} {vs : List (V × V)} {ks : List Key} {zs : List PV} {us : List V} {ks' : List Key} {zs' : List PV}, vs.length = ps.length → (∀ x ∈ ps.zip vs, Is K H W x.1.1 x.2.1 ∧ Is K H W x.1.2 x.2.2) → mergeP ps ks zs = some (ks', zs') → ks.length = us.length → ks.all keyOk = true → Iss K H W zs us →
    ∃ kvs : List (Key × V), vs = kvs.map (fun kv => (kV kv.1, kv.2)) ∧ ∃ us', mergeK (ks.zip us) kvs = ks'.zip us' ∧ ks'.length = us'.length ∧ ks'.all keyOk = true ∧ Iss K H W zs' us'
  | [], vs, ks, zs, us, ks', zs', hl, _, e, le, ok, i => by
    have : vs = [] := List.length_eq_zero_iff.mp hl
    subst this
    cases e
    exact ⟨[], rfl, us, rfl, le, ok, i⟩
  | (k, z) :: ps, vs, ks, zs, us, ks', zs', hl, m, e, le, ok, i => by
    cases vs with
    | nil => simp at hl
    | cons v vs =>
      obtain ⟨i1, i2⟩ := m ((k, z), v) (by simp)
      unfold mergeP at e
      cases ek : keyP k with
      | none => rw [ek] at e; cases e
      | some j =>
        rw [ek] at e
        dsimp only at e
        obtain ⟨e1, ko⟩ := keyP_is i1 ek
        obtain ⟨e2, le2⟩ := put_zip (j := j) (v := v.2) le
        obtain ⟨kvs, e3, us', e4, r⟩ := merge_is (ps := ps) (vs := vs) (by simpa using hl) (fun x hx => m x (by simp [hx])) e le2 (putKs_ok ok ko) (putPs_is i i2)
        refine ⟨(j, v.2) :: kvs, ?_, us', ?_, r⟩
        · rw [List.map_cons, ← e3]
          obtain ⟨v1, v2⟩ := v
          have : v1 = kV j := e1
          rw [this]
        · rw [← e4]
          show mergeK (putK (ks.zip us) j v.2) kvs = _
          rw [e2]
theorem qe_disp {ks : List (Option Expr)} {vs : List Expr} {r : List (QT × QT)} (h : QPs X pos ks vs r) (hall : ks.all (·.isSome) = true := by rfl) (hl : ks.length = vs.length := by rfl) (h0 : ks ≠ [] := by intro z; cases z) (h15 : ks.length ≤ 15 := by decide) : QE X (.Dict ks vs pos) (qDisp r) := by
  obtain ⟨trs, p1, l1, q1⟩ := qps_ex h
  refine ⟨_, pe_disp p1 hall hl h0 h15, fun G H σ ρ pd Q F R1 hw f => ?_⟩
  intro D hD
  have kx := R1.exk
  have kD : G.keep D = none := by
    cases q : G.keep D with
    | none => rfl
    | some u => rw [R1.keep D u q] at hD; cases hD
  have R2 := R1.add (o := .dK []) hD (same_new hD) upd_same trivial
  refine q1 (G.add D (.dK [])) _ σ ρ pd _ _ R2 hw fun ps ρ1 pd1 vs1 H1 sb R3 l3 l4 m3 g => ?_
  cases em : mergeP ps [] [] with
  | none => rw [em] at g; exact g.elim
  | some kz =>
    rw [em] at g
    obtain ⟨ks', zs'⟩ := kz
    have hD1 : H1 D = some (.dK []) := R3.keep D _ upd_same
    obtain ⟨kvs, e1, us, e2, le, ok, i⟩ := merge_is (K := X.K) (H := H1) (W := WS (G.add D (.dK [])) σ ρ1) (us := []) l4 (fun x hx => ⟨R3.pd _ (m3 x hx).1, R3.pd _ (m3 x hx).2⟩) em rfl rfl Iss.nil
    refine ⟨hD1, kvs, e1, ?_, ?_⟩
    · have : kvs.length = ps.length := by rw [← l4, e1, List.length_map]
      omega
    · have R4 := R3.readd (o' := .dK (mergeK [] kvs)) trivial
      refine f (.fr (.dic ks' zs')) ρ1 (.ref D) _ ⟨D, .dK (mergeK [] kvs), rfl, kD, kx, R4.pds sb, ?_⟩ g
      refine ⟨us, e2, le, ok, ?_⟩
      have Wa : WS (G.add D (.dK [])) σ ρ1 D := .inl (.inl rfl)
      exact Iss.move (W' := WS (G.add D (.dK (mergeK [] kvs))) σ ρ1) (fun b u e n => by
        have ne : b ≠ D := fun z => n (by rw [z]; exact Wa)
        rw [upd_ne ne]; exact e) R3.mut (fun _ _ w => w) zs' us i
end
end Px
namespace Px
open PySem L2 PySem.Spec PyProof.Rows
section
variable {X : Cx} {a b c e o : Expr} {es : List Expr} {ta tb tc te : QT} {tr : QTA} {pos p p2 q apos cpos : Pos}
/-! ### dict(d), list(d), sorted -/
def gDictC (ps : List PV) (Q : R → Prop) : Prop := match ps with
  | [.dic ks ps] => Q (.fr (.dic ks ps))
  | _ => False
theorem call_dictC : CallP X (.type "dict") gDictC := by
  refine ⟨_, call_dictD, fun H W ps xs Q F m l g f => ?_⟩
  unfold gDictC at g
  split at g
  · rename_i ks ps
    obtain ⟨x, rfl, h⟩ := lks1 l
    obtain ⟨a, vs, e, r, le, ok, i⟩ := h
    subst e
    exact ⟨a, _, rfl, r, fun p hp => f _ _ (.fr (.dic ks ps)) (same_new hp) ⟨p, _, rfl, hp, upd_same, vs, rfl, le, ok, issNew m i hp⟩ g⟩
  · exact g.elim
def gListD (ps : List PV) (Q : R → Prop) : Prop := match ps with
  | [.dic ks _] => Q (.fr (.lst (ks.map keyV)))
  | ps => gList ps Q
theorem keys_iss {K : PySem.W.Frag} {H : Hp} {W : Addr → Prop} : ∀ {ks : List Key} {vs : List V}, ks.all keyOk = true → ks.length = vs.length → Iss K H W (ks.map keyV) ((ks.zip vs).map fun kv => kV kv.1)
  | [], _, _, _ => rfl
  | k :: ks, [], _, h => by simp at h
  | k :: ks, v :: vs, ok, h => by
    rw [List.all_cons, Bool.and_eq_true] at ok
    exact ⟨_, _, rfl, keyV_is ok.1, keys_iss ok.2 (by simpa using h)⟩
theorem call_listPD (hc : X.calm = true) : CallP X (.type "list") gListD := by
  obtain ⟨r1, h1, h2⟩ := call_listP (X := X)
  refine ⟨_, CallR.or h1 (call_listD hc), fun H W ps xs Q F m l g f => ?_⟩
  unfold gListD at g
  split at g
  · rename_i ks ps
    obtain ⟨x, rfl, h⟩ := lks1 l
    obtain ⟨a, vs, e, r, le, ok, i⟩ := h
    subst e
    exact .inr ⟨a, _, rfl, r, fun p hp => f _ _ _ (same_new hp) (resLst m (keys_iss ok le) hp) g⟩
  · exact .inl (h2 H W ps xs Q F m l g f)
def asStrs : List PV → Option (List Str)
  | [] => some []
  | .str s :: ps => (asStrs ps).map (s :: ·)
  | _ :: _ => none
theorem asStrs_iss {K : PySem.W.Frag} {H : Hp} {W : Addr → Prop} : ∀ {ps : List PV} {vs : List V} {ss : List Str}, Iss K H W ps vs → asStrs ps = some ss → vs = ss.map V.str ∧ ∀ s ∈ ss, sOk s = true
  | [], _, _, h, e => by cases (show _ = [] from h); cases e; exact ⟨rfl, fun s hs => by simp at hs⟩
  | p :: ps, vs, ns, h, e => by
    obtain ⟨v, r, e1, h1, h2⟩ := h
    subst e1
    cases p with
    | str s =>
      have e' : (asStrs ps).map (s :: ·) = some ns := e
      cases z : asStrs ps with
      | none => rw [z] at e'; cases e'
      | some ms =>
        rw [z] at e'; cases e'
        obtain ⟨e2, o⟩ : v = .str s ∧ sOk s = true := h1
        obtain ⟨h3, h4⟩ := asStrs_iss h2 z
        subst e2
        exact ⟨by rw [h3]; rfl, fun t ht => by rcases List.mem_cons.mp ht with e | ht; rw [e]; exact o; exact h4 t ht⟩
    | _ => cases e
theorem strs_iss {K : PySem.W.Frag} {H : Hp} {W : Addr → Prop} : ∀ {ss : List Str}, (∀ s ∈ ss, sOk s = true) → Iss K H W (ss.map PV.str) (ss.map V.str)
  | [], _ => rfl
  | s :: ss, h => ⟨_, _, rfl, ⟨rfl, h s List.mem_cons_self⟩, strs_iss fun t ht => h t (List.mem_cons_of_mem _ ht)⟩
def keyS : List Key → Option (List Str)
  | [] => some []
  | .inr s :: ks => (keyS ks).map (s :: ·)
  | _ :: _ => none
theorem keyS_map : ∀ {ks : List Key} {ss : List Str}, keyS ks = some ss → ks = ss.map Sum.inr
  | [], _, e => by cases e; rfl
  | .inr s :: ks, ss, e => by
    have e' : (keyS ks).map (s :: ·) = some ss := e
    cases z : keyS ks with
    | none => rw [z] at e'; cases e'
    | some r => rw [z] at e'; cases e'; rw [keyS_map z]; rfl
  | .inl _ :: _, _, e => by cases e
/-- sorted of texts, of numbers, of a dict with texts -/
def gSorted (ps : List PV) (Q : R → Prop) : Prop := match ps with
  | [.lst ps] => match asStrs ps with
    | some ss => ss.length < 64 ∧ ∀ ys, ys.Perm ss → sortedS ys = true → Q (.fr (.lst (ys.map PV.str)))
    | none => match asInts ps with
      | some ns => ∀ ms : List Int, ms.Perm ns → ms.Pairwise (· ≤ ·) → Q (.fr (.lst (ms.map PV.int)))
      | none => False
  | [.dic ks _] => match keyS ks with
    | some ss => ss.length < 64 ∧ ∀ ys, ys.Perm ss → sortedS ys = true → Q (.fr (.lst (ys.map PV.str)))
    | none => False
  | _ => False
theorem call_sortedP (hc : X.calm = true) : CallP X (.builtin "sorted") gSorted := by
  refine ⟨_, CallR.or cr_sortedS (CallR.or cr_sortedI (call_sortedD hc)), fun H W ps xs Q F m l g f => ?_⟩
  unfold gSorted at g
  split at g
  · rename_i ps
    obtain ⟨x, rfl, h⟩ := lks1 l
    obtain ⟨a, vs, e, r, i⟩ := h
    subst e
    cases es : asStrs ps with
    | some ss =>
      rw [es] at g
      obtain ⟨e2, ok⟩ := asStrs_iss i es
      subst e2
      exact .inl ⟨a, ss, rfl, .inl (.inl r), g.1, fun ys p pm so hp => f _ _ _ (same_new hp) (resLst m (strs_iss fun s hs => ok s (pm.mem_iff.mp hs)) hp) (g.2 ys pm so)⟩
    | none =>
      rw [es] at g
      dsimp only at g
      cases ei : asInts ps with
      | some ns =>
        rw [ei] at g
        have e2 := asInts_iss i ei
        subst e2
        exact .inr (.inl ⟨a, ns, rfl, .inl (.inl r), fun ms p pm so hp => f _ _ _ (same_new hp) (resLst m (Iss.ints ms) hp) (g ms pm so)⟩)
      | none => rw [ei] at g; exact g.elim
  · rename_i ks ps
    obtain ⟨x, rfl, h⟩ := lks1 l
    obtain ⟨a, vs, e, r, le, ok, i⟩ := h
    subst e
    cases es : keyS ks with
    | some ss =>
      rw [es] at g
      have ek := keyS_map es
      have oks : ∀ s ∈ ss, sOk s = true := fun s hs => by
        have := List.all_eq_true.mp ok (.inr s) (by rw [ek]; exact List.mem_map_of_mem hs)
        exact this
      refine .inr (.inr ⟨a, _, ss, rfl, r, ?_, g.1, fun ys p pm so hp => f _ _ _ (same_new hp) (resLst m (strs_iss fun s hs => oks s (pm.mem_iff.mp hs)) hp) (g.2 ys pm so)⟩)
      rw [List.map_fst_zip (Nat.le_of_eq le), ek]
    | none => rw [es] at g; exact g.elim
  · exact g.elim
/-! ### str(i) -/
def gStr (ps : List PV) (Q : R → Prop) : Prop := match ps with
  | [.int i] => i.natAbs.log2 < 1920 ∧ sOk (toString i) = true ∧ Q (.pv (.str (toString i)))
  | _ => False
theorem call_strP : CallP X (.type "str") gStr := by
  refine ⟨_, call_str_int, fun H W ps xs Q F m l g f => ?_⟩
  unfold gStr at g
  split at g
  · obtain ⟨x, rfl, h⟩ := lks1 l
    cases (show x = _ from h)
    exact ⟨_, rfl, g.1, fin1 f (p := .str _) ⟨rfl, g.2.1⟩ g.2.2⟩
  · exact g.elim
/-! ### isinstance with several types -/
def asTys : List PV → Option (List String)
  | [] => some []
  | .ty s :: ps => (asTys ps).map (s :: ·)
  | _ :: _ => none
def gIsiT (ps : List PV) (Q : R → Prop) : Prop := match ps with
  | [p, .tup ts] => match asTys ts with
    | some Ts => (tyN p ≠ "" ∧ ∀ T ∈ Ts, tyOk T) ∧ Q (.pv (.bl (Ts.any fun T => isTy p T)))
    | none => False
  | ps => gIsi ps Q
theorem kit_anys {K : PySem.W.Frag} {t : String} (ht : t ∈ ["NoneType", "bool", "int", "str", "tuple", "list", "dict"]) : ∀ {Ts : List String}, (∀ T ∈ Ts, tyOk T) → PySem.W.kitAny K (.type t) (Ts.map Value.type) = some (Ts.any fun T => t == T || (t == "bool" && T == "int"))
  | [], _ => kitAny_nil
  | T :: Ts, h => by
    have ih := kit_anys (K := K) ht (Ts := Ts) fun U hU => h U (List.mem_cons_of_mem _ hU)
    rw [List.map_cons]
    refine kitAny_cons (kit_ty (kit_all t ht T (h T List.mem_cons_self))) (fun e => ?_) fun e => ?_
    · rw [ih, List.any_cons, e, Bool.false_or]
    · rw [List.any_cons, e, Bool.true_or]
theorem asTys_iss {K : PySem.W.Frag} {H : Hp} {W : Addr → Prop} : ∀ {ps : List PV} {vs : List V} {Ts : List String}, Iss K H W ps vs → asTys ps = some Ts → Paired ClsV vs (Ts.map Value.type)
  | [], _, _, h, e => by cases (show _ = [] from h); cases e; exact .nil
  | p :: ps, vs, ns, h, e => by
    obtain ⟨v, r, e1, h1, h2⟩ := h
    subst e1
    cases p with
    | ty s =>
      have e' : (asTys ps).map (s :: ·) = some ns := e
      cases z : asTys ps with
      | none => rw [z] at e'; cases e'
      | some ms =>
        rw [z] at e'; cases e'
        cases (show v = .ty s from h1)
        exact .cons (.ty s) (asTys_iss h2 z)
    | _ => cases e
theorem call_isiPT : CallP X (.builtin "isinstance") gIsiT := by
  obtain ⟨r1, h1, h2⟩ := call_isiP (X := X)
  refine ⟨_, CallR.or h1 call_isiT, fun H W ps xs Q F m l g f => ?_⟩
  unfold gIsiT at g
  split at g
  · rename_i p ts
    cases et : asTys ts with
    | none => rw [et] at g; exact g.elim
    | some Ts =>
      rw [et] at g
      obtain ⟨x, y, rfl, l1, l2⟩ := lks2 l
      obtain ⟨a, vs, e, r, i⟩ : ∃ a vs, y = .ref a ∧ H a = some (.tup vs) ∧ Iss X.K H W ts vs := l2
      subst e
      obtain ⟨t, mem⟩ := tyx_of l1 g.1.1
      exact .inr ⟨x, a, vs, _, _, _, rfl, r, asTys_iss i et, t, kit_anys mem g.1.2, fin1 f (p := .bl _) rfl g.2⟩
  · exact .inl (h2 H W ps xs Q F m l g f)
/-! ### a < b < c -/
def qChain (g g' : G2) (ta tb tc : QT) (ρ : En) (Q : PK1) : Prop := ta ρ fun r1 ρ1 => tb ρ1 fun r2 ρ2 => match r1.look ρ2, r2.look ρ2 with
  | some p, some q => g p q fun z => match z with
    | .pv (.bl k) => Br k (tc ρ2 fun r3 ρ3 => match r2.look ρ3, r3.look ρ3 with
      | some q, some r => g' q r fun z => Q z ρ3
      | _, _ => False) (Q (.pv (.bl false)) ρ2)
    | _ => False
  | _, _ => False
theorem rz_chain {op op' : CmpOp} {g g' : G2} (ho : OpP X (compareOp op) g) (ho' : OpP X (compareOp op') g') {t1 t2 t3 : TE} (h1 : Rz X.K t1 ta) (h2 : Rz X.K t2 tb) (h3 : Rz X.K t3 tc) : Rz X.K (tChain (Classical.choose ho) (Classical.choose ho') t1 t2 t3) (qChain g g' ta tb tc) := by
  have o1 := (Classical.choose_spec ho).2
  have o2 := (Classical.choose_spec ho').2
  intro G H σ ρ pd Q F R1 h f
  refine h1 G H σ ρ pd _ _ R1 h fun r1 ρ1 x H1 s1 g1 => ?_
  obtain ⟨pd1, sb1, R2, a1⟩ := s1.arg
  refine h2 G H1 σ ρ1 pd1 _ _ R2 g1 fun r2 ρ2 y H2 s2 g2 => ?_
  obtain ⟨pd2, sb2, R3, a2⟩ := s2.arg
  cases e1 : r1.look ρ2 with
  | none => rw [e1] at g2; exact g2.elim
  | some p =>
    cases e2 : r2.look ρ2 with
    | none => rw [e1, e2] at g2; exact g2.elim
    | some q =>
      rw [e1, e2] at g2
      refine o1 H2 _ p q x y _ _ R3.mut ((a1.mono sb2).lk R3 (by rw [look_wk]; exact e1)) (a2.lk R3 (by rw [look_wk]; exact e2)) g2 fun v H3 z sm rv hq => ?_
      cases z with
      | pv z =>
        cases z with
        | bl k =>
          cases (show v = .bl k from rv)
          refine ⟨k, rfl, ?_⟩
          have R4 := R3.same sm
          cases k with
          | true =>
            have hq' := hq.1 rfl
            show t3 σ H3 _
            refine h3 G H3 σ ρ2 pd2 _ _ R4 hq' fun r3 ρ3 w H4 s3 g3 => ?_
            obtain ⟨pd3, sb3, R5, a3⟩ := s3.arg
            cases e3 : r2.look ρ3 with
            | none => rw [e3] at g3; exact g3.elim
            | some q' =>
              cases e4 : r3.look ρ3 with
              | none => rw [e3, e4] at g3; exact g3.elim
              | some r =>
                rw [e3, e4] at g3
                refine o2 H4 _ q' r y w _ F R5.mut ((a2.mono sb3).lk R5 (by rw [look_wk]; exact e3)) (a3.lk R5 (by rw [look_wk]; exact e4)) g3 fun v' H5 z' sm' rv' hz => ?_
                exact f z' ρ3 v' H5 (res_of (R5.pds fun u hu => sb3 u (sb2 u (sb1 u hu))) sm' rv') hz
          | false => exact f (.pv (.bl false)) ρ2 _ H3 ((R4.pds fun u hu => sb2 u (sb1 u hu)).push (p := .bl false) rfl) (hq.2 rfl)
        | _ => exact hq.elim
      | _ => exact hq.elim
theorem qe_chain {op op' : CmpOp} {g g' : G2} (ho : OpP X (compareOp op) g) (ho' : OpP X (compareOp op') g') (ha : QE X a ta) (hb : QE X b tb) (hc : QE X c tc) (hm : lastMarks [op, op'] [b, c] = false := by with_unfolding_all rfl) : QE X (.Compare a [op, op'] [b, c] pos) (qChain g g' ta tb tc) := by
  obtain ⟨t1, p1, q1⟩ := ha.ex
  obtain ⟨t2, p2, q2⟩ := hb.ex
  obtain ⟨t3, p3, q3⟩ := hc.ex
  exact ⟨_, pe_chain (Classical.choose_spec ho).1 (Classical.choose_spec ho').1 p1 p2 p3 hm, rz_chain ho ho' q1 q2 q3⟩
theorem qc_chain {op op' : CmpOp} {g g' : G2} (ho : OpP X (compareOp op) g) (ho' : OpP X (compareOp op') g') (ha : QE X a ta) (hb : QE X b tb) (hc : QE X c tc) (hm : lastMarks [op, op'] [b, c] = false := by with_unfolding_all rfl) : QC X (.Compare a [op, op'] [b, c] pos) (qB (qChain g g' ta tb tc)) := by
  obtain ⟨t1, p1, q1⟩ := ha.ex
  obtain ⟨t2, p2, q2⟩ := hb.ex
  obtain ⟨t3, p3, q3⟩ := hc.ex
  refine ⟨_, pt_chain (Classical.choose_spec ho).1 (Classical.choose_spec ho').1 p1 p2 p3 hm, fun G H σ ρ pd Q F R1 h f => ?_⟩
  refine rz_chain ho ho' q1 q2 q3 G H σ ρ pd _ _ R1 h fun r ρ' v H' s hq => ?_
  cases r with
  | pv p =>
    cases p with
    | bl k =>
      have e : v = .bl k := s.pd (.bl k, v) List.mem_cons_self
      exact ⟨k, e, f k ρ' H' s.tl hq⟩
    | _ => exact hq.elim
  | _ => exact hq.elim
/-! ### a, b = x, y; x += e -/
def qPar (i j : Nat) (tr : QTA) (D : PEnds) (ρ : En) : Prop := tr ρ fun rs ρ1 => match rs with
  | [.pv p, .pv q] => notIo ρ1 i = true ∧ notIo ρ1 j = true ∧ D.nx ((ρ1.set i (.val p)).set j (.val q))
  | _ => False
theorem qs_par (i j : Nat) {x y : Str} {px py pt : Pos} {kt k2 : Nat} {pt2 : Pos} (hN : X.N.Nodup) (ha : QA X [a, b] tr) (hc : X.calm = true := by rfl) (hi : X.N[i]? = some x := by rfl) (hj : X.N[j]? = some y := by rfl) (hij : i ≠ j := by decide)
    (hx : X.env.scope.names.lookup x = some .local := by rfl) (hy : X.env.scope.names.lookup y = some .local := by rfl)
    (hw : swappedStores [.Tuple [.Name x px, .Name y py] kt pt] (.Tuple [a, b] k2 pt2) X.env = pure (some [x, y]) := by rfl)
    (hs : swapsWithSole [.Tuple [.Name x px, .Name y py] kt pt] (.Tuple [a, b] k2 pt2) pos.line X.env = pure false := by rfl) : QS X (.Assign [.Tuple [.Name x px, .Name y py] kt pt] (.Tuple [a, b] k2 pt2) pos) (qPar i j tr) := by
  obtain ⟨t, p, q⟩ := ha.ex
  refine ⟨_, ps_par hc hN hi hj hij hx hy p hw hs, fun G H σ ρ pd D' D R1 h ee => ?_⟩
  refine q G H σ ρ pd _ _ R1 h fun rs ρ1 pd1 vs H1 sb R2 ar g => ?_
  unfold qPar at h
  cases ar with
  | nil => exact g.elim
  | @cons r v rs vs h1 t1 =>
    cases t1 with
    | nil => cases r <;> exact g.elim
    | @cons r2 v2 rs2 vs2 h2 t2 =>
      cases t2 with
      | cons _ _ => cases r <;> cases r2 <;> exact g.elim
      | nil =>
        cases r with
        | pv p =>
          cases r2 with
          | pv q =>
            obtain ⟨n1, n2, g⟩ := g
            refine ⟨v, v2, rfl, ee.nx _ _ H1 ?_ g⟩
            have R3 : RE X.K G H1 σ ρ1 ((p, v) :: (q, v2) :: pd) := R2.pds fun x hx => by
              rcases List.mem_cons.mp hx with e | hx
              · rw [e]; exact h1
              rcases List.mem_cons.mp hx with e | hx
              · rw [e]; exact h2
              exact sb x hx
            refine RE.set (R3.set n1) ?_
            unfold notIo at n2 ⊢
            rw [ix_ne hij]; exact n2
          | _ => exact g.elim
        | _ => cases r2 <;> exact g.elim
/-- x += e of numbers -/
def qAug (i : Nat) (g : Int → Int → Int) (te : QT) (D : PEnds) (ρ : En) : Prop := match ρ[i]? with
  | some (.val (.int a)) => te ρ fun r ρ1 => match r with
    | .pv (.int b) => notIo ρ1 i = true ∧ D.nx (ρ1.set i (.val (.int (g a b))))
    | _ => False
  | _ => False
theorem qs_aug (i : Nat) {op : Operator} {g : Int → Int → Int} {x : Str} {pos' : Pos} (hN : X.N.Nodup) (ho : PIp X op (ipI g)) (he : QE X e te) (hi : X.N[i]? = some x := by rfl) (hx : Loc X.env.scope x := by first | exact Or.inl rfl | exact Or.inr rfl) (hf : X.fn x = true ∨ X.env.scope.names.lookup x = some .local := by first | exact .inl rfl | exact .inr rfl) :
    QS X (.AugAssign (.Name x pos') op e pos) (qAug i g te) := by
  obtain ⟨t, p, q⟩ := he.ex
  refine ⟨_, ps_aug hN hi hx p ho hf, fun G H σ ρ pd D' D R1 h ee => ?_⟩
  unfold qAug at h
  split at h
  · rename_i a ea
    obtain ⟨v, ev, iv⟩ := R1.val i _ ea
    cases (show v = .int a from iv)
    refine ⟨_, ev, q G H σ ρ pd _ _ R1 h fun r ρ1 w H1 s g1 => ?_⟩
    cases r with
    | pv p =>
      cases p with
      | int b =>
        have R2 : RE X.K G H1 σ ρ1 ((.int b, w) :: pd) := s
        cases (show w = .int b from R2.pd (.int b, w) List.mem_cons_self)
        exact ⟨a, b, rfl, rfl, ee.nx _ _ H1 ((R2.tl.push (p := .int (g a b)) (v := .int (g a b)) rfl).set g1.1) g1.2⟩
      | _ => exact g1.elim
    | _ => exact g1.elim
  · exact h.elim
/-! ### a method of a value that changes nothing -/
def tyIs (T : String) : Option PV → Prop
  | some (.lst _) => T = "list"
  | some (.dic _ _) => False
  | some (.str _) => T = "str"
  | _ => False
abbrev MethP (X : Cx) (id : String) (g : PV → List PV → (R → Prop) → Prop) : Prop := ∃ r, MtR X id r ∧ ∀ (H : Hp) (W : Addr → Prop) (p : PV) (x : V) (ps : List PV) (xs : List V) (Q : R → Prop) (F : VK), MutT H W → Lk X.K H W p x → Lks X.K H W ps xs → g p ps Q → (∀ v H' z, Same H H' → ResV X.K H W H' z v → Q z → F v H') → r x xs H F
def qMeth (T : String) (g : PV → List PV → (R → Prop) → Prop) (to : QT) (ta : QTA) (ρ : En) (Q : PK1) : Prop := to ρ fun r ρ1 => tyIs T (r.look ρ1) ∧ ta ρ1 fun rs ρ2 => match r.look ρ2, looks ρ2 rs with
  | some p, some ps => g p ps fun z => Q z ρ2
  | _, _ => False
theorem tyIs_v {K : PySem.W.Frag} {H : Hp} {W : Addr → Prop} {T : String} {p : PV} {v : V} (l : Lk K H W p v) (h : tyIs T (some p)) : tyV K T v H := by
  cases p with
  | lst ps => obtain ⟨a, vs, e, r, _⟩ := l; subst e; exact .inl ⟨h, vs, .inl (.inl r)⟩
  | str s => obtain ⟨e, _⟩ : v = .str s ∧ sOk s = true := l; subst e; exact h
  | _ => exact h.elim
theorem qe_meth {T id : String} {nm : Str} {g : PV → List PV → (R → Prop) → Prop} (hm : MethP X id g) (pa : PlainAttrs T) (slot : Slot T nm id) (hty : typeOf (.builtin id) = pure (.type "method_descriptor")) (ho : QE X o te) (ha : QA X (e :: es) tr)
    (hbase : attributeBase o nm X.env (eval o X.env) = eval o X.env := by rfl)
    (hfew : ((backTo cpos (starEach (e :: es) X.env)).all (fun x => !x.1) && (backToKw cpos (keywordEach [] X.env)).all (fun x => x.1.isSome)
      && decide ((e :: es).length + ([] : List Keyword).length + (if ([] : List Keyword).isEmpty then 0 else 1) < 30)) = true := by rfl)
    (hline : (apos.endLine == cpos.line) = true := by rfl) (hs : starEach (e :: es) X.env = (false, eval e X.env) :: starEach es X.env := by rfl) (hplain : (backTo cpos (starEach es X.env)).any (·.1) = false := by rfl) :
    QE X (.Call (.Attribute o nm apos) (e :: es) [] cpos) (qMeth T g te tr) := by
  obtain ⟨r, h1, h2⟩ := hm
  obtain ⟨t1, p1, q1⟩ := ho.ex
  obtain ⟨t2, p2, q2⟩ := ha.ex
  refine ⟨_, pe_bm pa slot hty h1 p1 p2 hbase hfew hline hs hplain, fun G H σ ρ pd Q F R1 h f => ?_⟩
  refine q1 G H σ ρ pd _ _ R1 h fun r ρ1 v H1 s ⟨ht, g1⟩ => ?_
  obtain ⟨pd1, sb, R2, a1⟩ := s.arg
  cases el : r.look ρ1 with
  | none => rw [el] at ht; exact ht.elim
  | some p =>
    rw [el] at ht
    refine ⟨tyIs_v (s.lk el) ht, ?_⟩
    refine q2 G H1 σ ρ1 pd1 _ _ R2 g1 fun rs ρ2 pd2 vs H2 sb2 R3 ar g2 => ?_
    cases e1 : r.look ρ2 with
    | none => rw [e1] at g2; exact g2.elim
    | some p' =>
      cases e2 : looks ρ2 rs with
      | none => rw [e1, e2] at g2; exact g2.elim
      | some ps =>
        rw [e1, e2] at g2
        refine h2 H2 _ p' v ps vs _ F R3.mut ((a1.mono sb2).lk R3 (by rw [look_wk]; exact e1)) (ar.lks R3 e2) g2 fun v' H' z sm rv hq => ?_
        exact f z ρ2 v' H' (res_of (R3.pds fun x hx => sb2 x (sb x hx)) sm rv) hq
/-- xs.index(y): the first place -/
def idxP (y : PV) : List PV → Option Nat
  | [] => none
  | p :: ps => if peq p y = true then some 0 else (idxP y ps).map (· + 1)
def gIndex (p : PV) (ps : List PV) (Q : R → Prop) : Prop := match p, ps with
  | .lst xs, [y] => eqOk y ∧ eqOk (.lst xs) ∧ match idxP y xs with
    | some j => Q (.pv (.int (j : Nat)))
    | none => False
  | _, _ => False
theorem idxP_at {y : PV} : ∀ {xs : List PV} {j : Nat}, idxP y xs = some j → ∃ z, (toDs xs)[j]? = some z ∧ PyData.eqv z (toD y) = true ∧ ∀ (m : Nat) (z' : PyData), m < j → (toDs xs)[m]? = some z' → PyData.eqv z' (toD y) = false
  | [], _, e => by cases e
  | p :: xs, j, e => by
    unfold idxP at e
    split at e
    · rename_i h
      cases e
      exact ⟨toD p, rfl, h, fun m z hm => by omega⟩
    · rename_i h
      cases z : idxP y xs with
      | none => rw [z] at e; cases e
      | some k =>
        rw [z] at e; cases e
        obtain ⟨w, h1, h2, h3⟩ := idxP_at z
        refine ⟨w, by rw [toDs]; simpa using h1, h2, fun m z' hm hz => ?_⟩
        cases m with
        | zero =>
          rw [toDs] at hz
          simp only [List.getElem?_cons_zero, Option.some.injEq] at hz
          rw [← hz]
          exact Bool.eq_false_iff.mpr h
        | succ m => exact h3 m z' (by have hm' : m + 1 < k + 1 := hm; omega) (by rw [toDs] at hz; simpa using hz)
theorem me_index (hu : X.A.units + 65 < cLine) : MethP X "list.index" gIndex := by
  refine ⟨_, mt_indexD hu, fun H W p x ps xs Q F m l ls g f => ?_⟩
  unfold gIndex at g
  split at g
  · rename_i qs y
    obtain ⟨h1, h2, g⟩ := g
    obtain ⟨v, rfl, ly⟩ := lks1 ls
    cases ei : idxP y qs with
    | none => rw [ei] at g; exact g.elim
    | some j =>
      rw [ei] at g
      obtain ⟨d1, c1, z1⟩ := lk_dp h1.1 ly
      obtain ⟨d2, c2, z2⟩ := lk_dp h2.1 l
      obtain ⟨z, e1, e2, e3⟩ := idxP_at ei
      obtain ⟨a, vs, e, r, i⟩ := l
      subst e
      exact ⟨a, v, _, _, j, z, rfl, rfl, d2, d1, shaped_of c2 z2 h2, shaped_of c1 z1 h1, e1, e2, e3, fin1 f (p := .int _) rfl g⟩
  · exact g.elim
end
end Px
namespace Px
open PySem L2 PySem.Spec PyProof.Rows
/-! ### a dict walked: it stands locked -/
structure HM (H H' : Hp) : Prop where
  lst : ∀ b xs, H b = some (.lst xs) → H' b = some (.lst xs)
  tup : ∀ b xs, H b = some (.tup xs) → H' b = some (.tup xs)
  dK : ∀ b kvs, Rd H b (.dK kvs) → Rd H' b (.dK kvs)
  fl : ∀ b o xs, H b = some (.frz o (.lst xs)) → H' b = some (.frz o (.lst xs))
mutual
theorem Is.hm {K : PySem.W.Frag} {H H' : Hp} {W : Addr → Prop} (m : HM H H') : ∀ (p : PV) (v : V), Is K H W p v → Is K H' W p v
  | .non, _, h => h
  | .bl _, _, h => h
  | .int _, _, h => h
  | .ty _, _, h => h
  | .str _, _, h => h
  | .tup ps, v, h => by
    obtain ⟨a, vs, e, r, q⟩ := h
    exact ⟨a, vs, e, m.tup a vs r, Iss.hm m ps vs q⟩
  | .lst ps, v, h => by
    obtain ⟨a, vs, e, n, r, q⟩ := h
    exact ⟨a, vs, e, n, m.lst a vs r, Iss.hm m ps vs q⟩
  | .dic ks ps, v, h => by
    obtain ⟨a, vs, e, n, r, l, kk, q⟩ := h
    exact ⟨a, vs, e, n, m.dK a _ r, l, kk, Iss.hm m ps vs q⟩
  | .scr ns, v, h => by
    obtain ⟨a, e, q⟩ := h
    rcases q with ⟨o, q⟩ | q
    · exact ⟨a, e, .inl ⟨o, m.fl a o _ q⟩⟩
    · exact ⟨a, e, .inr q⟩
  | .nst _ c s, v, h => by
    obtain ⟨a, e, n, r⟩ := h
    exact ⟨a, e, n, m.lst a _ r⟩
theorem Iss.hm {K : PySem.W.Frag} {H H' : Hp} {W : Addr → Prop} (m : HM H H') : ∀ (ps : List PV) (vs : List V), Iss K H W ps vs → Iss K H' W ps vs
  | [], _, h => h
  | p :: ps, vs, h => by
    obtain ⟨v, r, e, h1, h2⟩ := h
    exact ⟨v, r, e, Is.hm m p v h1, Iss.hm m ps r h2⟩
end
theorem OwnO.hm {K : PySem.W.Frag} {H H' : Hp} {W : Addr → Prop} (m : HM H H') {p : PV} {o : HO} (h : OwnO K H W p o) : OwnO K H' W p o := by
  cases p <;> cases o <;> first
    | exact h.elim
    | exact Iss.hm m _ _ h
    | (obtain ⟨vs, e, l, kk, q⟩ := h; exact ⟨vs, e, l, kk, Iss.hm m _ _ q⟩)
    | exact h
theorem hm_lock {H : Hp} {d : Addr} {o : Obj} {kvs : List (Key × V)} (h : H d = some (.dK kvs)) : HM H (upd H d (.frz o (.dK kvs))) := by
  have ne : ∀ b (u : HO), H b = some u → u ≠ .dK kvs → b ≠ d := fun b u e n z => by rw [z, h] at e; cases e; exact n rfl
  refine ⟨fun b xs e => by rw [upd_ne (ne b _ e (by intro z; cases z))]; exact e, fun b xs e => by rw [upd_ne (ne b _ e (by intro z; cases z))]; exact e, fun b ks e => ?_, fun b o xs e => by rw [upd_ne (ne b _ e (by intro z; cases z))]; exact e⟩
  by_cases z : b = d
  · subst z
    rcases e with e | ⟨u, e⟩
    · rw [h] at e; cases e; exact .inr ⟨o, upd_same⟩
    · rw [h] at e; cases e
  · rcases e with e | ⟨u, e⟩
    · exact .inl (by rw [upd_ne z]; exact e)
    · exact .inr ⟨u, by rw [upd_ne z]; exact e⟩
theorem hm_unlock {H : Hp} {d : Addr} {o : Obj} {kvs : List (Key × V)} (h : H d = some (.frz o (.dK kvs))) : HM H (upd H d (.dK kvs)) := by
  have ne : ∀ b (u : HO), H b = some u → u ≠ .frz o (.dK kvs) → b ≠ d := fun b u e n z => by rw [z, h] at e; cases e; exact n rfl
  refine ⟨fun b xs e => by rw [upd_ne (ne b _ e (by intro z; cases z))]; exact e, fun b xs e => by rw [upd_ne (ne b _ e (by intro z; cases z))]; exact e, fun b ks e => ?_, fun b o' xs e => by rw [upd_ne (ne b _ e (by intro z; cases z))]; exact e⟩
  by_cases z : b = d
  · subst z
    rcases e with e | ⟨u, e⟩
    · rw [h] at e; cases e
    · rw [h] at e; cases e; exact .inl upd_same
  · rcases e with e | ⟨u, e⟩
    · exact .inl (by rw [upd_ne z]; exact e)
    · exact .inr ⟨u, by rw [upd_ne z]; exact e⟩
def Gd.lk (G : Gd) (d : Addr) (u : HO) : Gd := ⟨upd G.keep d u, G.ex, G.io, G.vo⟩
theorem lk_add {G : Gd} {a d : Addr} {u v : HO} (ne : a ≠ d) : (G.lk d u).add a v = (G.add a v).lk d u := by
  have : upd (upd G.keep d u) a v = upd (upd G.keep a v) d u := by
    funext b
    by_cases z1 : b = a
    · subst z1; rw [upd_same, upd_ne ne, upd_same]
    · by_cases z2 : b = d
      · subst z2; rw [upd_ne z1, upd_same, upd_same]
      · rw [upd_ne z1, upd_ne z2, upd_ne z2, upd_ne z1]
  exact congrArg (fun k => Gd.mk k (fun b => b = a ∨ G.ex b) G.io G.vo) this
theorem RX.lk {G : Gd} {H H' : Hp} {σ : L2.St} {ρ : En} {d : Addr} {u : HO} (R : RX G H σ ρ) (n : ¬ G.ex d) (k : ∀ b, b ≠ d → H' b = H b) : RX (G.lk d u) H' σ ρ := ⟨fun b h => by
  obtain ⟨h1, h2, ns, e, h3⟩ := R.vo b h
  have ne : b ≠ d := fun z => n (by rw [← z]; exact h1)
  exact ⟨h1, by show upd G.keep d u b = none; rw [upd_ne ne]; exact h2, ns, by rw [k b ne]; exact e, h3⟩, R.off, R.nst⟩
theorem RX.unlk {G : Gd} {H H' : Hp} {σ : L2.St} {ρ : En} {d : Addr} {u : HO} (R : RX (G.lk d u) H σ ρ) (k : ∀ b, b ≠ d → H' b = H b) : RX G H' σ ρ := ⟨fun b h => by
  obtain ⟨h1, h2, ns, e, h3⟩ := R.vo b h
  have h2' : upd G.keep d u b = none := h2
  have ne : b ≠ d := fun z => by rw [z, upd_same] at h2'; cases h2'
  rw [upd_ne ne] at h2'
  exact ⟨h1, h2', ns, by rw [k b ne]; exact e, h3⟩, R.off, R.nst⟩
section
variable {K : PySem.W.Frag} {G : Gd} {H : Hp} {σ : L2.St} {ρ : En} {pd : Pds} {d : Addr} {o : Obj} {kvs : List (Key × V)}
theorem RE.lock (R : RE K G H σ ρ pd) (n : ¬ WS G σ ρ d) (h : H d = some (.dK kvs)) : RE K (G.lk d (.frz o (.dK kvs))) (upd H d (.frz o (.dK kvs))) σ ρ pd := by
  have m := hm_lock (o := o) h
  refine ⟨R.len, fun i p e => ?_, fun i b p e => ?_, R.inj, R.io, fun b u e => ?_, fun b w hv => ?_, fun x hx => Is.hm m _ _ (R.pd x hx), R.ext.lk (fun z => n (.inl z)) fun b ne => upd_ne ne⟩
  · obtain ⟨v, e1, q⟩ := R.val i p e
    exact ⟨v, e1, Is.hm m _ _ q⟩
  · obtain ⟨a, e1, k, u, e2, q⟩ := R.own i b p e
    have ne : a ≠ d := fun z => n (by rw [← z]; exact .inr ⟨i, b, p, e, e1⟩)
    exact ⟨a, e1, by show upd G.keep d _ a = none; rw [upd_ne ne]; exact k, u, by rw [upd_ne ne]; exact e2, q.hm m⟩
  · have e' : upd G.keep d (.frz o (.dK kvs)) b = some u := e
    by_cases z : b = d
    · rw [z] at e' ⊢; rw [upd_same] at e' ⊢; exact e'
    · rw [upd_ne z] at e' ⊢; exact R.keep b u e'
  · obtain ⟨u, e1, m1⟩ := R.exk b w hv
    have ne : b ≠ d := fun z => n (by rw [← z]; exact .inl w)
    exact ⟨u, by show upd G.keep d _ b = some u; rw [upd_ne ne]; exact e1, m1⟩
theorem RE.unlock (R : RE K (G.lk d (.frz o (.dK kvs))) H σ ρ pd) (kd : ∀ u, G.keep d = some u → u = .dK kvs) : H d = some (.frz o (.dK kvs)) ∧ RE K G (upd H d (.dK kvs)) σ ρ pd := by
  have h : H d = some (.frz o (.dK kvs)) := R.keep d _ upd_same
  have m := hm_unlock h
  have kne : ∀ a, (G.lk d (.frz o (.dK kvs))).keep a = none → a ≠ d ∧ G.keep a = none := fun a e => by
    have e' : upd G.keep d (.frz o (.dK kvs)) a = none := e
    by_cases z : a = d
    · rw [z, upd_same] at e'; cases e'
    · rw [upd_ne z] at e'; exact ⟨z, e'⟩
  refine ⟨h, R.len, fun i p e => ?_, fun i b p e => ?_, R.inj, R.io, fun b u e => ?_, fun b w hv => ?_, fun x hx => Is.hm m _ _ (R.pd x hx), R.ext.unlk fun b ne => upd_ne ne⟩
  · obtain ⟨v, e1, q⟩ := R.val i p e
    exact ⟨v, e1, Is.hm m _ _ q⟩
  · obtain ⟨a, e1, k, u, e2, q⟩ := R.own i b p e
    obtain ⟨ne, k'⟩ := kne a k
    exact ⟨a, e1, k', u, by rw [upd_ne ne]; exact e2, q.hm m⟩
  · by_cases z : b = d
    · rw [z] at e ⊢; rw [kd u e, upd_same]
    · rw [upd_ne z]
      exact R.keep b u (by show upd G.keep d _ b = some u; rw [upd_ne z]; exact e)
  · obtain ⟨u, e1, m1⟩ := R.exk b w hv
    have e' : upd G.keep d (.frz o (.dK kvs)) b = some u := e1
    by_cases z : b = d
    · rw [z, upd_same] at e'; cases e'; exact m1.elim
    · rw [upd_ne z] at e'; exact ⟨u, e', m1⟩
theorem Res.unlock {r : R} {v : V} (s : Res K (G.lk d (.frz o (.dK kvs))) H σ ρ pd r v) (kd : ∀ u, G.keep d = some u → u = .dK kvs) (kx : exkOk G) : H d = some (.frz o (.dK kvs)) ∧ Res K G (upd H d (.dK kvs)) σ ρ pd r v := by
  cases r with
  | pv p => exact RE.unlock (pd := (p, v) :: pd) s kd
  | sl i =>
    obtain ⟨R1, e1, x⟩ := s
    obtain ⟨h, R2⟩ := R1.unlock kd
    exact ⟨h, R2, e1, x⟩
  | fr p =>
    obtain ⟨a, u, e1, n, _, R1, w⟩ := s
    have n' : upd G.keep d (.frz o (.dK kvs)) a = none := n
    have ne : a ≠ d := fun z => by rw [z, upd_same] at n'; cases n'
    rw [upd_ne ne] at n'
    have eg : (G.lk d (.frz o (.dK kvs))).add a u = (G.add a u).lk d (.frz o (.dK kvs)) := lk_add ne
    rw [eg] at R1 w
    obtain ⟨h, R2⟩ := R1.unlock (fun x e => kd x (by
      have e' : upd G.keep a u d = some x := e
      rw [upd_ne ne.symm] at e'; exact e'))
    exact ⟨h, a, u, e1, n', kx, R2, w.hm (hm_unlock h)⟩
end
theorem pe_either {X : Cx} {e : Expr} {t t' : TE} (h : PE X e t) (h' : PE X e t') : PE X e (fun σ H Q => t σ H Q ∨ t' σ H Q) := ⟨fun pins s σ H Q I q => q.elim (h.run pins s σ H Q I) (h'.run pins s σ H Q I)⟩
theorem ps_either {X : Cx} {st : Stmt} {t t' : TS} (h : PS X st t) (h' : PS X st t') : PS X st (fun D σ H => t D σ H ∨ t' D σ H) := ⟨fun pins s σ H D I q => q.elim (h.run pins s σ H D I) (h'.run pins s σ H D I)⟩
theorem wk_keys {K : PySem.W.Frag} {d : Addr} {o : Obj} {ks : List Key} {vs : List V} {pd : Pds} {kp : Hp} (hl : ks.length = vs.length) (ok : ks.all keyOk = true) (hk : kp d = some (.frz o (.dK (ks.zip vs)))) : Wk K (Itk d o (ks.zip vs)) (ks.map keyV) pd kp := by
  constructor
  · intro G H σ ρ pd' i p sb kk R1 hp
    have hd := R1.keep d _ (kk d _ hk)
    rw [List.getElem?_map] at hp
    cases e : ks[i]? with
    | none => rw [e] at hp; cases hp
    | some k =>
      rw [e] at hp; cases hp
      have l : i < ks.length := (List.getElem?_eq_some_iff.mp e).1
      refine ⟨⟨hd, by rw [zip_len hl]; exact l⟩, fun x H' y => ?_⟩
      obtain ⟨rfl, k', v, e2, rfl⟩ := y
      rw [List.getElem?_zip_eq_some] at e2
      rw [e] at e2
      obtain ⟨e3, _⟩ := e2
      have okk := List.all_eq_true.mp ok k (List.mem_of_getElem? e)
      cases e3
      exact R1.push (keyV_is okk)
  · intro G H σ ρ pd' i sb kk R1 hp
    refine ⟨R1.keep d _ (kk d _ hk), ?_⟩
    rw [zip_len hl]
    simpa using hp
/-- the dict at a slot -/
def dicAt (ρ : En) (i : Nat) : Option (List Key × List PV) := match ρ[i]? with
  | some (.val (.dic ks ps)) => some (ks, ps)
  | _ => none
def qLcK (i : Nat) (g : QTG) (tt : QTT) (te : QT) (vs : List Nat) (ρ : En) (Q : PK1) : Prop := match dicAt ρ i with
  | some (ks, _) => notIos ρ vs ∧ lcR g tt te vs (ks.map keyV) (wipeE ρ vs) Q .mk
  | none => False
def qForK (i : Nat) (g : QTG) (body : QTS) (D : PEnds) (ρ : En) : Prop := match dicAt ρ i with
  | some (ks, _) => forGo g body D (ks.map keyV) ρ
  | none => False
theorem dicAt_is {K : PySem.W.Frag} {G : Gd} {H : Hp} {σ : L2.St} {ρ : En} {pd : Pds} {i : Nat} {ks : List Key} {ps : List PV} (R1 : RE K G H σ ρ pd) (e : dicAt ρ i = some (ks, ps)) :
    ∃ d vs, σ[i]? = some (some (V.ref d)) ∧ ¬ WS G σ ρ d ∧ Rd H d (.dK (ks.zip vs)) ∧ ks.length = vs.length ∧ ks.all keyOk = true := by
  unfold dicAt at e
  split at e
  · rename_i ks' ps' e1
    cases e
    obtain ⟨v, e2, a, vs, e3, n, r, l, ok, _⟩ := R1.val i _ e1
    subst e3
    exact ⟨a, vs, e2, n, r, l, ok⟩
  · cases e
section
variable {X : Cx} {elt tg : Expr} {ifs : List Expr} {scope : Scope} {own : List (Str × Nat)} {pos npos : Pos} {g : QTG} {tt : QTT} {te : QT} {sl : List Nat} {x : Str}
theorem rz_lcK {g1 : TG} {t1 : TT} {e1 : TE} {vs : List Nat} {i : Nat} (q2 : RzG X.K g1 sl g) (q3 : RzT X.K t1 tt) (q4 : Rz X.K e1 te) (hs : ∀ i ∈ sl, i ∈ vs) :
    Rz X.K (fun σ H Q => tLockE (tLc (iKeys (tVar i)) g1 t1 e1 vs) σ H Q ∨ tLc (iKeys (tVar i)) g1 t1 e1 vs σ H Q) (qLcK i g tt te vs) := by
  intro G H σ ρ pd Q F R1 h f
  unfold qLcK at h
  cases e : dicAt ρ i with
  | none => rw [e] at h; exact h.elim
  | some kp =>
    obtain ⟨ks, ps⟩ := kp
    rw [e] at h
    obtain ⟨nio, go⟩ := h
    obtain ⟨d, us, e2, n, r, hl, ok⟩ := dicAt_is R1 e
    rcases r with r | ⟨o, r⟩
    · refine .inl ⟨d, _, r, trivial, fun od => ?_⟩
      have R2 := R1.lock (o := od) n r
      refine ⟨.ref d, e2, d, od, rfl, .inl ⟨_, upd_same, ?_⟩⟩
      have kd : ∀ u, G.keep d = some u → u = .dK (ks.zip us) := fun u eu => by have := R1.keep d u eu; rw [r] at this; cases this; rfl
      refine lc_walk (F := fun v H' => H' d = some (.frz od (.dK (ks.zip us))) ∧ F v (upd H' d (.dK (ks.zip us)))) q2 q3 q4 hs (pd1 := pd) (fun _ hx => hx) R2 (wk_keys hl ok upd_same) nio go fun r ρ' v H' s hq => ?_
      obtain ⟨h1, s'⟩ := s.unlock kd R1.exk
      exact ⟨h1, f r ρ' v _ s' hq⟩
    · refine .inr ⟨.ref d, e2, d, o, rfl, .inl ⟨_, r, ?_⟩⟩
      by_cases hk : G.keep d = some (.frz o (.dK (ks.zip us)))
      · exact lc_walk q2 q3 q4 hs (pd1 := pd) (fun _ hx => hx) R1 (wk_keys hl ok hk) nio go f
      · have kn : G.keep d = none := by
          cases eq : G.keep d with
          | none => rfl
          | some u => have := R1.keep d u eq; rw [r] at this; cases this; exact absurd eq hk
        have R2 : RE X.K (G.lk d (.frz o (.dK (ks.zip us)))) H σ ρ pd := by
          refine ⟨R1.len, R1.val, fun j b p e => ?_, R1.inj, R1.io, fun b u e => ?_, fun b w hv => ?_, R1.pd, R1.ext.lk (fun z => n (.inl z)) fun b ne => rfl⟩
          · obtain ⟨a, e1, k, rest⟩ := R1.own j b p e
            have ne : a ≠ d := fun z => n (by rw [← z]; exact .inr ⟨j, b, p, e, e1⟩)
            exact ⟨a, e1, by show upd G.keep d _ a = none; rw [upd_ne ne]; exact k, rest⟩
          · have e' : upd G.keep d (.frz o (.dK (ks.zip us))) b = some u := e
            by_cases z : b = d
            · rw [z] at e' ⊢; rw [upd_same] at e'; rw [r]; exact e'
            · rw [upd_ne z] at e'; exact R1.keep b u e'
          · obtain ⟨u, e1, m1⟩ := R1.exk b w hv
            have ne : b ≠ d := fun z => n (by rw [← z]; exact .inl w)
            exact ⟨u, by show upd G.keep d _ b = some u; rw [upd_ne ne]; exact e1, m1⟩
        refine lc_walk q2 q3 q4 hs (pd1 := pd) (fun _ hx => hx) R2 (wk_keys hl ok upd_same) nio go fun r ρ' v H' s hq => ?_
        refine f r ρ' v H' ?_ hq
        have dn : ∀ {H' : Hp} {σ : L2.St} {ρ : En} {pd : Pds} {G : Gd}, G.keep d = none → RE X.K (G.lk d (.frz o (.dK (ks.zip us)))) H' σ ρ pd → RE X.K G H' σ ρ pd := fun {H' σ ρ pd G} kn R => by
          refine ⟨R.len, R.val, fun j b p e => ?_, R.inj, R.io, fun b u e => ?_, fun b w hv => ?_, R.pd, R.ext.unlk fun b ne => rfl⟩
          · obtain ⟨a, e1, k, rest⟩ := R.own j b p e
            have k' : upd G.keep d (.frz o (.dK (ks.zip us))) a = none := k
            by_cases z : a = d
            · rw [z, upd_same] at k'; cases k'
            · rw [upd_ne z] at k'; exact ⟨a, e1, k', rest⟩
          · have ne : b ≠ d := fun z => by rw [z, kn] at e; cases e
            exact R.keep b u (by show upd G.keep d _ b = some u; rw [upd_ne ne]; exact e)
          · obtain ⟨u, e1, m1⟩ := R.exk b w hv
            have e' : upd G.keep d (.frz o (.dK (ks.zip us))) b = some u := e1
            by_cases z : b = d
            · rw [z, upd_same] at e'; cases e'; exact m1.elim
            · rw [upd_ne z] at e'; exact ⟨u, e', m1⟩
        cases r with
        | pv p => exact dn kn s
        | sl j => exact ⟨dn kn s.1, s.2⟩
        | fr p =>
          obtain ⟨a, u, e1, na, _, R3, w⟩ := s
          have n' : upd G.keep d (.frz o (.dK (ks.zip us))) a = none := na
          have ne : a ≠ d := fun z => by rw [z, upd_same] at n'; cases n'
          rw [upd_ne ne] at n'
          have eg : (G.lk d (.frz o (.dK (ks.zip us)))).add a u = (G.add a u).lk d (.frz o (.dK (ks.zip us))) := lk_add ne
          rw [eg] at R3 w
          exact ⟨a, u, e1, n', R1.exk, dn (G := G.add a u) (by show upd G.keep a u d = none; rw [upd_ne ne.symm]; exact kn) R3, w⟩
theorem qe_lcK (i : Nat) (hc : X.calm = true) (hN : X.N.Nodup) (ok : BlkOk X.N X.env.scope scope own) (hg : ∀ c, QG (blkX X scope c) tg sl g) (ht : ∀ c, QCs (blkX X scope c) ifs tt) (he : ∀ c, QE (blkX X scope c) elt te)
    (hs : ∀ i ∈ sl, i ∈ own.map (·.2) := by decide) (hNx : X.N[i]? = some x := by rfl) (hv : Vis X.env.scope x := by first | exact Or.inl rfl | exact Or.inr (Or.inl rfl) | exact Or.inr (Or.inr rfl)) (hd : (x == ("__debug__" : Str)) = false := by decide)
    (hcd : (x == ("__classdict__" : Str)) = false := by decide) (hf : ∀ y, foldedSetIterable (.Name x npos) X.env y = pure y := by intro _; rfl) {vs : List Nat} (hvs : vs = own.map (·.2) := by rfl) : QE X (.ListComp elt [⟨tg, .Name x npos, ifs, 0⟩] scope pos) (qLcK i g tt te vs) := by
  subst hvs
  obtain ⟨g1, p2, q2⟩ := QG.all (X := blkX X scope) (K := X.K) (fun _ => rfl) hg
  obtain ⟨t1, p3, q3⟩ := QCs.all (X := blkX X scope) (K := X.K) (fun _ => rfl) ht
  obtain ⟨e1, p4, q4⟩ := QE.all (X := blkX X scope) (K := X.K) (fun _ => rfl) he
  have base := pe_lc (pos := pos) hc hN (pi_keys (pe_var (pos := npos) hNx hv hd hcd)) ok (fun s H C cl fp => p2 (s, H, C, cl, fp)) (fun s H C cl fp => p3 (s, H, C, cl, fp)) (fun s H C cl fp => p4 (s, H, C, cl, fp)) hf
  exact ⟨_, pe_either (pe_lock base) base, rz_lcK q2 q3 q4 hs⟩
/-- for x in d -/
theorem endsLock {K : PySem.W.Frag} {G : Gd} {pd : Pds} {D' : PEnds} {D : Ends} {d : Addr} {o : Obj} {kvs : List (Key × V)} (kd : ∀ u, G.keep d = some u → u = .dK kvs) (kx : exkOk G) (e : EndsOk K G pd D' D) :
    EndsOk K (G.lk d (.frz o (.dK kvs))) pd D' ⟨fun σ' H' => H' d = some (.frz o (.dK kvs)) ∧ D.nx σ' (upd H' d (.dK kvs)), fun v H' => H' d = some (.frz o (.dK kvs)) ∧ D.rt v (upd H' d (.dK kvs)), fun σ' H' => H' d = some (.frz o (.dK kvs)) ∧ D.bk σ' (upd H' d (.dK kvs)), fun σ' H' => H' d = some (.frz o (.dK kvs)) ∧ D.ct σ' (upd H' d (.dK kvs))⟩ := by
  refine ⟨fun σ ρ H R h => ?_, fun r v σ ρ H R h => ?_, fun σ ρ H R h => ?_, fun σ ρ H R h => ?_⟩
  · obtain ⟨h1, R2⟩ := R.unlock kd; exact ⟨h1, e.nx σ ρ _ R2 h⟩
  · obtain ⟨h1, R2⟩ := R.unlock kd kx; exact ⟨h1, e.rt r v σ ρ _ R2 h⟩
  · obtain ⟨h1, R2⟩ := R.unlock kd; exact ⟨h1, e.bk σ ρ _ R2 h⟩
  · obtain ⟨h1, R2⟩ := R.unlock kd; exact ⟨h1, e.ct σ ρ _ R2 h⟩
/-- the dict must not be locked already -/
theorem qs_forK (i : Nat) {body : List Stmt} {t : QTS} (hp : PassesOwn (model X.prog X.w) X.A X.env X.xe) (hc : X.calm = true) (hg : QG X tg sl g) (hb : QSs X body t)
    (hNx : X.N[i]? = some x := by rfl) (hv : Vis X.env.scope x := by first | exact Or.inl rfl | exact Or.inr (Or.inl rfl) | exact Or.inr (Or.inr rfl)) (hd : (x == ("__debug__" : Str)) = false := by decide)
    (hcd : (x == ("__classdict__" : Str)) = false := by decide) (hf : ∀ y, foldedSetIterable (.Name x npos) X.env y = pure y := by intro _; rfl) : QS X (.For tg (.Name x npos) body [] pos) (qForK i g t) := by
  obtain ⟨g1, p2, q2⟩ := hg.ex
  obtain ⟨t1, p3, q3⟩ := hb.ex
  have base := ps_for (pos := pos) hp hc (pi_keys (pe_var (pos := npos) hNx hv hd hcd)) p2 p3 hf
  refine ⟨_, ps_either (ps_lock base) base, fun G H σ ρ pd D' D R1 h ee => ?_⟩
  unfold qForK at h
  cases e : dicAt ρ i with
  | none => rw [e] at h; exact h.elim
  | some kp =>
    obtain ⟨ks, ps⟩ := kp
    rw [e] at h
    obtain ⟨d, us, e2, n, r, hl, ok⟩ := dicAt_is R1 e
    rcases r with r | ⟨o, r⟩
    · refine .inl ⟨d, _, r, trivial, fun od => ?_⟩
      have R2 := R1.lock (o := od) n r
      have kd : ∀ u, G.keep d = some u → u = .dK (ks.zip us) := fun u eu => by have := R1.keep d u eu; rw [r] at this; cases this; rfl
      refine ⟨.ref d, e2, d, od, rfl, .inl ⟨_, upd_same, ?_⟩⟩
      exact for_walk q2 q3 (pd1 := pd) (fun _ hx => hx) R2 (wk_keys hl ok upd_same) h (endsLock kd R1.exk ee)
    · refine .inr ⟨.ref d, e2, d, o, rfl, .inl ⟨_, r, ?_⟩⟩
      have dn : ∀ {H' : Hp} {σ : L2.St} {ρ : En} {pd : Pds} {G : Gd}, G.keep d = none → RE X.K (G.lk d (.frz o (.dK (ks.zip us)))) H' σ ρ pd → RE X.K G H' σ ρ pd := fun {H' σ ρ pd G} kn R => by
        refine ⟨R.len, R.val, fun j b p e => ?_, R.inj, R.io, fun b u e => ?_, fun b w hv => ?_, R.pd, R.ext.unlk fun b ne => rfl⟩
        · obtain ⟨a, e1, k, rest⟩ := R.own j b p e
          have k' : upd G.keep d (.frz o (.dK (ks.zip us))) a = none := k
          by_cases z : a = d
          · rw [z, upd_same] at k'; cases k'
          · rw [upd_ne z] at k'; exact ⟨a, e1, k', rest⟩
        · have ne : b ≠ d := fun z => by rw [z, kn] at e; cases e
          exact R.keep b u (by show upd G.keep d _ b = some u; rw [upd_ne ne]; exact e)
        · obtain ⟨u, e1, m1⟩ := R.exk b w hv
          have e' : upd G.keep d (.frz o (.dK (ks.zip us))) b = some u := e1
          by_cases z : b = d
          · rw [z, upd_same] at e'; cases e'; exact m1.elim
          · rw [upd_ne z] at e'; exact ⟨u, e', m1⟩
      by_cases hk : G.keep d = some (.frz o (.dK (ks.zip us)))
      · exact for_walk q2 q3 (pd1 := pd) (fun _ hx => hx) R1 (wk_keys hl ok hk) h ee
      · have kn : G.keep d = none := by
          cases eq : G.keep d with
          | none => rfl
          | some u => have := R1.keep d u eq; rw [r] at this; cases this; exact absurd eq hk
        have R2 : RE X.K (G.lk d (.frz o (.dK (ks.zip us)))) H σ ρ pd := by
          refine ⟨R1.len, R1.val, fun j b p e => ?_, R1.inj, R1.io, fun b u e => ?_, fun b w hv => ?_, R1.pd, R1.ext.lk (fun z => n (.inl z)) fun b ne => rfl⟩
          · obtain ⟨a, e1, k, rest⟩ := R1.own j b p e
            have ne : a ≠ d := fun z => n (by rw [← z]; exact .inr ⟨j, b, p, e, e1⟩)
            exact ⟨a, e1, by show upd G.keep d _ a = none; rw [upd_ne ne]; exact k, rest⟩
          · have e' : upd G.keep d (.frz o (.dK (ks.zip us))) b = some u := e
            by_cases z : b = d
            · rw [z] at e' ⊢; rw [upd_same] at e'; rw [r]; exact e'
            · rw [upd_ne z] at e'; exact R1.keep b u e'
          · obtain ⟨u, e1, m1⟩ := R1.exk b w hv
            have ne : b ≠ d := fun z => n (by rw [← z]; exact .inl w)
            exact ⟨u, by show upd G.keep d _ b = some u; rw [upd_ne ne]; exact e1, m1⟩
        refine for_walk q2 q3 (pd1 := pd) (fun _ hx => hx) R2 (wk_keys hl ok upd_same) h ⟨fun σ ρ H R h => ee.nx σ ρ H (dn kn R) h, fun r v σ ρ H s h => ee.rt r v σ ρ H ?_ h, fun σ ρ H R h => ee.bk σ ρ H (dn kn R) h, fun σ ρ H R h => ee.ct σ ρ H (dn kn R) h⟩
        cases r with
        | pv p => exact dn kn s
        | sl j => exact ⟨dn kn s.1, s.2⟩
        | fr p =>
          obtain ⟨a, u, e1, na, _, R3, w⟩ := s
          have n' : upd G.keep d (.frz o (.dK (ks.zip us))) a = none := na
          have ne : a ≠ d := fun z => by rw [z, upd_same] at n'; cases n'
          rw [upd_ne ne] at n'
          have eg : (G.lk d (.frz o (.dK (ks.zip us)))).add a u = (G.add a u).lk d (.frz o (.dK (ks.zip us))) := lk_add ne
          rw [eg] at R3 w
          exact ⟨a, u, e1, n', R1.exk, dn (G := G.add a u) (by show upd G.keep a u d = none; rw [upd_ne ne.symm]; exact kn) R3, w⟩
end
/-! ### zip and enumerate walked -/
section
variable {X : Cx} {a b e : Expr} {es elts : List Expr} {tr : QTA} {te : QT} {p pos tpos : Pos} {kk : Nat}
theorem zipP_get {ps : List PV} : ∀ {qs : List PV} {i : Nat} {z : PV}, (zipP ps qs)[i]? = some z → ∃ p q, ps[i]? = some p ∧ qs[i]? = some q ∧ z = .tup [p, q] := by
  induction ps with
  | nil => intro qs i z h; unfold zipP at h; simp at h
  | cons p ps ih =>
    intro qs i z h
    cases qs with
    | nil => unfold zipP at h; simp at h
    | cons q qs =>
      cases i with
      | zero => unfold zipP at h; simp at h; exact ⟨p, q, rfl, rfl, h.symm⟩
      | succ i =>
        rw [zipP, List.getElem?_cons_succ] at h
        obtain ⟨p', q', h1, h2, h3⟩ := ih h
        exact ⟨p', q', by simpa using h1, by simpa using h2, h3⟩
theorem zipP_len : ∀ (ps qs : List PV), (zipP ps qs).length = min ps.length qs.length
  | [], qs => by unfold zipP; simp
  | p :: ps, [] => by unfold zipP; simp
  | p :: ps, q :: qs => by unfold zipP; rw [List.length_cons, zipP_len ps qs]; simp only [List.length_cons]; omega
theorem wk_zipL {K : PySem.W.Frag} {a b : Addr} {ps qs : List PV} {pd : Pds} {kp : Hp} (h1 : (PV.lst ps, V.ref a) ∈ pd) (h2 : (PV.lst qs, V.ref b) ∈ pd) : Wk K (Itz K a b) (zipP ps qs) pd kp := by
  constructor
  · intro G H σ ρ pd' i p s _ R1 hp
    obtain ⟨c, vs, e, n, hc, q⟩ : ∃ b vs, V.ref a = .ref b ∧ ¬ WS G σ ρ b ∧ H b = some (.lst vs) ∧ Iss K H (WS G σ ρ) ps vs := R1.pd _ (s _ h1)
    cases e
    obtain ⟨c, us, e, n, hd, q2⟩ : ∃ c vs, V.ref b = .ref c ∧ ¬ WS G σ ρ c ∧ H c = some (.lst vs) ∧ Iss K H (WS G σ ρ) qs vs := R1.pd _ (s _ h2)
    cases e
    obtain ⟨x, y, ex, ey, rfl⟩ := zipP_get hp
    obtain ⟨v, hv, iv⟩ := q.getP ex
    obtain ⟨u, hu, iu⟩ := q2.getP ey
    refine ⟨⟨vs, us, v, u, .inl (.inl hc), .inl (.inl hd), hv, hu⟩, fun z H' yl => ?_⟩
    obtain ⟨T, x', y', rfl, nT, rfl, f1, f2⟩ := yl
    have z1 := f1 vs (.inl (.inl hc))
    have z2 := f2 us (.inl (.inl hd))
    rw [hv] at z1; rw [hu] at z2; cases z1; cases z2
    exact (R1.same (same_new nT)).push ⟨T, [v, u], rfl, upd_same, v, [u], rfl, isNew R1.mut iv nT, u, [], rfl, isNew R1.mut iu nT, rfl⟩
  · intro G H σ ρ pd' i s _ R1 hp
    obtain ⟨c, vs, e, n, hc, q⟩ : ∃ b vs, V.ref a = .ref b ∧ ¬ WS G σ ρ b ∧ H b = some (.lst vs) ∧ Iss K H (WS G σ ρ) ps vs := R1.pd _ (s _ h1)
    cases e
    obtain ⟨c, us, e, n, hd, q2⟩ : ∃ c vs, V.ref b = .ref c ∧ ¬ WS G σ ρ c ∧ H c = some (.lst vs) ∧ Iss K H (WS G σ ρ) qs vs := R1.pd _ (s _ h2)
    cases e
    rw [zipP_len] at hp
    exact ⟨vs, us, .inl (.inl hc), .inl (.inl hd), by rw [← q.length, ← q2.length]; omega⟩
theorem wk_zipT {K : PySem.W.Frag} {a b : Addr} {ps qs : List PV} {pd : Pds} {kp : Hp} (h1 : (PV.tup ps, V.ref a) ∈ pd) (h2 : (PV.tup qs, V.ref b) ∈ pd) : Wk K (RZ.ItzT K a b) (zipP ps qs) pd kp := by
  constructor
  · intro G H σ ρ pd' i p s _ R1 hp
    obtain ⟨c, vs, e, hc, q⟩ : ∃ b vs, V.ref a = .ref b ∧ H b = some (.tup vs) ∧ Iss K H (WS G σ ρ) ps vs := R1.pd _ (s _ h1)
    cases e
    obtain ⟨c, us, e, hd, q2⟩ : ∃ c vs, V.ref b = .ref c ∧ H c = some (.tup vs) ∧ Iss K H (WS G σ ρ) qs vs := R1.pd _ (s _ h2)
    cases e
    obtain ⟨x, y, ex, ey, rfl⟩ := zipP_get hp
    obtain ⟨v, hv, iv⟩ := q.getP ex
    obtain ⟨u, hu, iu⟩ := q2.getP ey
    refine ⟨⟨vs, us, v, u, .inl (.inl hc), .inl (.inl hd), hv, hu⟩, fun z H' yl => ?_⟩
    obtain ⟨T, x', y', rfl, nT, rfl, f1, f2⟩ := yl
    have z1 := f1 vs (.inl (.inl hc))
    have z2 := f2 us (.inl (.inl hd))
    rw [hv] at z1; rw [hu] at z2; cases z1; cases z2
    exact (R1.same (same_new nT)).push ⟨T, [v, u], rfl, upd_same, v, [u], rfl, isNew R1.mut iv nT, u, [], rfl, isNew R1.mut iu nT, rfl⟩
  · intro G H σ ρ pd' i s _ R1 hp
    obtain ⟨c, vs, e, hc, q⟩ : ∃ b vs, V.ref a = .ref b ∧ H b = some (.tup vs) ∧ Iss K H (WS G σ ρ) ps vs := R1.pd _ (s _ h1)
    cases e
    obtain ⟨c, us, e, hd, q2⟩ : ∃ c vs, V.ref b = .ref c ∧ H c = some (.tup vs) ∧ Iss K H (WS G σ ρ) qs vs := R1.pd _ (s _ h2)
    cases e
    rw [zipP_len] at hp
    exact ⟨vs, us, .inl (.inl hc), .inl (.inl hd), by rw [← q.length, ← q2.length]; omega⟩
/-- for a, b in zip(xs, ys) -/
def qZipI (t : QTA) (ρ : En) (Q : List PV → En → Prop) : Prop := t ρ fun rs ρ1 => match rs with
  | [.pv (.lst ps), .pv (.lst qs)] => Q (zipP ps qs) ρ1
  | [.pv (.tup ps), .pv (.tup qs)] => Q (zipP ps qs) ρ1
  | _ => False
theorem qi_zip (hm : X.mg "zip" = none) (ha : QA X [a, b] tr) (hg : Gl X "zip" := by rfl) (hs : starEach [a, b] X.env = (false, eval a X.env) :: starEach [b] X.env := by rfl) (hpl : (backTo pos (starEach [b] X.env)).any (·.1) = false := by rfl) : QI X (.Tuple elts kk tpos) (.Call (.Name "zip" p) [a, b] [] pos) (qZipI tr) := by
  obtain ⟨t, p1, q1⟩ := ha.ex
  refine ⟨_, RZ.pi_zipA hg hm p1 hs hpl, fun G H σ ρ pd Q F R1 hw f => ?_⟩
  refine q1 G H σ ρ pd _ _ R1 hw fun rs ρ1 pd1 vs H1 sb R2 ar g => ?_
  match rs, vs, ar, g with
  | [.pv (.lst ps), .pv (.lst qs)], [v, w], .cons h1 (.cons h2 .nil), g =>
    obtain ⟨a, us, e1, _, r1, _⟩ : ∃ a vs, v = .ref a ∧ ¬ WS G σ ρ1 a ∧ H1 a = some (.lst vs) ∧ Iss X.K H1 (WS G σ ρ1) ps vs := R2.pd _ h1
    obtain ⟨b, ws, e2, _, r2, _⟩ : ∃ a vs, w = .ref a ∧ ¬ WS G σ ρ1 a ∧ H1 a = some (.lst vs) ∧ Iss X.K H1 (WS G σ ρ1) qs vs := R2.pd _ h2
    subst e1 e2
    exact ⟨a, b, us, ws, rfl, .inl ⟨.inl (.inl r1), .inl (.inl r2), f _ _ ρ1 pd1 H1 sb R2 (wk_zipL h1 h2) g⟩⟩
  | [.pv (.tup ps), .pv (.tup qs)], [v, w], .cons h1 (.cons h2 .nil), g =>
    obtain ⟨a, us, e1, r1, _⟩ : ∃ a vs, v = .ref a ∧ H1 a = some (.tup vs) ∧ Iss X.K H1 (WS G σ ρ1) ps vs := R2.pd _ h1
    obtain ⟨b, ws, e2, r2, _⟩ : ∃ a vs, w = .ref a ∧ H1 a = some (.tup vs) ∧ Iss X.K H1 (WS G σ ρ1) qs vs := R2.pd _ h2
    subst e1 e2
    exact ⟨a, b, us, ws, rfl, .inr ⟨.inl (.inl r1), .inl (.inl r2), f _ _ ρ1 pd1 H1 sb R2 (wk_zipT h1 h2) g⟩⟩
end
end Px
namespace Px
open PySem L2 PyProof.Rows
/-- nothing in it can be changed, but itself -/
def immO : PV → Bool
  | .lst ps => imms ps
  | .dic _ ps => imms ps
  | _ => true
theorem OwnO.immO {K : PySem.W.Frag} {H : Hp} {W W' : Addr → Prop} {p : PV} {o : HO} (h : OwnO K H W p o) (i : immO p = true) : OwnO K H W' p o := by
  cases p <;> cases o <;> first
    | exact h.elim
    | exact Iss.imm _ _ i h
    | (obtain ⟨vs, e, l, kk, q⟩ := h; exact ⟨vs, e, l, kk, Iss.imm _ _ i q⟩)
    | exact h
def Bo (σ : L2.St) (bs : List Nat) (b : Addr) : Prop := ∃ j ∈ bs, σ[j]? = some (some (V.ref b))
/-- the arguments, one by one: a value, a slot's own that is looked at alone, or the j-th slot that is handed on -/
inductive SplB (σ : L2.St) (ρ : En) (pd : Pds) : List Bool → List V → List PV → List Nat → List Nat → Prop where
  | nil : SplB σ ρ pd [] [] [] [] []
  | val {fs : List Bool} {v : V} {vs : List V} {p : PV} {ps : List PV} {js bs : List Nat} (h : (p, v) ∈ pd) (t : SplB σ ρ pd fs vs ps js bs) : SplB σ ρ pd (false :: fs) (v :: vs) (p :: ps) js bs
  | bor {fs : List Bool} {v : V} {vs : List V} {p : PV} {ps : List PV} {j : Nat} {js bs : List Nat} {b : Bool} (e : ρ[j]? = some (Sl.own b p)) (h : σ[j]? = some (some v)) (t : SplB σ ρ pd fs vs ps js bs) : SplB σ ρ pd (false :: fs) (v :: vs) (p :: ps) js (j :: bs)
  | own {fs : List Bool} {v : V} {vs : List V} {p : PV} {ps : List PV} {j : Nat} {js bs : List Nat} {b : Bool} (e : ρ[j]? = some (Sl.own b p)) (h : σ[j]? = some (some v)) (t : SplB σ ρ pd fs vs ps js bs) : SplB σ ρ pd (true :: fs) (v :: vs) (p :: ps) (j :: js) bs
def splitB (ρ : En) : List Bool → List R → Option (List PV × List Nat × List Nat)
  | [], [] => some ([], [], [])
  | false :: fs, .pv p :: rs => match splitB ρ fs rs with
    | some (ps, js, bs) => some (p :: ps, js, bs)
    | none => none
  | false :: fs, .sl j :: rs => match ρ[j]?, splitB ρ fs rs with
    | some (Sl.own _ p), some (ps, js, bs) => some (p :: ps, js, j :: bs)
    | _, _ => none
  | true :: fs, .sl j :: rs => match ρ[j]?, splitB ρ fs rs with
    | some (Sl.own _ p), some (ps, js, bs) => some (p :: ps, j :: js, bs)
    | _, _ => none
  | _, _ => none
theorem splB_of {σ : L2.St} {ρ : En} {pd : Pds} : ∀ {fs : List Bool} {rs : List R} {vs : List V} {ps : List PV} {js bs : List Nat}, ArgsR σ pd rs vs → splitB ρ fs rs = some (ps, js, bs) → SplB σ ρ pd fs vs ps js bs
  | [], [], _, _, _, _, a, e => by cases a; cases e; exact .nil
  | [], _ :: _, _, _, _, _, a, e => by simp [splitB] at e
  | false :: fs, [], _, _, _, _, a, e => by simp [splitB] at e
  | true :: fs, [], _, _, _, _, a, e => by simp [splitB] at e
  | false :: fs, r :: rs, _, _, _, _, a, e => by
    cases r with
    | pv p =>
      cases a with
      | cons h t =>
        unfold splitB at e
        cases e1 : splitB ρ fs rs with
        | none => rw [e1] at e; cases e
        | some x => rw [e1] at e; cases e; exact .val h (splB_of t e1)
    | sl j =>
      cases a with
      | cons h t =>
        unfold splitB at e
        cases e2 : ρ[j]? with
        | none => rw [e2] at e; simp at e
        | some s =>
          rw [e2] at e
          cases s with
          | own b p =>
            cases e1 : splitB ρ fs rs with
            | none => rw [e1] at e; simp at e
            | some x => rw [e1] at e; cases e; exact .bor e2 h (splB_of t e1)
          | _ => simp at e
    | _ => simp [splitB] at e
  | true :: fs, r :: rs, _, _, _, _, a, e => by
    cases r with
    | sl j =>
      cases a with
      | cons h t =>
        unfold splitB at e
        cases e2 : ρ[j]? with
        | none => rw [e2] at e; simp at e
        | some s =>
          rw [e2] at e
          cases s with
          | own b p =>
            cases e1 : splitB ρ fs rs with
            | none => rw [e1] at e; simp at e
            | some x => rw [e1] at e; cases e; exact .own e2 h (splB_of t e1)
          | _ => simp at e
    | _ => simp [splitB] at e
theorem SplB.len {σ : L2.St} {ρ : En} {pd : Pds} {fs : List Bool} {vs : List V} {ps : List PV} {js bs : List Nat} (s : SplB σ ρ pd fs vs ps js bs) : vs.length = fs.length ∧ ps.length = fs.length ∧ js.length = (fs.filter id).length := by
  induction s with
  | nil => exact ⟨rfl, rfl, rfl⟩
  | val _ _ ih => exact ⟨by simp [ih.1], by simp [ih.2.1], by simp [ih.2.2]⟩
  | bor _ _ _ ih => exact ⟨by simp [ih.1], by simp [ih.2.1], by simp [ih.2.2]⟩
  | own _ _ _ ih => exact ⟨by simp [ih.1], by simp [ih.2.1], by simp [ih.2.2]⟩
theorem SplB.get {σ : L2.St} {ρ : En} {pd : Pds} {fs : List Bool} {vs : List V} {ps : List PV} {js bs : List Nat} (s : SplB σ ρ pd fs vs ps js bs) : ∀ {i : Nat} {b : Bool} {p : PV}, fs[i]? = some b → ps[i]? = some p → ∃ v, vs[i]? = some v ∧
    (b = false → (p, v) ∈ pd ∨ ∃ (j : Nat) (c : Bool), j ∈ bs ∧ ρ[j]? = some (Sl.own c p) ∧ σ[j]? = some (some v)) ∧ (b = true → ∃ (j : Nat) (c : Bool), j ∈ js ∧ ρ[j]? = some (Sl.own c p) ∧ σ[j]? = some (some v)) := by
  induction s with
  | nil => intro i b p e; simp at e
  | val h t ih =>
    intro i b p e1 e2
    cases i with
    | zero => cases e1; cases e2; exact ⟨_, rfl, fun _ => .inl h, (fun z => nomatch z)⟩
    | succ i => simpa using ih (i := i) (by simpa using e1) (by simpa using e2)
  | bor e h t ih =>
    intro i b p e1 e2
    cases i with
    | zero => cases e1; cases e2; exact ⟨_, rfl, fun _ => .inr ⟨_, _, List.mem_cons_self, e, h⟩, (fun z => nomatch z)⟩
    | succ i =>
      obtain ⟨v, h1, h2, h3⟩ := ih (i := i) (by simpa using e1) (by simpa using e2)
      refine ⟨v, by simpa using h1, fun z => ?_, h3⟩
      rcases h2 z with h2 | ⟨j, c, m, r⟩
      · exact .inl h2
      · exact .inr ⟨j, c, List.mem_cons_of_mem _ m, r⟩
  | own e h t ih =>
    intro i b p e1 e2
    cases i with
    | zero => cases e1; cases e2; exact ⟨_, rfl, (fun z => nomatch z), fun _ => ⟨_, _, List.mem_cons_self, e, h⟩⟩
    | succ i =>
      obtain ⟨v, h1, h2, h3⟩ := ih (i := i) (by simpa using e1) (by simpa using e2)
      exact ⟨v, by simpa using h1, h2, fun z => let ⟨j, c, m, r⟩ := h3 z; ⟨j, c, List.mem_cons_of_mem _ m, r⟩⟩
/-- the k-th owned slot and its parameter -/
theorem SplB.io {σ : L2.St} {ρ : En} {pd : Pds} {fs : List Bool} {vs : List V} {ps : List PV} {js bs : List Nat} (s : SplB σ ρ pd fs vs ps js bs) : ∀ {outs : List PV} {k j : Nat} {q : PV}, js[k]? = some j → outs[k]? = some q → ∃ (i : Nat) (v : V), fs[i]? = some true ∧ vs[i]? = some v ∧ σ[j]? = some (some v) ∧ (sel fs outs)[i]? = some (some q) := by
  induction s with
  | nil => intro outs k j q e; simp at e
  | val h t ih =>
    intro outs k j q e1 e2
    obtain ⟨i, v, h1, h2, h3, h4⟩ := ih e1 e2
    exact ⟨i + 1, v, by simpa using h1, by simpa using h2, h3, by simpa [sel] using h4⟩
  | bor _ h t ih =>
    intro outs k j q e1 e2
    obtain ⟨i, v, h1, h2, h3, h4⟩ := ih e1 e2
    exact ⟨i + 1, v, by simpa using h1, by simpa using h2, h3, by simpa [sel] using h4⟩
  | own e h t ih =>
    intro outs k j q e1 e2
    cases outs with
    | nil => simp at e2
    | cons o outs =>
      cases k with
      | zero => cases e1; cases e2; exact ⟨0, _, rfl, rfl, h, rfl⟩
      | succ k =>
        obtain ⟨i, v, h1, h2, h3, h4⟩ := ih (outs := outs) (k := k) (by simpa using e1) (by simpa using e2)
        exact ⟨i + 1, v, by simpa using h1, by simpa using h2, h3, by simpa [sel] using h4⟩
theorem SplB.js {σ : L2.St} {ρ : En} {pd : Pds} {fs : List Bool} {vs : List V} {ps : List PV} {js bs : List Nat} (s : SplB σ ρ pd fs vs ps js bs) : ∀ j ∈ js, ∃ b p, ρ[j]? = some (Sl.own b p) := by
  induction s with
  | nil => intro j hj; simp at hj
  | val _ _ ih => exact ih
  | bor _ _ _ ih => exact ih
  | own e _ _ ih =>
    intro j hj
    rcases List.mem_cons.mp hj with rfl | hj
    · exact ⟨_, _, e⟩
    · exact ih j hj
theorem SplB.bsOwn {σ : L2.St} {ρ : En} {pd : Pds} {fs : List Bool} {vs : List V} {ps : List PV} {js bs : List Nat} (s : SplB σ ρ pd fs vs ps js bs) : ∀ j ∈ bs, ∃ b p, ρ[j]? = some (Sl.own b p) := by
  induction s with
  | nil => intro j hj; simp at hj
  | val _ _ ih => exact ih
  | own _ _ _ ih => exact ih
  | bor e _ _ ih =>
    intro j hj
    rcases List.mem_cons.mp hj with rfl | hj
    · exact ⟨_, _, e⟩
    · exact ih j hj
/-- slot and place apart -/
theorem SplB.same {K : PySem.W.Frag} {G : Gd} {H : Hp} {σ : L2.St} {ρ : En} {pd pd0 : Pds} (R1 : RE K G H σ ρ pd0) {fs : List Bool} {vs : List V} {ps : List PV} {js bs : List Nat} (s : SplB σ ρ pd fs vs ps js bs) (nd : js.Nodup) : ∀ {i j : Nat} {a : Addr}, fs[i]? = some true → fs[j]? = some true → vs[i]? = some (V.ref a) → vs[j]? = some (V.ref a) → i = j := by
  induction s with
  | nil => intro i j a e; simp at e
  | val h t ih =>
    intro i j a e1 e2 e3 e4
    cases i with
    | zero => simp at e1
    | succ i =>
      cases j with
      | zero => simp at e2
      | succ j => rw [ih nd (i := i) (j := j) (by simpa using e1) (by simpa using e2) (by simpa using e3) (by simpa using e4)]
  | bor _ h t ih =>
    intro i j a e1 e2 e3 e4
    cases i with
    | zero => simp at e1
    | succ i =>
      cases j with
      | zero => simp at e2
      | succ j => rw [ih nd (i := i) (j := j) (by simpa using e1) (by simpa using e2) (by simpa using e3) (by simpa using e4)]
  | @own fs v vs p ps m js bs b e h t ih =>
    intro i j a e1 e2 e3 e4
    have back : ∀ {i : Nat} {a : Addr}, fs[i]? = some true → vs[i]? = some (V.ref a) → v = .ref a → False := fun {i a} f1 f2 f3 => by
      obtain ⟨l1, l2, _⟩ := t.len
      have li : i < ps.length := by rw [l2]; exact (List.getElem?_eq_some_iff.mp f1).1
      obtain ⟨v', g1, _, g2⟩ := t.get f1 (List.getElem?_eq_getElem li)
      obtain ⟨j', c, mj, g3, g4⟩ := g2 rfl
      rw [f2] at g1; cases g1
      subst f3
      have z := R1.inj m j' b c _ _ a e g3 h g4
      exact (List.nodup_cons.mp nd).1 (by rw [z]; exact mj)
    cases i with
    | zero =>
      cases j with
      | zero => rfl
      | succ j =>
        simp at e3
        exact (back (by simpa using e2) (by simpa using e4) e3).elim
    | succ i =>
      cases j with
      | zero =>
        simp at e4
        exact (back (by simpa using e1) (by simpa using e3) e4).elim
      | succ j => rw [ih (List.nodup_cons.mp nd).2 (i := i) (j := j) (by simpa using e1) (by simpa using e2) (by simpa using e3) (by simpa using e4)]
section
variable {K : PySem.W.Frag} {G : Gd} {H H' : Hp} {σ : L2.St} {ρ : En} {pd : Pds} {S : FS} {vs : List V} {ps : List PV} {js bs : List Nat}
/-- the callee's start -/
theorem callB_start (R1 : RE K G H σ ρ pd) (s : SplB σ ρ pd S.io vs ps js bs) (nd : js.Nodup) (dj : ∀ j ∈ bs, j ∉ js) : RE K (G0 H S.io vs (fun b => WS G σ ρ b ∧ ¬ Iob S.io vs b ∧ ¬ Bo σ bs b) G.vo) H (vs.map some) (mk S.io ps) [] ∧ ∀ b, Iob S.io vs b → WS G σ ρ b := by
  obtain ⟨l1, l2, l3⟩ := s.len
  have iob : ∀ b, Iob S.io vs b → WS G σ ρ b := fun b ⟨i, e1, e2⟩ => by
    have li : i < ps.length := by rw [l2]; exact (List.getElem?_eq_some_iff.mp e1).1
    obtain ⟨v, g1, _, g2⟩ := s.get e1 (List.getElem?_eq_getElem li)
    obtain ⟨j, c, mj, g3, g4⟩ := g2 rfl
    rw [e2] at g1; cases g1
    exact .inr ⟨j, c, _, g3, g4⟩
  have sub : ∀ b, WS (G0 H S.io vs (fun b => WS G σ ρ b ∧ ¬ Iob S.io vs b ∧ ¬ Bo σ bs b) G.vo) (vs.map some) (mk S.io ps) b → WS G σ ρ b := fun b w => by
    rcases w with w | ⟨i, c, p, e1, e2⟩
    · exact w.1
    · obtain ⟨f1, f2, rfl⟩ := mk_own e1
      refine iob b ⟨i, f1, ?_⟩
      rw [List.getElem?_map] at e2
      cases e : vs[i]? with
      | none => rw [e] at e2; simp at e2
      | some v => rw [e] at e2; simp at e2; rw [e2]
  have vget : ∀ {i : Nat} {v : V}, vs[i]? = some v → (vs.map some)[i]? = some (some v) := fun {i v} e => by rw [List.getElem?_map, e]; rfl
  have vback : ∀ {i : Nat} {v : V}, (vs.map some)[i]? = some (some v) → vs[i]? = some v := fun {i v} e => by
    rw [List.getElem?_map] at e
    cases q : vs[i]? with
    | none => rw [q] at e; simp at e
    | some u => rw [q] at e; simp at e; rw [e]
  refine ⟨⟨?_, fun i p e => ?_, fun i b p e => ?_, fun i j b c p q a e1 e2 e3 e4 => ?_, fun i a h => ?_, fun b o e => ?_, fun b h hv => ?_, fun x hx => by simp at hx, ⟨fun b h => ?_, fun i b p a e1 e2 => ?_, fun i b c z e1 => ?_⟩⟩, iob⟩
  · unfold mk; rw [List.length_zipWith, List.length_map, l1, l2]; simp
  · obtain ⟨f1, f2⟩ := mk_val e
    obtain ⟨v, g1, g2, _⟩ := s.get f1 f2
    rcases g2 rfl with g2 | ⟨j, c, mj, g3, g4⟩
    · exact ⟨v, vget g1, Is.anti sub _ _ (R1.pd _ g2)⟩
    · obtain ⟨a, h1, h2, o, h3, w⟩ := R1.own j c p g3
      rw [g4] at h1; cases h1
      refine ⟨_, vget g1, w.is h3 sub fun w' => ?_⟩
      rcases w' with w' | ⟨m, d, q, e1, e2⟩
      · exact w'.2.2 ⟨j, mj, g4⟩
      · obtain ⟨f1, f2, _⟩ := mk_own e1
        obtain ⟨v', k1, _, k2⟩ := s.get f1 f2
        obtain ⟨j', c', mj', k3, k4⟩ := k2 rfl
        have e3 := vback e2
        rw [k1] at e3; cases e3
        exact dj j mj (by rw [R1.inj j j' c c' _ _ _ g3 k3 g4 k4]; exact mj')
  · obtain ⟨f1, f2, rfl⟩ := mk_own e
    obtain ⟨v, g1, _, g2⟩ := s.get f1 f2
    obtain ⟨j, c, mj, g3, g4⟩ := g2 rfl
    obtain ⟨a, h1, h2, o, h3, w⟩ := R1.own j c p g3
    rw [g4] at h1; cases h1
    exact ⟨a, vget g1, G0_no ⟨i, f1, g1⟩, o, h3, w.anti sub⟩
  · obtain ⟨f1, _, _⟩ := mk_own e1
    obtain ⟨f2, _, _⟩ := mk_own e2
    exact s.same R1 nd f1 f2 (vback e3) (vback e4)
  · have li : i < ps.length := by rw [l2]; exact (List.getElem?_eq_some_iff.mp h.1).1
    exact ⟨vget h.2, ps[i], by rw [mk_at h.1 (List.getElem?_eq_getElem li)]; simp⟩
  · exact (G0_of e).2.2
  · have m := R1.mut b h.1
    obtain ⟨o, e⟩ := R1.there h.1
    exact ⟨o, (G0_yes h.2.1 hv).trans e, by rw [e] at m; exact m⟩
  · obtain ⟨h1, h2, h3⟩ := R1.ext.vo b h
    refine ⟨⟨.inl h1, fun ⟨i, e1, e2⟩ => ?_, fun ⟨j, mj, e2⟩ => ?_⟩, G0_vo h, h3⟩
    · have li : i < ps.length := by rw [l2]; exact (List.getElem?_eq_some_iff.mp e1).1
      obtain ⟨v, g1, _, g2⟩ := s.get e1 (List.getElem?_eq_getElem li)
      obtain ⟨j, c, mj, g3, g4⟩ := g2 rfl
      rw [e2] at g1; cases g1
      exact R1.ext.off j c _ b g3 g4 h
    · obtain ⟨c, p, e3⟩ := s.bsOwn j mj
      exact R1.ext.off j c p b e3 e2 h
  · obtain ⟨f1, f2, rfl⟩ := mk_own e1
    obtain ⟨v, g1, _, g2⟩ := s.get f1 f2
    obtain ⟨j, c, mj, g3, g4⟩ := g2 rfl
    have e3 := vback e2
    rw [g1] at e3; cases e3
    exact R1.ext.off j c _ a g3 g4
  · obtain ⟨f1, f2, rfl⟩ := mk_own e1
    obtain ⟨v, g1, _, g2⟩ := s.get f1 f2
    obtain ⟨j, d, mj, g3, g4⟩ := g2 rfl
    exact R1.ext.nst j d c z g3
/-- behind it -/
theorem callB_end {pd0 : Pds} {v : V} {r : PV} {outs : List PV} (R1 : RE K G H σ ρ pd) (sb : ∀ x ∈ pd0, x ∈ pd) (s : SplB σ ρ pd S.io vs ps js bs) (nd : js.Nodup) (dj : ∀ j ∈ bs, j ∉ js) (iob : ∀ b, Iob S.io vs b → WS G σ ρ b) (lo : outs.length = js.length) (hf : S.fr = false) (ir : imm r = true) (io : ∀ q ∈ outs, immO q = true)
    (fin : Fin K S H (fun b => WS G σ ρ b ∧ ¬ Iob S.io vs b ∧ ¬ Bo σ bs b) G.vo vs v H' r outs) : Res K G H' σ (putOuts js outs ρ) pd0 (.pv r) v := by
  have jo := s.js
  obtain ⟨p1, p2, p3⟩ := putOuts_spec (ρ := ρ) nd lo jo
  have A : Alike ρ (putOuts js outs ρ) := by
    refine ⟨p1, fun i => ?_⟩
    by_cases hi : i ∈ js
    · obtain ⟨k, lk, e⟩ := List.getElem_of_mem hi
      have lk' : k < outs.length := by rw [lo]; exact lk
      obtain ⟨b, p, h1, h2⟩ := p3 k i outs[k] (by rw [List.getElem?_eq_getElem lk, e]) (List.getElem?_eq_getElem lk')
      exact .inr ⟨b, p, _, h1, h2⟩
    · exact .inl (p2 i hi)
  -- an owned slot that is no argument: its object stands
  have stay : ∀ (i : Nat) (b : Bool) (q : PV) (a : Addr), i ∉ js → ρ[i]? = some (Sl.own b q) → σ[i]? = some (some (V.ref a)) → ¬ Iob S.io vs a := fun i b q a hi e1 e2 ⟨m, f1, f2⟩ => by
    obtain ⟨_, l2, _⟩ := s.len
    have lm : m < ps.length := by rw [l2]; exact (List.getElem?_eq_some_iff.mp f1).1
    obtain ⟨v', g1, _, g2⟩ := s.get f1 (List.getElem?_eq_getElem lm)
    obtain ⟨j, c, mj, g3, g4⟩ := g2 rfl
    rw [f2] at g1; cases g1
    exact hi (by rw [R1.inj i j b c q _ a e1 g3 e2 g4]; exact mj)
  have keepG : ∀ b o, G.keep b = some o → H' b = some o := fun b o e => by
    refine fin.keep b o (R1.keep b o e) (fun z => ?_) fun z => by rw [(R1.ext.vo b z).2.1] at e; cases e
    rcases iob b z with w | ⟨i, c, p, e1, e2⟩
    · obtain ⟨m, f1, f2⟩ := z
      obtain ⟨_, l2, _⟩ := s.len
      have lm : m < ps.length := by rw [l2]; exact (List.getElem?_eq_some_iff.mp f1).1
      obtain ⟨v', g1, _, g2⟩ := s.get f1 (List.getElem?_eq_getElem lm)
      obtain ⟨j, c, mj, g3, g4⟩ := g2 rfl
      rw [f2] at g1; cases g1
      obtain ⟨a, h1, h2, _⟩ := R1.own j c _ g3
      rw [g4] at h1; cases h1
      rw [h2] at e; cases e
    · obtain ⟨a, h1, h2, _⟩ := R1.own i c p e1
      rw [e2] at h1; cases h1
      rw [h2] at e; cases e
  have hn : ∀ (i : Nat) (b : Bool) (c : Nat) (z : Int), (putOuts js outs ρ)[i]? = some (Sl.own b (.nst false c z)) → G.vo c := fun i b c z e1 => by
    by_cases hi : i ∈ js
    · obtain ⟨k, lk, e⟩ := List.getElem_of_mem hi
      have lk' : k < outs.length := by rw [lo]; exact lk
      have ek : js[k]? = some i := by rw [List.getElem?_eq_getElem lk, e]
      have eo : outs[k]? = some outs[k] := List.getElem?_eq_getElem lk'
      obtain ⟨b', p, h1, h2⟩ := p3 k i outs[k] ek eo
      rw [e1] at h2
      injection h2 with h2
      injection h2 with _ h3
      obtain ⟨m, v', g1, g2, g3, g4⟩ := s.io ek eo
      exact fin.nstk m c z (by rw [h3]; exact g4)
    · rw [p2 i hi] at e1
      exact R1.ext.nst i b c z e1
  have R2 : RE K G H' σ (putOuts js outs ρ) pd := by
    refine R1.swap A (fun b o e n => fin.keep b o e (fun z => n (iob b z)) fun z => n (.inl (R1.ext.vo b z).1)) keepG (fun i b q a e1 e2 => ?_) fin.vok hn
    by_cases hi : i ∈ js
    · obtain ⟨k, lk, e⟩ := List.getElem_of_mem hi
      have lk' : k < outs.length := by rw [lo]; exact lk
      have ek : js[k]? = some i := by rw [List.getElem?_eq_getElem lk, e]
      have eo : outs[k]? = some outs[k] := List.getElem?_eq_getElem lk'
      obtain ⟨b', p, h1, h2⟩ := p3 k i outs[k] ek eo
      rw [e1] at h2; cases h2
      obtain ⟨m, v', g1, g2, g3, g4⟩ := s.io ek eo
      rw [e2] at g3; cases g3
      obtain ⟨o, ho, w⟩ := fin.outs m _ a g4 g2
      exact ⟨o, ho, w.immO (io _ (List.getElem_mem lk'))⟩
    · rw [p2 i hi] at e1
      obtain ⟨c, f1, f2, o, f3, w⟩ := R1.own i b q e1
      rw [e2] at f1; cases f1
      exact ⟨o, fin.keep a o f3 (stay i b q a hi e1 e2) (R1.ext.off i b q a e1 e2), w.move (fun b o e n => fin.keep b o e (fun z => n (iob b z)) fun z => n (.inl (R1.ext.vo b z).1)) R1.mut fun _ _ w => w⟩
  exact (R2.push (Is.imm _ _ ir (fin.res hf))).pds fun x hx => by
    rcases List.mem_cons.mp hx with e | hx
    · rw [e]; exact List.mem_cons_self
    · exact List.mem_cons_of_mem _ (sb x hx)
end
/-- a call: own things of the caller may be looked at where a value is asked for; then nothing that could hold them may come back -/
def callRB (S : FS) (rs : List R) (ρ1 : En) (Q : PK1) (_ : Dum Q) : Prop := match splitB ρ1 S.io rs with
  | some (ps, js, []) => js.Nodup ∧ S.pre ps ∧ ∀ r outs, S.post ps r outs → outs.length = js.length → Q (if S.fr = true then .fr r else .pv r) (putOuts js outs ρ1)
  | some (ps, js, bs) => (js.Nodup ∧ (∀ j ∈ bs, j ∉ js) ∧ S.fr = false) ∧ S.pre ps ∧ ∀ r outs, S.post ps r outs → outs.length = js.length → (imm r = true ∧ ∀ q ∈ outs, immO q = true) ∧ Q (.pv r) (putOuts js outs ρ1)
  | none => False
theorem SplB.plain {σ : L2.St} {ρ : En} {pd : Pds} {fs : List Bool} {vs : List V} {ps : List PV} {js bs : List Nat} (s : SplB σ ρ pd fs vs ps js bs) (h : bs = []) : Spl σ ρ pd fs vs ps js := by
  induction s with
  | nil => exact .nil
  | val h1 t ih => exact .val h1 (ih h)
  | bor _ _ _ _ => cases h
  | own e h1 t ih => exact .own e h1 (ih h)
def qCallB (S : FS) (ta : QTA) (ρ : En) (Q : PK1) : Prop := ta ρ fun rs ρ1 => callRB S rs ρ1 Q .mk
section
variable {X : Cx} {k j : Nat} {x : Str} {ps : List Str} {S : FS} {e : Expr} {es : List Expr} {t : QTA} {p pos : Pos}
theorem rz_callB {K : PySem.W.Frag} {ta : TA} {E : XK} (q : RzA K ta t) : Rz K (tCall (spP K S) [] E ta) (qCallB S t) := by
  intro G H σ ρ pd Q F R1 h ff
  refine q G H σ ρ pd _ _ R1 h fun rs ρ1 pd1 vs H1 sb R2 ar g => ?_
  unfold callRB at g
  cases es : splitB ρ1 S.io rs with
  | none => rw [es] at g; exact g.elim
  | some z =>
    obtain ⟨pvs, js, bs⟩ := z
    rw [es] at g
    have s := splB_of ar es
    show spP K S (vs ++ []) H1 F E
    rw [List.append_nil]
    cases bs with
    | nil =>
      obtain ⟨nd, pre, post⟩ := g
      have s' := s.plain rfl
      obtain ⟨R3, iob⟩ := call_start R2 s' nd
      obtain ⟨l1, l2, l3⟩ := s'.len
      refine ⟨pvs, _, _, l2, l1, R3, pre, fun v H' r outs hp lo fin => ?_⟩
      exact ff _ _ v H' (call_end R2 sb s' nd iob (lo.trans l3.symm) fin) (post r outs hp (lo.trans l3.symm))
    | cons b0 bs =>
      obtain ⟨⟨nd, dj, hf⟩, pre, post⟩ := g
      obtain ⟨R3, iob⟩ := callB_start R2 s nd dj
      obtain ⟨l1, l2, l3⟩ := s.len
      refine ⟨pvs, _, _, l2, l1, R3, pre, fun v H' r outs hp lo fin => ?_⟩
      obtain ⟨⟨ir, io⟩, hq⟩ := post r outs hp (lo.trans l3.symm)
      exact ff _ _ v H' (callB_end R2 sb s nd dj iob (lo.trans l3.symm) hf ir io fin) hq
theorem qe_callHB (h : Has X.prog X.w X.K X.mg X.base x j ps S) (hr : Room j X.A) (ha : QA X (e :: es) t) (hg : Gl X x := by rfl) (hdb : (x == ("__debug__" : Str)) = false := by decide)
    (he : starEach (e :: es) X.env = (false, eval e X.env) :: starEach es X.env := by rfl) (hpl : (backTo pos (starEach es X.env)).any (·.1) = false := by rfl) : QE X (.Call (.Name x p) (e :: es) [] pos) (qCallB S t) := by
  obtain ⟨f, fd, F, m, kk, b, _⟩ := h.ex
  obtain ⟨ta, p1, q⟩ := ha.ex
  exact ⟨_, pe_call F hr hg m kk b .nil pass0 p1 hdb he hpl, rz_callB q⟩
end
end Px
namespace Px
open PySem L2 PySem.Spec PyProof.Rows
/-! ### == of dicts whose values are plain data -/
def hitsP (ls : List Key) (qs : List PV) : List Key → List PV → Bool
  | k :: ks, p :: ps => match getD ls qs k with
    | some q => peq p q && hitsP ls qs ks ps
    | none => false
  | _, _ => true
def eqDic (ks : List Key) (ps : List PV) (ls : List Key) (qs : List PV) : Bool := ks.length == ls.length && hitsP ls qs ks ps
theorem getD_mem {α : Type} : ∀ {ks : List Key} {ps : List α} {j : Key} {p : α}, getD ks ps j = some p → p ∈ ps
  | [], _, _, _, e => by cases e
  | _ :: _, [], _, _, e => by cases e
  | k :: ks, q :: ps, j, p, e => by
    rw [getD] at e
    split at e
    · cases e; exact List.mem_cons_self
    · exact List.mem_cons_of_mem _ (getD_mem e)
theorem plains_mem {ps : List PV} (h : plains ps = true) : ∀ p ∈ ps, plain p = true := by
  induction ps with
  | nil => intro p hp; cases hp
  | cons q ps ih =>
    rw [plains, Bool.and_eq_true] at h
    intro p hp
    rcases List.mem_cons.mp hp with rfl | hp
    · exact h.1
    · exact ih h.2 p hp
theorem deps_mem {ps : List PV} : ∀ p ∈ ps, dep p ≤ deps ps := by
  induction ps with
  | nil => intro p hp; cases hp
  | cons q ps ih =>
    intro p hp
    rw [deps]
    rcases List.mem_cons.mp hp with rfl | hp
    · omega
    · have := ih p hp; omega
/-- data of more depth, for == -/
def eqOkW (p : PV) : Prop := plain p = true ∧ dep p ≤ 190
theorem eqOkW_str (s : Str) : eqOkW (.str s) = True := eq_true ⟨rfl, Nat.zero_le _⟩
theorem eqOkW_int (i : Int) : eqOkW (.int i) = True := eq_true ⟨rfl, Nat.zero_le _⟩
theorem eqOkW_non : eqOkW .non = True := eq_true ⟨rfl, Nat.zero_le _⟩
theorem eqOkW_bl (b : Bool) : eqOkW (.bl b) = True := eq_true ⟨rfl, Nat.zero_le _⟩
def gEqW (p : PV) (q : PV) (Q : R → Prop) : Prop := eqOkW p ∧ eqOkW q ∧ Q (.pv (.bl (peq p q)))
def gNeW (p : PV) (q : PV) (Q : R → Prop) : Prop := eqOkW p ∧ eqOkW q ∧ Q (.pv (.bl (!peq p q)))
section
variable {X : Cx}
def rEqL (K : PySem.W.Frag) (neg : Bool) : R2 := fun x y H Q => ∃ d e, Dp K H x d ∧ Dp K H y e ∧ (d.canLay0 = true ∧ d.depth ≤ 190) ∧ (e.canLay0 = true ∧ e.depth ≤ 190) ∧ Q (.bl (neg != PyData.eqv d e)) H
theorem op_eqL (hu : X.A.units + 190 < cLine) : OpR X (compareOp .Eq) (rEqL X.K false) := by
  intro pins s σ H x y v u Q I rx ry h
  obtain ⟨d, e, hd, he, sd, se, q⟩ := h
  obtain ⟨as, r1⟩ := Dp.reads I d x v hd rx
  obtain ⟨bs, r2⟩ := Dp.reads I e y u he ry
  refine SeqAt.compareEq_reads r1 r2 sd.1 se.1 (by have := Nat.min_le_left d.depth e.depth; have := sd.2; omega) ⟨.bl _, H, I, rfl, ?_⟩
  cases h : PyData.eqv d e <;> rw [h] at q <;> exact q
theorem op_neL (hu : X.A.units + 190 < cLine) : OpR X (compareOp .NotEq) (rEqL X.K true) := by
  intro pins s σ H x y v u Q I rx ry h
  obtain ⟨d, e, hd, he, sd, se, q⟩ := h
  obtain ⟨as, r1⟩ := Dp.reads I d x v hd rx
  obtain ⟨bs, r2⟩ := Dp.reads I e y u he ry
  refine SeqAt.compareNe_reads r1 r2 sd.1 se.1 (by have := Nat.min_le_left d.depth e.depth; have := sd.2; omega) ⟨.bl _, H, I, rfl, ?_⟩
  cases h : PyData.eqv d e <;> rw [h] at q <;> exact q
theorem op_eqW (hu : X.A.units + 190 < cLine) : OpP X (compareOp .Eq) gEqW := by
  refine ⟨_, op_eqL hu, fun H W p q x y Q F m l1 l2 z f => ?_⟩
  obtain ⟨h1, h2, h3⟩ := z
  obtain ⟨d1, c1, z1⟩ := lk_dp h1.1 l1
  obtain ⟨d2, c2, z2⟩ := lk_dp h2.1 l2
  refine ⟨_, _, d1, d2, ⟨c1, by rw [z1]; exact h1.2⟩, ⟨c2, by rw [z2]; exact h2.2⟩, fin1 f (p := .bl _) rfl ?_⟩
  show Q (.pv (.bl (false != peq p q)))
  cases h : peq p q <;> rw [h] at h3 <;> exact h3
theorem op_neW (hu : X.A.units + 190 < cLine) : OpP X (compareOp .NotEq) gNeW := by
  refine ⟨_, op_neL hu, fun H W p q x y Q F m l1 l2 z f => ?_⟩
  obtain ⟨h1, h2, h3⟩ := z
  obtain ⟨d1, c1, z1⟩ := lk_dp h1.1 l1
  obtain ⟨d2, c2, z2⟩ := lk_dp h2.1 l2
  refine ⟨_, _, d1, d2, ⟨c1, by rw [z1]; exact h1.2⟩, ⟨c2, by rw [z2]; exact h2.2⟩, fin1 f (p := .bl _) rfl ?_⟩
  show Q (.pv (.bl (true != peq p q)))
  cases h : peq p q <;> rw [h] at h3 <;> exact h3
end
theorem room191 {k : Nat} {A : Around} (hr : Room k A) : A.units + 191 < cLine := by have := hr.un; omega
section
variable {X : Cx} {pins : List (Addr × Obj)} {σ : L2.St} {H : Hp} {s : Shared}
theorem hits_of (I : Inv X pins σ H s) {A : Around} (hu : A.units + 190 < cLine) {W : Addr → Prop} {ls : List Key} {qs : List PV} {us : List V} {vb : List (Key × Value)} (rb : KV (ls.zip us) vb) (lb : ls.length = us.length) (iq : Iss X.K H W qs us) (oq : plains qs = true ∧ deps qs ≤ 190) :
    ∀ {ks : List Key} {ps : List PV} {vs : List V} {va : List (Key × Value)}, KV (ks.zip vs) va → ks.length = vs.length → Iss X.K H W ps vs → plains ps = true → deps ps ≤ 190 → PySem.W.KeqHits A s vb va (hitsP ls qs ks ps)
  | [], ps, vs, va, ra, le, ip, _, _ => by
    have : va = [] := by
      have := ra.length
      simp at this
      exact List.length_eq_zero_iff.mp this.symm
    subst this
    unfold hitsP
    exact .nil
  | k :: ks, [], vs, va, ra, le, ip, _, _ => by
    cases (show vs = [] from ip)
    simp at le
  | k :: ks, p :: ps, vs, va, ra, le, ip, pl, dp => by
    obtain ⟨v, r, e1, i1, i2⟩ := ip
    subst e1
    have ra' : Paired (fun (p : Key × V) (q : Key × Value) => p.1 = q.1 ∧ RelV p.2 q.2) ((k, v) :: ks.zip r) va := ra
    cases ra' with
    | @cons x y xs ys h t =>
      obtain ⟨h1, h2⟩ := h
      obtain ⟨yk, yv⟩ := y
      have h1' : k = yk := h1
      subst h1'
      rw [plains, Bool.and_eq_true] at pl
      rw [deps] at dp
      have ih := hits_of I hu rb lb iq oq (ks := ks) (ps := ps) (vs := r) (va := ys) t (by simpa using le) i2 pl.2 (by omega)
      have rr := rb.val k
      rw [getD_val lb] at rr
      unfold hitsP
      cases eg : getD ls qs k with
      | none =>
        rw [getD_no iq eg] at rr
        refine .miss ?_
        cases e : valueAt vb k with
        | none => rfl
        | some z => rw [e] at rr; cases rr
      | some q =>
        obtain ⟨w, ew, iw⟩ := getD_is iq eg
        rw [ew] at rr
        obtain ⟨z, ez, rz⟩ := rr.some_of
        have mq := getD_mem eg
        obtain ⟨d1, c1, z1⟩ := dp_of p v pl.1 i1
        obtain ⟨d2, c2, z2⟩ := dp_of q w (plains_mem oq.1 q mq) iw
        obtain ⟨as, r1⟩ := Dp.reads I _ v yv d1 h2
        obtain ⟨bs, r2⟩ := Dp.reads I _ w z d2 rz
        have l1 : dep p ≤ 190 := by omega
        refine .hit ez (SeqAt.eqAt_reads _ _ A s yv z as bs r1 r2 c1 c2 ?_) ih
        rw [z1]
        have := Nat.min_le_left (dep p) (toD q).depth
        omega
theorem eqD_run (hu : X.A.units + 191 < cLine) (I : Inv X pins σ H s) {W : Addr → Prop} {ks ls : List Key} {ps qs : List PV} {a b : Addr} {vs us : List V} (ra : Rd H a (.dK (ks.zip vs))) (la : ks.length = vs.length) (ia : Iss X.K H W ps vs) (rb : Rd H b (.dK (ls.zip us))) (lb : ls.length = us.length) (ib : Iss X.K H W qs us)
    (o1 : plains ps = true ∧ deps ps ≤ 190) (o2 : plains qs = true ∧ deps qs ≤ 190) {Q : VK} (q1 : Q (.bl (eqDic ks ps ls qs)) H) :
    wpAny (model X.prog X.w) X.A (compareOp .Eq (.ref a) (.ref b)) (EP X pins σ Q) X.xe s := by
  obtain ⟨_, ya, va, kva, da⟩ := dk_rd I.hok ra
  obtain ⟨_, yb, vb, kvb, db⟩ := dk_rd I.hok rb
  refine PySem.W.keq_eq (knd := mixKind X.prog X.w) (r := hitsP ls qs ks ps) ya yb da db (by omega) (fun _ => hits_of I (by show X.A.units + 1 + 190 < cLine; omega) kvb lb ib o2 kva la ia o1.1 o1.2) ⟨.bl _, H, I, rfl, ?_⟩
  rw [← kva.length, ← kvb.length, zip_len la, zip_len lb]; exact q1
theorem neD_run (hu : X.A.units + 191 < cLine) (I : Inv X pins σ H s) {W : Addr → Prop} {ks ls : List Key} {ps qs : List PV} {a b : Addr} {vs us : List V} (ra : Rd H a (.dK (ks.zip vs))) (la : ks.length = vs.length) (ia : Iss X.K H W ps vs) (rb : Rd H b (.dK (ls.zip us))) (lb : ls.length = us.length) (ib : Iss X.K H W qs us)
    (o1 : plains ps = true ∧ deps ps ≤ 190) (o2 : plains qs = true ∧ deps qs ≤ 190) {Q : VK} (q1 : Q (.bl (!eqDic ks ps ls qs)) H) :
    wpAny (model X.prog X.w) X.A (compareOp .NotEq (.ref a) (.ref b)) (EP X pins σ Q) X.xe s := by
  obtain ⟨_, ya, va, kva, da⟩ := dk_rd I.hok ra
  obtain ⟨_, yb, vb, kvb, db⟩ := dk_rd I.hok rb
  refine PySem.W.keq_ne (knd := mixKind X.prog X.w) (r := hitsP ls qs ks ps) ya yb da db (by omega) (fun _ => hits_of I (by show X.A.units + 1 + 190 < cLine; omega) kvb lb ib o2 kva la ia o1.1 o1.2) ⟨.bl _, H, I, rfl, ?_⟩
  rw [← kva.length, ← kvb.length, zip_len la, zip_len lb]; exact q1
end
section
variable {X : Cx}
def rEqDic (X : Cx) (neg : Bool) : R2 := fun x y H Q => ∃ (W : Addr → Prop) (ks ls : List Key) (ps qs : List PV) (a b : Addr) (vs us : List V), x = .ref a ∧ y = .ref b ∧ Rd H a (.dK (ks.zip vs)) ∧ ks.length = vs.length ∧ Iss X.K H W ps vs ∧ Rd H b (.dK (ls.zip us)) ∧ ls.length = us.length ∧ Iss X.K H W qs us ∧
  (plains ps = true ∧ deps ps ≤ 190) ∧ (plains qs = true ∧ deps qs ≤ 190) ∧ Q (.bl (neg != eqDic ks ps ls qs)) H
theorem op_eqDic (hu : X.A.units + 191 < cLine) : OpR X (compareOp .Eq) (rEqDic X false) := by
  intro pins s σ H x y v u Q I rx ry h
  obtain ⟨W, ks, ls, ps, qs, a, b, vs, us, rfl, rfl, ra, la, ia, rb, lb, ib, o1, o2, q⟩ := h
  cases rx; cases ry
  refine eqD_run hu I ra la ia rb lb ib o1 o2 ?_
  cases e : eqDic ks ps ls qs <;> rw [e] at q <;> exact q
theorem op_neDic (hu : X.A.units + 191 < cLine) : OpR X (compareOp .NotEq) (rEqDic X true) := by
  intro pins s σ H x y v u Q I rx ry h
  obtain ⟨W, ks, ls, ps, qs, a, b, vs, us, rfl, rfl, ra, la, ia, rb, lb, ib, o1, o2, q⟩ := h
  cases rx; cases ry
  refine neD_run hu I ra la ia rb lb ib o1 o2 ?_
  cases e : eqDic ks ps ls qs <;> rw [e] at q <;> exact q
def gEqX (p q : PV) (Q : R → Prop) : Prop := match p, q with
  | .dic ks ps, .dic ls qs => (plains ps = true ∧ deps ps ≤ 190) ∧ (plains qs = true ∧ deps qs ≤ 190) ∧ Q (.pv (.bl (eqDic ks ps ls qs)))
  | p, q => gEqW p q Q
def gNeX (p q : PV) (Q : R → Prop) : Prop := match p, q with
  | .dic ks ps, .dic ls qs => (plains ps = true ∧ deps ps ≤ 190) ∧ (plains qs = true ∧ deps qs ≤ 190) ∧ Q (.pv (.bl (!eqDic ks ps ls qs)))
  | p, q => gNeW p q Q
theorem op_eqX (hu : X.A.units + 191 < cLine) : OpP X (compareOp .Eq) gEqX := by
  obtain ⟨r1, h1, h2⟩ := op_eqW (X := X) (by omega)
  refine ⟨_, OpR.or h1 (op_eqDic hu), fun H W p q x y Q F m l1 l2 z f => ?_⟩
  unfold gEqX at z
  split at z
  · rename_i ks ps ls qs
    obtain ⟨a, vs, e1, r1, la, _, ia⟩ := l1
    obtain ⟨b, us, e2, r2, lb, _, ib⟩ := l2
    subst e1 e2
    refine .inr ⟨W, ks, ls, ps, qs, a, b, vs, us, rfl, rfl, r1, la, ia, r2, lb, ib, z.1, z.2.1, fin1 f (p := .bl _) rfl (?_ : Q (.pv (.bl _)))⟩
    have z3 := z.2.2
    cases e : eqDic ks ps ls qs <;> rw [e] at z3 <;> exact z3
  · exact .inl (h2 H W p q x y Q F m l1 l2 z f)
theorem op_neX (hu : X.A.units + 191 < cLine) : OpP X (compareOp .NotEq) gNeX := by
  obtain ⟨r1, h1, h2⟩ := op_neW (X := X) (by omega)
  refine ⟨_, OpR.or h1 (op_neDic hu), fun H W p q x y Q F m l1 l2 z f => ?_⟩
  unfold gNeX at z
  split at z
  · rename_i ks ps ls qs
    obtain ⟨a, vs, e1, r1, la, _, ia⟩ := l1
    obtain ⟨b, us, e2, r2, lb, _, ib⟩ := l2
    subst e1 e2
    refine .inr ⟨W, ks, ls, ps, qs, a, b, vs, us, rfl, rfl, r1, la, ia, r2, lb, ib, z.1, z.2.1, fin1 f (p := .bl _) rfl (?_ : Q (.pv (.bl _)))⟩
    have z3 := z.2.2
    cases e : eqDic ks ps ls qs <;> rw [e] at z3 <;> exact z3
  · exact .inl (h2 H W p q x y Q F m l1 l2 z f)
end
theorem isEmp_concat {α : Type} {xs : List α} {x : α} : (xs ++ [x]).isEmpty = false := by cases xs <;> rfl
/-! ### slots that may be stored to, seen without cases -/
def slOk : Sl → Bool
  | .own b _ => !b
  | _ => true
theorem notIo_nil' {i : Nat} : notIo [] i = true := rfl
theorem notIo_zero {s : Sl} {ρ : En} : notIo (s :: ρ) 0 = slOk s := by
  cases s with
  | own b p => cases b <;> rfl
  | _ => rfl
theorem notIo_succ {s : Sl} {ρ : En} {i : Nat} : notIo (s :: ρ) (i + 1) = notIo ρ i := by
  unfold notIo
  rw [List.getElem?_cons_succ]
theorem slOk_un : slOk .un = true := rfl
theorem slOk_val {p : PV} : slOk (.val p) = true := rfl
theorem slOk_own {b : Bool} {p : PV} : slOk (.own b p) = !b := rfl
/-- nothing, or a value -/
def plS : Option PV → Sl
  | none => .un
  | some p => .val p
/-- nothing, or an own thing -/
def plD : Option PV → Sl
  | none => .un
  | some p => .own false p
theorem slOk_pl {o : Option PV} : slOk (plS o) = true := by cases o <;> rfl
theorem slOk_pd {o : Option PV} : slOk (plD o) = true := by cases o <;> rfl
end Px
namespace Px
open PySem L2 PySem.Spec PyProof.Rows
/-! ### max(a, b), min(a, b) of two texts -/
section
variable {prog : Program} {w : World} {A : Around} {E : Value → Shared → Prop} {s : Shared}
theorem strs_gt (x y : Str) (t u : Tok) : CmpOf prog w A .Gt (fun i v => #[Value.str x t, Value.str y u][i]? = some v) (fun i j => decide ((if j = 0 then x else y).cps.toList < (if i = 0 then x else y).cps.toList)) := fun i j vi vj s Q E hi hj h => by
  match i, j, hi, hj with
  | 0, 0, hi, hj => cases hi; cases hj; exact P.gt_str h
  | 0, 1, hi, hj => cases hi; cases hj; exact P.gt_str h
  | 1, 0, hi, hj => cases hi; cases hj; exact P.gt_str h
  | 1, 1, hi, hj => cases hi; cases hj; exact P.gt_str h
theorem strs_lt (x y : Str) (t u : Tok) : CmpOf prog w A .Lt (fun i v => #[Value.str x t, Value.str y u][i]? = some v) (fun i j => decide ((if i = 0 then x else y).cps.toList < (if j = 0 then x else y).cps.toList)) := fun i j vi vj s Q E hi hj h => by
  match i, j, hi, hj with
  | 0, 0, hi, hj => cases hi; cases hj; exact P.lt_str h
  | 0, 1, hi, hj => cases hi; cases hj; exact P.lt_str h
  | 1, 0, hi, hj => cases hi; cases hj; exact P.lt_str h
  | 1, 1, hi, hj => cases hi; cases hj; exact P.lt_str h
theorem max_two_strs {x y : Str} {t u : Tok} {Q : Value → Shared → Prop} (hh : A.handled = none)
    (h : ∀ h' tk, (∀ c o, s.heap.get? c = some o → h'.get? c = some o) → Q (if x.cps.toList < y.cps.toList then .str y u else .str x t) { s with heap := h', toks := tk }) :
    wpAny (model prog w) A (call (.builtin "max") [.str x t, .str y u]) Q E s := by
  have hT : (s.heap.push { cls := .type "tuple", data := .seq #[.str x t, .str y u] }).IsTuple s.heap.objs.size #[.str x t, .str y u] := ⟨_, Heap.get?_push_size _ rfl, rfl, 0, by simp⟩
  refine call_max_two (wpAny_pyIter_tuple hT ?_)
  have hsz : (s.heap.push { cls := .type "tuple", data := .seq #[.str x t, .str y u] }).objs.size = s.heap.objs.size + 1 := Heap.size_push ..
  refine ⟨_, [_, s.heap.objs.size], [_], _, _, _, _, rfl, Walks.tuple (A := A.in1) hh _ s.heap.objs.size (by rw [hsz]; exact Nat.ne_of_lt (Nat.lt_succ_self _)) #[.str x t, .str y u],
    ⟨⟨_, Heap.get?_push_size _ rfl, rfl, rfl⟩, hT.push _⟩, fun c hc => ?_, by simp, strs_gt x y t u, fun v h' tk hP hk => ?_⟩
  · show c < ((s.heap.push _).push _).objs.size
    rw [Heap.size_push, hsz]
    rcases List.mem_cons.mp hc with rfl | hc
    · rw [hsz]; exact Nat.lt_succ_self _
    · rcases List.mem_cons.mp hc with rfl | hc
      · exact Nat.lt_succ_of_lt (Nat.lt_succ_self _)
      · cases hc
  · have hold : ∀ c o, s.heap.get? c = some o → h'.get? c = some o := fun c o e => by
      refine hk c o (fun hm => ?_) (Heap.get?_push_of_some _ (Heap.get?_push_of_some _ e))
      rcases List.mem_cons.mp hm with e1 | hm
      · have := Heap.lt_size e; rw [e1, hsz] at this; exact Nat.lt_irrefl _ (Nat.lt_of_succ_lt this)
      · cases hm
    have := h h' tk hold
    have hv : v = if x.cps.toList < y.cps.toList then Value.str y u else Value.str x t := by
      by_cases hba : x.cps.toList < y.cps.toList
      · have e : argBest (fun i j => decide ((if j = 0 then x else y).cps.toList < (if i = 0 then x else y).cps.toList)) 1 = 1 := by simp [argBest, hba]
        have hP' := hP
        simp only [List.size_toArray, List.length_cons, List.length_nil] at hP'
        rw [show 0 + 1 + 1 - 1 = 1 from rfl, e] at hP'
        rw [if_pos hba]; exact (Option.some.inj hP').symm
      · have e : argBest (fun i j => decide ((if j = 0 then x else y).cps.toList < (if i = 0 then x else y).cps.toList)) 1 = 0 := by simp [argBest, hba]
        have hP' := hP
        simp only [List.size_toArray, List.length_cons, List.length_nil] at hP'
        rw [show 0 + 1 + 1 - 1 = 1 from rfl, e] at hP'
        rw [if_neg hba]; exact (Option.some.inj hP').symm
    rw [hv]; exact this
theorem min_two_strs {x y : Str} {t u : Tok} {Q : Value → Shared → Prop} (hh : A.handled = none)
    (h : ∀ h' tk, (∀ c o, s.heap.get? c = some o → h'.get? c = some o) → Q (if y.cps.toList < x.cps.toList then .str y u else .str x t) { s with heap := h', toks := tk }) :
    wpAny (model prog w) A (call (.builtin "min") [.str x t, .str y u]) Q E s := by
  have hT : (s.heap.push { cls := .type "tuple", data := .seq #[.str x t, .str y u] }).IsTuple s.heap.objs.size #[.str x t, .str y u] := ⟨_, Heap.get?_push_size _ rfl, rfl, 0, by simp⟩
  refine call_min_two (wpAny_pyIter_tuple hT ?_)
  have hsz : (s.heap.push { cls := .type "tuple", data := .seq #[.str x t, .str y u] }).objs.size = s.heap.objs.size + 1 := Heap.size_push ..
  refine ⟨_, [_, s.heap.objs.size], [_], _, _, _, _, rfl, Walks.tuple (A := A.in1) hh _ s.heap.objs.size (by rw [hsz]; exact Nat.ne_of_lt (Nat.lt_succ_self _)) #[.str x t, .str y u],
    ⟨⟨_, Heap.get?_push_size _ rfl, rfl, rfl⟩, hT.push _⟩, fun c hc => ?_, by simp, strs_lt x y t u, fun v h' tk hP hk => ?_⟩
  · show c < ((s.heap.push _).push _).objs.size
    rw [Heap.size_push, hsz]
    rcases List.mem_cons.mp hc with rfl | hc
    · rw [hsz]; exact Nat.lt_succ_self _
    · rcases List.mem_cons.mp hc with rfl | hc
      · exact Nat.lt_succ_of_lt (Nat.lt_succ_self _)
      · cases hc
  · have hold : ∀ c o, s.heap.get? c = some o → h'.get? c = some o := fun c o e => by
      refine hk c o (fun hm => ?_) (Heap.get?_push_of_some _ (Heap.get?_push_of_some _ e))
      rcases List.mem_cons.mp hm with e1 | hm
      · have := Heap.lt_size e; rw [e1, hsz] at this; exact Nat.lt_irrefl _ (Nat.lt_of_succ_lt this)
      · cases hm
    have := h h' tk hold
    have hv : v = if y.cps.toList < x.cps.toList then Value.str y u else Value.str x t := by
      by_cases hba : y.cps.toList < x.cps.toList
      · have e : argBest (fun i j => decide ((if i = 0 then x else y).cps.toList < (if j = 0 then x else y).cps.toList)) 1 = 1 := by simp [argBest, hba]
        have hP' := hP
        simp only [List.size_toArray, List.length_cons, List.length_nil] at hP'
        rw [show 0 + 1 + 1 - 1 = 1 from rfl, e] at hP'
        rw [if_pos hba]; exact (Option.some.inj hP').symm
      · have e : argBest (fun i j => decide ((if i = 0 then x else y).cps.toList < (if j = 0 then x else y).cps.toList)) 1 = 0 := by simp [argBest, hba]
        have hP' := hP
        simp only [List.size_toArray, List.length_cons, List.length_nil] at hP'
        rw [show 0 + 1 + 1 - 1 = 1 from rfl, e] at hP'
        rw [if_neg hba]; exact (Option.some.inj hP').symm
    rw [hv]; exact this
end
section
variable {X : Cx}
def ltT (a b : Str) : Bool := decide (a.cps.toList < b.cps.toList)
def rMaxT : List V → Hp → VK → Prop := fun vs H Q => ∃ a b : Str, vs = [.str a, .str b] ∧ Q (.str (if ltT a b then b else a)) H
def rMinT : List V → Hp → VK → Prop := fun vs H Q => ∃ a b : Str, vs = [.str a, .str b] ∧ Q (.str (if ltT b a then b else a)) H
theorem cr_maxT (hc : X.calm = true) : CallR X (.builtin "max") rMaxT := by
  intro pins s σ H vs us Q I r h
  obtain ⟨a, b, rfl, q⟩ := h
  obtain ⟨u, v, rfl, ⟨t, rfl⟩, ⟨t2, rfl⟩⟩ := Vals.two r
  refine max_two_strs (I.ok.hd hc) fun h' tk hk => ⟨_, H, I.kept hk, ?_, q⟩
  unfold ltT
  by_cases e : a.cps.toList < b.cps.toList
  · rw [if_pos e, if_pos (decide_eq_true e)]; exact ⟨_, rfl⟩
  · rw [if_neg e, if_neg (by simpa using e)]; exact ⟨_, rfl⟩
theorem cr_minT (hc : X.calm = true) : CallR X (.builtin "min") rMinT := by
  intro pins s σ H vs us Q I r h
  obtain ⟨a, b, rfl, q⟩ := h
  obtain ⟨u, v, rfl, ⟨t, rfl⟩, ⟨t2, rfl⟩⟩ := Vals.two r
  refine min_two_strs (I.ok.hd hc) fun h' tk hk => ⟨_, H, I.kept hk, ?_, q⟩
  unfold ltT
  by_cases e : b.cps.toList < a.cps.toList
  · rw [if_pos e, if_pos (decide_eq_true e)]; exact ⟨_, rfl⟩
  · rw [if_neg e, if_neg (by simpa using e)]; exact ⟨_, rfl⟩
def gMaxT (ps : List PV) (Q : R → Prop) : Prop := match ps with
  | [.str a, .str b] => Q (.pv (.str (if ltT a b then b else a)))
  | _ => False
def gMinT (ps : List PV) (Q : R → Prop) : Prop := match ps with
  | [.str a, .str b] => Q (.pv (.str (if ltT b a then b else a)))
  | _ => False
theorem call_maxTP (hc : X.calm = true) : CallP X (.builtin "max") gMaxT := by
  refine ⟨_, cr_maxT hc, fun H W ps xs Q F m l g f => ?_⟩
  unfold gMaxT at g
  split at g
  · obtain ⟨x, y, rfl, h1, h2⟩ := lks2 l
    obtain ⟨e1, o1⟩ := h1
    obtain ⟨e2, o2⟩ := h2
    subst e1 e2
    refine ⟨_, _, rfl, fin1 f (p := .str _) ⟨rfl, ?_⟩ g⟩
    split
    · exact o2
    · exact o1
  · exact g.elim
theorem call_minTP (hc : X.calm = true) : CallP X (.builtin "min") gMinT := by
  refine ⟨_, cr_minT hc, fun H W ps xs Q F m l g f => ?_⟩
  unfold gMinT at g
  split at g
  · obtain ⟨x, y, rfl, h1, h2⟩ := lks2 l
    obtain ⟨e1, o1⟩ := h1
    obtain ⟨e2, o2⟩ := h2
    subst e1 e2
    refine ⟨_, _, rfl, fin1 f (p := .str _) ⟨rfl, ?_⟩ g⟩
    split
    · exact o2
    · exact o1
  · exact g.elim
/-- max(xs) of numbers, max(a, b) of two texts -/
def gMax2 (ps : List PV) (Q : R → Prop) : Prop := match ps with
  | [.str a, .str b] => Q (.pv (.str (if ltT a b then b else a)))
  | ps => gMax ps Q
theorem call_maxP2 (hc : X.calm = true) : CallP X (.builtin "max") gMax2 := by
  obtain ⟨r1, a1, b1⟩ := call_maxTP hc
  obtain ⟨r2, a2, b2⟩ := call_maxP hc
  refine ⟨_, CallR.or a1 a2, fun H W ps xs Q F m l g f => ?_⟩
  unfold gMax2 at g
  split at g
  · exact .inl (b1 H W _ xs Q F m l g f)
  · exact .inr (b2 H W _ xs Q F m l g f)
end
end Px
namespace Px
open PySem L2 PySem.Spec PyProof.Rows
/-! ### dict comprehensions -/
def dcGo (g : QTG) (tt : QTT) (tk te : QT) (vs : List Nat) (Q : List Key → List PV → En → Prop) : List PV → List Key → List PV → En → Prop
  | [], ks, zs, ρ => Q ks zs ρ
  | p :: ps, ks, zs, ρ => g p ρ fun ρ1 => tt ρ1 fun b ρ2 => Br b (tk ρ2 fun r ρ3 => match r.wk with
      | .pv kp => match keyP kp with
        | some k => te ρ3 fun r2 ρ4 => match r2.wk with
          | .pv z => small (ks.length + 1) ∧ notIos ρ4 vs ∧ dcGo g tt tk te vs Q ps (putKs ks k) (putPs ks zs k z) (wipeE ρ4 vs)
          | _ => False
        | none => False
      | _ => False) (notIos ρ2 vs ∧ dcGo g tt tk te vs Q ps ks zs (wipeE ρ2 vs))
def dcR (g : QTG) (tt : QTT) (tk te : QT) (vs : List Nat) (ps : List PV) (ρ : En) (Q : PK1) (_ : Dum Q) : Prop := dcGo g tt tk te vs (fun ks zs ρ' => Q (.fr (.dic ks zs)) ρ') ps [] [] ρ
def qDc (ti : QTI) (g : QTG) (tt : QTT) (tk te : QT) (vs : List Nat) (ρ : En) (Q : PK1) : Prop := ti ρ fun ps ρ1 => notIos ρ1 vs ∧ dcR g tt tk te vs ps (wipeE ρ1 vs) Q .mk
theorem put_pairs {zs : List PV} {av : List V} {k : Key} {z : PV} {v : V} : ∀ {ks : List Key}, ks.length = av.length → zs.length = av.length → ∀ x ∈ (putPs ks zs k z).zip (putPs ks av k v), x = (z, v) ∨ x ∈ zs.zip av := by
  have key : ∀ (ks : List Key) (zs : List PV) (av : List V), ∀ x ∈ (List.zipWith (fun j p => if j = k then z else p) ks zs).zip (List.zipWith (fun j p => if j = k then v else p) ks av), x = (z, v) ∨ x ∈ zs.zip av := by
    intro ks
    induction ks with
    | nil => intro zs av x hx; simp at hx
    | cons j ks ih =>
      intro zs av x hx
      cases zs with
      | nil => simp at hx
      | cons p zs =>
        cases av with
        | nil => simp at hx
        | cons u av =>
          rw [List.zipWith_cons_cons, List.zipWith_cons_cons, List.zip_cons_cons] at hx
          rw [List.zip_cons_cons]
          rcases List.mem_cons.mp hx with e | hx
          · by_cases h : j = k
            · rw [if_pos h, if_pos h] at e; exact .inl e
            · rw [if_neg h, if_neg h] at e; rw [e]; exact .inr List.mem_cons_self
          · rcases ih zs av x hx with e | e
            · exact .inl e
            · exact .inr (List.mem_cons_of_mem _ e)
  intro ks h1 h2 x hx
  unfold putPs at hx
  by_cases h : hasK ks k = true
  · rw [if_pos h, if_pos h] at hx; exact key ks zs av x hx
  · rw [if_neg h, if_neg h, List.zip_append h2] at hx
    rcases List.mem_append.mp hx with hx | hx
    · exact .inr hx
    · exact .inl (by simpa using hx)
theorem putPs_len {α : Type} {ks : List Key} {zs : List α} {k : Key} {z : α} (h : ks.length = zs.length) : (putPs ks zs k z).length = (putKs ks k).length := by
  unfold putPs putKs
  by_cases e : hasK ks k = true
  · rw [if_pos e, if_pos e, List.length_zipWith]; omega
  · rw [if_neg e, if_neg e]; simp [h]
theorem dc_walk {K : PySem.W.Frag} {g : TG} {tt : TT} {tk te : TE} {vs sl : List Nat} {qg : QTG} {qt : QTT} {qk qe : QT} (h2 : RzG K g sl qg) (h3 : RzT K tt qt) (hk : Rz K tk qk) (h4 : Rz K te qe) (hs : ∀ i ∈ sl, i ∈ vs) {G : Gd} {H1 : Hp} {σ : L2.St} {ρ1 : En} {pd pd1 : Pds} {J : It} {ps : List PV} {Q : PK1} {F : VK} (sb : ∀ x ∈ pd, x ∈ pd1)
    (R2 : RE K G H1 σ ρ1 pd1) (wk : Wk K J ps pd1 G.keep) (nio : notIos ρ1 vs) (go : dcR qg qt qk qe vs ps (wipeE ρ1 vs) Q .mk) (f : ∀ r ρ' v H', Res K G H' σ ρ' pd r v → Q r ρ' → F v H') :
    ∀ D, H1 D = none → ∃ W : Nat → Nat → Hp → Prop, (∃ m, W 0 m (upd H1 D (.dK []))) ∧ ∀ i m H, W i m H →
      (J.stop i H ∧ F (.ref D) H) ∨ (J.go i H ∧ ∃ Nx : Hp → Prop, (∀ H', Nx H' → ∃ m', m' < m ∧ W (i + 1) m' H') ∧ ∀ x H', J.yld i H x H' → g x (L2.wipe σ vs) H' fun σ2 H2 => L2.wipe σ2 vs = L2.wipe σ vs ∧ tt σ2 H2 fun b H3 =>
        if b = true then tk σ2 H3 fun y H4 => te σ2 H4 fun z H5 => ∃ kvs k, y = kV k ∧ H5 D = some (.dK kvs) ∧ kvs.length < sizeLine ∧ Nx (upd H5 D (.dK (putK kvs k z))) else Nx H3) := by
  intro D hD
  have kx := R2.exk
  have kD : G.keep D = none := by
    cases q : G.keep D with
    | none => rfl
    | some u => rw [R2.keep D u q] at hD; cases hD
  let W : Nat → Nat → Hp → Prop := fun i m H => m = ps.length - i ∧ i ≤ ps.length ∧ ∃ (ρ' : En) (ks : List Key) (zs : List PV) (av : List V), RE K (G.add D (.dK (ks.zip av))) H (L2.wipe σ vs) (wipeE ρ' vs) (zs.zip av ++ pd1) ∧ ks.length = av.length ∧ zs.length = av.length ∧ ks.all keyOk = true ∧ dcGo qg qt qk qe vs (fun ks zs ρ' => Q (.fr (.dic ks zs)) ρ') (ps.drop i) ks zs (wipeE ρ' vs)
  refine ⟨W, ⟨ps.length, by simp, Nat.zero_le _, ρ1, [], [], [], ?_, rfl, rfl, rfl, go⟩, ?_⟩
  · exact (R2.wipe vs nio).add (o := .dK []) hD (same_new hD) upd_same trivial
  rintro i m H2 ⟨rfl, hi, ρ', ks, zs, av, R3, lk, lz, ok, g1⟩
  by_cases lt : i < ps.length
  · have ep : ps[i]? = some ps[i] := List.getElem?_eq_getElem lt
    obtain ⟨jg, jy⟩ := wk.item _ H2 _ _ _ i _ (fun x hx => List.mem_append_right _ hx) (add_keep kD fun _ _ e => e) R3 ep
    refine .inr ⟨jg, fun H' => W (i + 1) (ps.length - (i + 1)) H', fun H' w => ⟨_, by omega, w⟩, fun x H3 y => ?_⟩
    have R4 := jy x H3 y
    rw [List.drop_eq_getElem_cons lt] at g1
    refine h2 _ H3 _ _ _ _ x _ _ R4 g1 fun σ2 ρ2 H4 l2 k2 R5 g2 => ?_
    have wa : L2.wipe σ2 vs = L2.wipe σ vs := by
      rw [← wipe_wipe σ vs]
      exact wipe_agree l2 fun j hj => k2 j fun z => hj (hs j z)
    refine ⟨wa, h3 _ H4 σ2 ρ2 _ _ _ R5 g2 fun b ρ3 H5 R6 g3 => ?_⟩
    cases b with
    | false =>
      obtain ⟨n3, g4⟩ := g3.2 rfl
      refine ⟨rfl, lt, ρ3, ks, zs, av, ?_, lk, lz, ok, g4⟩
      have R7 := R6.wipe vs n3
      rw [wa] at R7
      exact R7
    | true =>
      have g4 := g3.1 rfl
      show tk σ2 H5 _
      refine hk _ H5 σ2 ρ3 _ _ _ R6 g4 fun r ρ4 y' H6 s g5 => ?_
      have s' := s.wk
      cases er : r.wk with
      | sl j => rw [er] at g5; exact g5.elim
      | fr q => rw [er] at g5; exact g5.elim
      | pv q =>
        rw [er] at s' g5
        have g5' : match keyP q with
          | some k => qe ρ4 fun r2 ρ4 => match r2.wk with
            | .pv z => small (ks.length + 1) ∧ notIos ρ4 vs ∧ dcGo qg qt qk qe vs (fun ks zs ρ' => Q (.fr (.dic ks zs)) ρ') (ps.drop (i + 1)) (putKs ks k) (putPs ks zs k z) (wipeE ρ4 vs)
            | _ => False
          | none => False := g5
        have R7 : RE K (G.add D (.dK (ks.zip av))) H6 σ2 ρ4 ((q, y') :: (zs.zip av ++ pd1)) := s'
        cases ek : keyP q with
        | none => rw [ek] at g5'; exact g5'.elim
        | some k =>
          rw [ek] at g5'
          obtain ⟨e5, ko⟩ := keyP_is (R7.pd (q, y') List.mem_cons_self) ek
          refine h4 _ H6 σ2 ρ4 _ _ _ R7 g5' fun r2 ρ5 z' H7 s2 g6 => ?_
          have s2' := s2.wk
          cases er2 : r2.wk with
          | sl j => rw [er2] at g6; exact g6.elim
          | fr q => rw [er2] at g6; exact g6.elim
          | pv z =>
            rw [er2] at s2' g6
            obtain ⟨sm, n5, g7⟩ := g6
            have R8 : RE K (G.add D (.dK (ks.zip av))) H7 σ2 ρ5 ((z, z') :: (q, y') :: (zs.zip av ++ pd1)) := s2'
            obtain ⟨e7, e8⟩ := put_zip (j := k) (v := z') lk
            refine ⟨ks.zip av, k, e5, R8.keep D _ upd_same, by rw [zip_len lk]; exact small_lt sm, rfl, lt, ρ5, putKs ks k, putPs ks zs k z, putPs ks av k z', ?_, e8, ?_, putKs_ok ok ko, g7⟩
            · have R9 := (R8.wipe vs n5).readd (o' := .dK (putK (ks.zip av) k z')) trivial
              rw [wa, e7] at R9
              rw [e7]
              refine R9.pds fun x hx => ?_
              rcases List.mem_append.mp hx with hx | hx
              · rcases put_pairs lk lz x hx with e | hx
                · rw [e]; exact List.mem_cons_self
                · exact List.mem_cons_of_mem _ (List.mem_cons_of_mem _ (List.mem_append_left _ hx))
              · exact List.mem_cons_of_mem _ (List.mem_cons_of_mem _ (List.mem_append_right _ hx))
            · rw [putPs_len (lk.trans lz.symm), putPs_len lk]
  · have e : i = ps.length := by omega
    subst e
    refine .inl ⟨wk.stop _ H2 _ _ _ _ (fun x hx => List.mem_append_right _ hx) (add_keep kD fun _ _ e => e) R3 (Nat.le_refl _), ?_⟩
    rw [List.drop_length] at g1
    have R4 := R3.unwipe
    refine f (.fr (.dic ks zs)) (wipeE ρ' vs) (.ref D) H2 ⟨D, .dK (ks.zip av), rfl, kD, kx, R4.pds fun x hx => List.mem_append_right _ (sb x hx), ?_⟩ g1
    refine ⟨av, rfl, lk, ok, ?_⟩
    have hall : ∀ x ∈ zs.zip av, Is K H2 (WS (G.add D (.dK (ks.zip av))) σ (wipeE ρ' vs)) x.1 x.2 := fun x hx => R4.pd x (List.mem_append_left _ hx)
    clear g1 R3 R4
    revert lz hall
    generalize WS (G.add D (.dK (ks.zip av))) σ (wipeE ρ' vs) = W'
    intro lz hall
    clear W f go ok lk
    induction zs generalizing av with
    | nil => cases av with
      | nil => rfl
      | cons _ _ => simp at lz
    | cons p zs ih =>
      cases av with
      | nil => simp at lz
      | cons v av => exact ⟨v, av, rfl, hall (p, v) List.mem_cons_self, ih av (by simpa using lz) fun x hx => hall x (List.mem_cons_of_mem _ hx)⟩
def qDcK (i : Nat) (g : QTG) (tt : QTT) (tk te : QT) (vs : List Nat) (ρ : En) (Q : PK1) : Prop := match dicAt ρ i with
  | some (ks, _) => notIos ρ vs ∧ dcR g tt tk te vs (ks.map keyV) (wipeE ρ vs) Q .mk
  | none => False
section
variable {X : Cx} {kx elt tg iter : Expr} {ifs : List Expr} {scope : Scope} {own : List (Str × Nat)} {pos npos : Pos} {g : QTG} {tt : QTT} {tk te : QT} {ti : QTI} {sl : List Nat} {x : Str}
theorem rz_dc {K : PySem.W.Frag} {wi : TI} {g : TG} {tt : TT} {tk te : TE} {vs sl : List Nat} {ti : QTI} {qg : QTG} {qt : QTT} {qk qe : QT} (h1 : RzI K wi ti) (h2 : RzG K g sl qg) (h3 : RzT K tt qt) (hk : Rz K tk qk) (h4 : Rz K te qe) (hs : ∀ i ∈ sl, i ∈ vs) : Rz K (tDc wi g tt tk te vs) (qDc ti qg qt qk qe vs) := by
  intro G H σ ρ pd Q F R1 hw f
  exact h1 G H σ ρ pd _ _ R1 hw fun J ps ρ1 pd1 H1 sb R2 wk ⟨nio, go⟩ => dc_walk h2 h3 hk h4 hs sb R2 wk nio go f
theorem qe_dc (hc : X.calm = true) (hN : X.N.Nodup) (ok : BlkOk X.N X.env.scope scope own) (hi : QI X tg iter ti) (hg : ∀ c, QG (blkX X scope c) tg sl g) (ht : ∀ c, QCs (blkX X scope c) ifs tt) (hk : ∀ c, QE (blkX X scope c) kx tk) (he : ∀ c, QE (blkX X scope c) elt te)
    (hs : ∀ i ∈ sl, i ∈ own.map (·.2) := by decide) (hf : ∀ x, foldedSetIterable iter X.env x = pure x := by intro _; rfl) {vs : List Nat} (hv : vs = own.map (·.2) := by rfl) : QE X (.DictComp kx elt [⟨tg, iter, ifs, 0⟩] scope pos) (qDc ti g tt tk te vs) := by
  subst hv
  obtain ⟨wi, p1, q1⟩ := hi.ex
  obtain ⟨g1, p2, q2⟩ := QG.all (X := blkX X scope) (K := X.K) (fun _ => rfl) hg
  obtain ⟨t1, p3, q3⟩ := QCs.all (X := blkX X scope) (K := X.K) (fun _ => rfl) ht
  obtain ⟨k1, pk, qk⟩ := QE.all (X := blkX X scope) (K := X.K) (fun _ => rfl) hk
  obtain ⟨e1, p4, q4⟩ := QE.all (X := blkX X scope) (K := X.K) (fun _ => rfl) he
  exact ⟨_, pe_dc hc hN p1 ok (fun s H C cl fp => p2 (s, H, C, cl, fp)) (fun s H C cl fp => p3 (s, H, C, cl, fp)) (fun s H C cl fp => pk (s, H, C, cl, fp)) (fun s H C cl fp => p4 (s, H, C, cl, fp)) hf, rz_dc q1 q2 q3 qk q4 hs⟩
theorem rz_dcK {g1 : TG} {t1 : TT} {k1 e1 : TE} {vs : List Nat} {i : Nat} (q2 : RzG X.K g1 sl g) (q3 : RzT X.K t1 tt) (qk : Rz X.K k1 tk) (q4 : Rz X.K e1 te) (hs : ∀ i ∈ sl, i ∈ vs) :
    Rz X.K (fun σ H Q => tLockE (tDc (iKeys (tVar i)) g1 t1 k1 e1 vs) σ H Q ∨ tDc (iKeys (tVar i)) g1 t1 k1 e1 vs σ H Q) (qDcK i g tt tk te vs) := by
  intro G H σ ρ pd Q F R1 h f
  unfold qDcK at h
  cases e : dicAt ρ i with
  | none => rw [e] at h; exact h.elim
  | some kp =>
    obtain ⟨ks, ps⟩ := kp
    rw [e] at h
    obtain ⟨nio, go⟩ := h
    obtain ⟨d, us, e2, n, r, hl, ok⟩ := dicAt_is R1 e
    rcases r with r | ⟨o, r⟩
    · refine .inl ⟨d, _, r, trivial, fun od => ?_⟩
      have R2 := R1.lock (o := od) n r
      refine ⟨.ref d, e2, d, od, rfl, .inl ⟨_, upd_same, ?_⟩⟩
      have kd : ∀ u, G.keep d = some u → u = .dK (ks.zip us) := fun u eu => by have := R1.keep d u eu; rw [r] at this; cases this; rfl
      refine dc_walk (F := fun v H' => H' d = some (.frz od (.dK (ks.zip us))) ∧ F v (upd H' d (.dK (ks.zip us)))) q2 q3 qk q4 hs (pd1 := pd) (fun _ hx => hx) R2 (wk_keys hl ok upd_same) nio go fun r ρ' v H' s hq => ?_
      obtain ⟨h1, s'⟩ := s.unlock kd R1.exk
      exact ⟨h1, f r ρ' v _ s' hq⟩
    · refine .inr ⟨.ref d, e2, d, o, rfl, .inl ⟨_, r, ?_⟩⟩
      by_cases hk : G.keep d = some (.frz o (.dK (ks.zip us)))
      · exact dc_walk q2 q3 qk q4 hs (pd1 := pd) (fun _ hx => hx) R1 (wk_keys hl ok hk) nio go f
      · have kn : G.keep d = none := by
          cases eq : G.keep d with
          | none => rfl
          | some u => have := R1.keep d u eq; rw [r] at this; cases this; exact absurd eq hk
        have R2 : RE X.K (G.lk d (.frz o (.dK (ks.zip us)))) H σ ρ pd := by
          refine ⟨R1.len, R1.val, fun j b p e => ?_, R1.inj, R1.io, fun b u e => ?_, fun b w hv => ?_, R1.pd, R1.ext.lk (fun z => n (.inl z)) fun b ne => rfl⟩
          · obtain ⟨a, e1, k, rest⟩ := R1.own j b p e
            have ne : a ≠ d := fun z => n (by rw [← z]; exact .inr ⟨j, b, p, e, e1⟩)
            exact ⟨a, e1, by show upd G.keep d _ a = none; rw [upd_ne ne]; exact k, rest⟩
          · have e' : upd G.keep d (.frz o (.dK (ks.zip us))) b = some u := e
            by_cases z : b = d
            · rw [z] at e' ⊢; rw [upd_same] at e'; rw [r]; exact e'
            · rw [upd_ne z] at e'; exact R1.keep b u e'
          · obtain ⟨u, e1, m1⟩ := R1.exk b w hv
            have ne : b ≠ d := fun z => n (by rw [← z]; exact .inl w)
            exact ⟨u, by show upd G.keep d _ b = some u; rw [upd_ne ne]; exact e1, m1⟩
        refine dc_walk q2 q3 qk q4 hs (pd1 := pd) (fun _ hx => hx) R2 (wk_keys hl ok upd_same) nio go fun r ρ' v H' s hq => ?_
        refine f r ρ' v H' ?_ hq
        have dn : ∀ {H' : Hp} {σ : L2.St} {ρ : En} {pd : Pds} {G : Gd}, G.keep d = none → RE X.K (G.lk d (.frz o (.dK (ks.zip us)))) H' σ ρ pd → RE X.K G H' σ ρ pd := fun {H' σ ρ pd G} kn R => by
          refine ⟨R.len, R.val, fun j b p e => ?_, R.inj, R.io, fun b u e => ?_, fun b w hv => ?_, R.pd, R.ext.unlk fun b ne => rfl⟩
          · obtain ⟨a, e1, k, rest⟩ := R.own j b p e
            have k' : upd G.keep d (.frz o (.dK (ks.zip us))) a = none := k
            by_cases z : a = d
            · rw [z, upd_same] at k'; cases k'
            · rw [upd_ne z] at k'; exact ⟨a, e1, k', rest⟩
          · have ne : b ≠ d := fun z => by rw [z, kn] at e; cases e
            exact R.keep b u (by show upd G.keep d _ b = some u; rw [upd_ne ne]; exact e)
          · obtain ⟨u, e1, m1⟩ := R.exk b w hv
            have e' : upd G.keep d (.frz o (.dK (ks.zip us))) b = some u := e1
            by_cases z : b = d
            · rw [z, upd_same] at e'; cases e'; exact m1.elim
            · rw [upd_ne z] at e'; exact ⟨u, e', m1⟩
        cases r with
        | pv p => exact dn kn s
        | sl j => exact ⟨dn kn s.1, s.2⟩
        | fr p =>
          obtain ⟨a, u, e1, na, _, R3, w⟩ := s
          have n' : upd G.keep d (.frz o (.dK (ks.zip us))) a = none := na
          have ne : a ≠ d := fun z => by rw [z, upd_same] at n'; cases n'
          rw [upd_ne ne] at n'
          have eg : (G.lk d (.frz o (.dK (ks.zip us)))).add a u = (G.add a u).lk d (.frz o (.dK (ks.zip us))) := lk_add ne
          rw [eg] at R3 w
          exact ⟨a, u, e1, n', R1.exk, dn (G := G.add a u) (by show upd G.keep a u d = none; rw [upd_ne ne.symm]; exact kn) R3, w⟩
theorem qe_dcK (i : Nat) (hc : X.calm = true) (hN : X.N.Nodup) (ok : BlkOk X.N X.env.scope scope own) (hg : ∀ c, QG (blkX X scope c) tg sl g) (ht : ∀ c, QCs (blkX X scope c) ifs tt) (hk : ∀ c, QE (blkX X scope c) kx tk) (he : ∀ c, QE (blkX X scope c) elt te)
    (hs : ∀ i ∈ sl, i ∈ own.map (·.2) := by decide) (hNx : X.N[i]? = some x := by rfl) (hv : Vis X.env.scope x := by first | exact Or.inl rfl | exact Or.inr (Or.inl rfl) | exact Or.inr (Or.inr rfl)) (hd : (x == ("__debug__" : Str)) = false := by decide)
    (hcd : (x == ("__classdict__" : Str)) = false := by decide) (hf : ∀ y, foldedSetIterable (.Name x npos) X.env y = pure y := by intro _; rfl) {vs : List Nat} (hvs : vs = own.map (·.2) := by rfl) : QE X (.DictComp kx elt [⟨tg, .Name x npos, ifs, 0⟩] scope pos) (qDcK i g tt tk te vs) := by
  subst hvs
  obtain ⟨g1, p2, q2⟩ := QG.all (X := blkX X scope) (K := X.K) (fun _ => rfl) hg
  obtain ⟨t1, p3, q3⟩ := QCs.all (X := blkX X scope) (K := X.K) (fun _ => rfl) ht
  obtain ⟨k1, pk, qk⟩ := QE.all (X := blkX X scope) (K := X.K) (fun _ => rfl) hk
  obtain ⟨e1, p4, q4⟩ := QE.all (X := blkX X scope) (K := X.K) (fun _ => rfl) he
  have base := pe_dc (pos := pos) hc hN (pi_keys (pe_var (pos := npos) hNx hv hd hcd)) ok (fun s H C cl fp => p2 (s, H, C, cl, fp)) (fun s H C cl fp => p3 (s, H, C, cl, fp)) (fun s H C cl fp => pk (s, H, C, cl, fp)) (fun s H C cl fp => p4 (s, H, C, cl, fp)) hf
  exact ⟨_, pe_either (pe_lock base) base, rz_dcK q2 q3 qk q4 hs⟩
end
end Px
namespace Px
open PySem L2 PySem.Spec PyProof.Rows
/-! ### [d[x] for x in d], d one's own -/
def ownDic (ρ : En) (i : Nat) : Option (List Key × List PV) := match ρ[i]? with
  | some (.own _ (.dic ks ps)) => some (ks, ps)
  | _ => none
def qVals (i j : Nat) (ρ : En) (Q : PK1) : Prop := match ownDic ρ i with
  | some (ks, ps) => i ≠ j ∧ j < ρ.length ∧ ks.Nodup ∧ small ps.length ∧ notIo ρ j = true ∧ Q (.fr (.lst ps)) (wipeE ρ [j])
  | none => False
theorem valV_nodup : ∀ {ks : List Key} {vs : List V}, ks.Nodup → ∀ {n : Nat} {k : Key} {v : V}, (ks.zip vs)[n]? = some (k, v) → valV (ks.zip vs) k = some v
  | [], vs, _, n, k, v, e => by simp at e
  | j :: ks, [], _, n, k, v, e => by simp at e
  | j :: ks, u :: vs, h, n, k, v, e => by
    rw [List.zip_cons_cons] at e ⊢
    cases n with
    | zero =>
      simp only [List.getElem?_cons_zero, Option.some.injEq, Prod.mk.injEq] at e
      rw [valV_pos (p := (j, u)) e.1, e.2]
    | succ n =>
      rw [List.getElem?_cons_succ] at e
      have hk : k ∈ ks := by
        have := List.mem_of_getElem? e
        exact (List.of_mem_zip this).1
      have ne : ¬ j = k := fun z => (List.nodup_cons.mp h).1 (by rw [z]; exact hk)
      rw [valV_neg (p := (j, u)) ne]
      exact valV_nodup (List.nodup_cons.mp h).2 e
theorem take_snoc {α : Type} {l : List α} {n : Nat} {x : α} (e : l[n]? = some x) : l.take n ++ [x] = l.take (n + 1) := by
  rw [List.take_add_one, e]; rfl
theorem rz_vals {K : PySem.W.Frag} {i j : Nat} : Rz K (tLockE (tLc (iKeys (tVar i)) (gName j) tYes (tOp rIxD (tVar i) (tVar j)) [j])) (qVals i j) := by
  intro G H σ ρ pd Q F R h f
  unfold qVals at h
  cases e : ownDic ρ i with
  | none => rw [e] at h; exact h.elim
  | some kp =>
    obtain ⟨ks, ps⟩ := kp
    rw [e] at h
    obtain ⟨nij, lj, nd, sm, nj, q⟩ := h
    have es : ∃ b, ρ[i]? = some (.own b (.dic ks ps)) := by
      unfold ownDic at e
      split at e
      · rename_i b k p eq; cases e; exact ⟨b, eq⟩
      · cases e
    obtain ⟨b, es⟩ := es
    obtain ⟨d, e2, kd, o, hd, w⟩ := R.own i b _ es
    obtain ⟨us, eo, hl, ok, iss⟩ : ∃ us, o = .dK (ks.zip us) ∧ ks.length = us.length ∧ ks.all keyOk = true ∧ Iss K H (WS G σ ρ) ps us := by
      cases o with
      | dK kvs => obtain ⟨vs, e3, l, k, q⟩ := w; exact ⟨vs, by rw [e3], l, k, q⟩
      | _ => exact w.elim
    subst eo
    have lz : (ks.zip us).length = us.length := by rw [zip_len hl, hl]
    have lp := iss.length
    have lσ : j < σ.length := by rw [← R.len]; exact lj
    refine ⟨d, _, hd, trivial, fun od => ?_⟩
    refine ⟨.ref d, e2, d, od, rfl, .inl ⟨_, upd_same, ?_⟩⟩
    intro D hD
    have neD : D ≠ d := fun z => by rw [z, upd_same] at hD; cases hD
    have hD0 : H D = none := by rw [upd_ne neD] at hD; exact hD
    have kD : G.keep D = none := by
      cases q : G.keep D with
      | none => rfl
      | some u => rw [R.keep D u q] at hD0; cases hD0
    let Hd := upd H d (.frz od (.dK (ks.zip us)))
    refine ⟨fun n m H' => m = us.length - n ∧ n ≤ us.length ∧ H' = upd Hd D (.lst (us.take n)), ⟨us.length, by simp, Nat.zero_le _, by simp [Hd]⟩, ?_⟩
    rintro n m H' ⟨rfl, hn, rfl⟩
    have hdd : ∀ u, (upd Hd D u) d = some (.frz od (.dK (ks.zip us))) := fun u => by rw [upd_ne neD.symm]; exact upd_same
    by_cases lt : n < us.length
    · refine .inr ⟨⟨hdd _, by rw [lz]; exact lt⟩, fun H' => n + 1 ≤ us.length ∧ H' = upd Hd D (.lst (us.take (n + 1))), fun H' w => ⟨_, by omega, rfl, w⟩, ?_⟩
      rintro x H3 ⟨rfl, k, v, e3, rfl⟩
      have ev : us[n]? = some v := by rw [List.getElem?_zip_eq_some] at e3; exact e3.2
      show L2.wipe ((L2.wipe σ [j]).set j (some (kV k))) [j] = L2.wipe σ [j] ∧ _
      refine ⟨?_, ?_⟩
      · skip
        have wa : L2.wipe ((L2.wipe σ [j]).set j (some (kV k))) [j] = L2.wipe (L2.wipe σ [j]) [j] := by
          refine wipe_agree (by rw [List.length_set]) fun i hi => ix_ne (fun (z : j = i) => hi ?_)
          rw [z]; exact List.mem_singleton_self i
        rw [wa, wipe_wipe]
      · simp only [tYes, ↓reduceIte]
        refine ⟨.ref d, ?_, kV k, ?_, d, _, k, v, rfl, .inr ⟨od, hdd _⟩, rfl, valV_nodup nd e3, us.take n, upd_same, ?_, lt, ?_⟩
        · rw [ix_ne (fun z => nij z.symm), wipe_out (by simp [nij])]; exact e2
        · rw [List.getElem?_set_self (by rw [wipe_length]; exact lσ)]
        · have : small ps.length := sm
          unfold small at this
          rw [List.length_take]; omega
        · rw [upd_upd, take_snoc ev]
    · have en : n = us.length := by omega
      subst en
      refine .inl ⟨⟨hdd _, by rw [lz]; exact Nat.le_refl _⟩, hdd _, ?_⟩
      rw [List.take_length]
      have eH : upd (upd Hd D (.lst us)) d (.dK (ks.zip us)) = upd H D (.lst us) := by
        funext b
        by_cases z1 : b = d
        · subst z1; rw [upd_same, upd_ne neD.symm]; exact hd.symm
        · rw [upd_ne z1]
          by_cases z2 : b = D
          · subst z2; rw [upd_same, upd_same]
          · rw [upd_ne z2, upd_ne z2]; show upd H d _ b = _; rw [upd_ne z1]
      rw [eH]
      have nio : notIos ρ [j] := fun v hv => by rw [List.mem_singleton] at hv; rw [hv]; exact nj
      have R2 : RE K (G.add D (.lst us)) (upd H D (.lst us)) σ (wipeE ρ [j]) pd := ((R.wipe [j] nio).add (o := .lst us) hD0 (same_new hD0) upd_same trivial).unwipe
      refine f (.fr (.lst ps)) (wipeE ρ [j]) (.ref D) _ ⟨D, _, rfl, kD, R.exk, R2, ?_⟩ q
      have ew : (wipeE ρ [j])[i]? = some (.own b (.dic ks ps)) := by
        show (ρ.set j Sl.un)[i]? = _
        rw [ix_ne (fun z => nij z.symm)]; exact es
      obtain ⟨d', e4, _, o', hd', w'⟩ := R2.own i b _ ew
      rw [e2] at e4
      cases e4
      rw [upd_ne neD.symm, hd] at hd'
      cases hd'
      obtain ⟨us', ez, l', _, q'⟩ := w'
      have : us' = us := by
        have z := congrArg (List.map Prod.snd) ez
        rw [List.map_snd_zip (by omega), List.map_snd_zip (by omega)] at z
        exact z.symm
      subst this
      exact q'
section
variable {X : Cx} {scope : Scope} {own : List (Str × Nat)} {pos npos p1 p2 p3 p4 spos py : Pos} {x o y : Str}
theorem pvx (i : Nat) (hN : X.N[i]? = some x := by rfl) (hv : Vis X.env.scope x := by first | exact Or.inl rfl | exact Or.inr (Or.inl rfl) | exact Or.inr (Or.inr rfl)) (hd : (x == ("__debug__" : Str)) = false := by decide)
    (hcd : (x == ("__classdict__" : Str)) = false := by decide) : PE X (.Name x pos) (tVar i) := pe_var hN hv hd hcd
theorem pgx (i : Nat) (hN : X.N.Nodup) (hi : X.N[i]? = some x := by rfl) (hx : Loc X.env.scope x := by first | exact Or.inl rfl | exact Or.inr rfl) (hf : X.fn x = true ∨ X.env.scope.names.lookup x = some .local := by first | exact .inl rfl | exact .inr rfl) : PG X (.Name x pos) (gName i) := pg_name hN hi hx hf
theorem pe_ixx {i j : Nat} {a b : Expr} (ha : PE X a (tVar i)) (hb : PE X b (tVar j)) (hs : PlainIx b := by intro _ _; rfl) : PE X (.Subscript a b pos) (tOp rIxD (tVar i) (tVar j)) := pe_ix ix_dict ha hb hs
theorem qe_vals (i j : Nat) (hc : X.calm = true) (hN : X.N.Nodup) (ok : BlkOk X.N X.env.scope scope own) (he : ∀ c, PE (blkX X scope c) (.Subscript (.Name x p1) (.Name o p2) p3) (tOp rIxD (tVar i) (tVar j))) (hg : ∀ c, PG (blkX X scope c) (.Name o p4) (gName j))
    (hNx : X.N[i]? = some x := by rfl) (hv : Vis X.env.scope x := by first | exact Or.inl rfl | exact Or.inr (Or.inl rfl) | exact Or.inr (Or.inr rfl)) (hd : (x == ("__debug__" : Str)) = false := by decide)
    (hcd : (x == ("__classdict__" : Str)) = false := by decide) (hf : ∀ y, foldedSetIterable (.Name x npos) X.env y = pure y := by intro _; rfl) (hvs : [j] = own.map (·.2) := by rfl) : QE X (.ListComp (.Subscript (.Name x p1) (.Name o p2) p3) [⟨.Name o p4, .Name x npos, [], 0⟩] scope pos) (qVals i j) := by
  have base := pe_lc (pos := pos) hc hN (pi_keys (pe_var (pos := npos) hNx hv hd hcd)) ok (fun s H C cl fp => hg (s, H, C, cl, fp)) (fun s H C cl fp => pts_nil) (fun s H C cl fp => he (s, H, C, cl, fp)) hf
  rw [← hvs] at base
  exact ⟨_, pe_lock base, rz_vals⟩
theorem qs_setVals (k i j : Nat) (hc : X.calm = true) (hN : X.N.Nodup) (hsw : swapsWith (.ListComp (.Subscript (.Name x p1) (.Name o p2) p3) [⟨.Name o p4, .Name x npos, [], 0⟩] scope pos) (some (.Name y py)) spos.line X.env = pure true) (ok : BlkOk X.N X.env.scope scope own) (he : ∀ c, PE (blkX X scope c) (.Subscript (.Name x p1) (.Name o p2) p3) (tOp rIxD (tVar i) (tVar j))) (hg : ∀ c, PG (blkX X scope c) (.Name o p4) (gName j))
    (hy : X.N[k]? = some y := by rfl) (hyl : X.env.scope.names.lookup y = some .local := by rfl) (hNx : X.N[i]? = some x := by rfl) (hv : Vis X.env.scope x := by first | exact Or.inl rfl | exact Or.inr (Or.inl rfl) | exact Or.inr (Or.inr rfl)) (hd : (x == ("__debug__" : Str)) = false := by decide)
    (hcd : (x == ("__classdict__" : Str)) = false := by decide) (hf : ∀ y, foldedSetIterable (.Name x npos) X.env y = pure y := by intro _; rfl) (hvs : [j] = own.map (·.2) := by rfl) : QS X (.Assign [.Name y py] (.ListComp (.Subscript (.Name x p1) (.Name o p2) p3) [⟨.Name o p4, .Name x npos, [], 0⟩] scope pos) spos) (qSet k (qVals i j)) := by
  have base := ps_setLc (i := k) (pos := pos) (py := py) hc hN hy hyl hsw (pi_keys (pe_var (pos := npos) hNx hv hd hcd)) ok (fun s H C cl fp => hg (s, H, C, cl, fp)) (fun s H C cl fp => pts_nil) (fun s H C cl fp => he (s, H, C, cl, fp)) hf
  rw [← hvs] at base
  exact ⟨tAsg (tLockE (tLc (iKeys (tVar i)) (gName j) tYes (tOp rIxD (tVar i) (tVar j)) [j])) (gName k), ps_lock base, rz_set rz_vals⟩
end
end Px
namespace Px
open PySem L2 PySem.Spec PyProof.Rows
/-! ### a comprehension over two -/
/-- walked, whatever else is kept -/
def RzI0 (K : PySem.W.Frag) (wi : TI) (t : QTI) : Prop := ∀ (G : Gd) (H : Hp) (σ : L2.St) (ρ : En) (pd : Pds) (Q : List PV → En → Prop) (F : It → Hp → Prop), RE K G H σ ρ pd → t ρ Q →
    (∀ J ps ρ' pd1 H', (∀ x ∈ pd, x ∈ pd1) → RE K G H' σ ρ' pd1 → Wk K J ps pd1 (fun _ => none) → Q ps ρ' → F J H') → wi σ H F
structure QI0 (X : Cx) (tg iter : Expr) (t : QTI) : Prop where
  ex : ∃ wi, PI X tg iter wi ∧ RzI0 X.K wi t
theorem QI0.all {ι : Type} {X : ι → Cx} {tg iter : Expr} {t : QTI} {K : PySem.W.Frag} (hK : ∀ c, (X c).K = K) (h : ∀ c, QI0 (X c) tg iter t) : ∃ wi, (∀ c, PI (X c) tg iter wi) ∧ RzI0 K wi t := by
  refine ⟨fun σ H F => ∀ c, (Classical.choose (h c).ex) σ H F, fun c => ⟨fun pins s σ H Q I hw => (Classical.choose_spec (h c).ex).1.run pins s σ H Q I (hw c)⟩, fun G H σ ρ pd Q F R1 hq f c => ?_⟩
  have z : RzI0 (X c).K (Classical.choose (h c).ex) t := (Classical.choose_spec (h c).ex).2
  exact z G H σ ρ pd Q F (by rw [hK c]; exact R1) hq (by rw [hK c]; exact f)
section
variable {X : Cx} {tg e a b : Expr} {te : QT} {tr : QTA}
theorem qi0_seq (h : QE X e te) : QI0 X tg e (qIt te) := by
  obtain ⟨t, p, q⟩ := h.ex
  refine ⟨_, pi_seq p, fun G H σ ρ pd Q F R1 hw f => ?_⟩
  refine q G H σ ρ pd _ _ R1 hw fun r ρ1 v H1 s g => ?_
  have s' := s.wk
  cases e1 : r.wk with
  | pv p =>
    rw [e1] at s' g
    cases p with
    | lst ps =>
      obtain ⟨a, vs, e2, _, r2, _⟩ : ∃ a vs, v = .ref a ∧ ¬ WS G σ ρ1 a ∧ H1 a = some (.lst vs) ∧ Iss X.K H1 (WS G σ ρ1) ps vs := s'.pd (.lst ps, v) List.mem_cons_self
      subst e2
      exact .inl ⟨a, rfl, ⟨vs, .inl (.inl r2)⟩, f _ _ ρ1 ((.lst ps, .ref a) :: pd) H1 (fun x hx => List.mem_cons_of_mem _ hx) s' wk_list g⟩
    | tup ps =>
      obtain ⟨a, vs, e2, r2, _⟩ : ∃ a vs, v = .ref a ∧ H1 a = some (.tup vs) ∧ Iss X.K H1 (WS G σ ρ1) ps vs := s'.pd (.tup ps, v) List.mem_cons_self
      subst e2
      exact .inr (.inl ⟨a, rfl, ⟨vs, .inl (.inl r2)⟩, f _ _ ρ1 ((.tup ps, .ref a) :: pd) H1 (fun x hx => List.mem_cons_of_mem _ hx) s' wk_tup g⟩)
    | str s0 =>
      obtain ⟨e2, ok⟩ : v = .str s0 ∧ sOk s0 = true := s'.pd (.str s0, v) List.mem_cons_self
      subst e2
      exact .inr (.inr ⟨s0, rfl, f _ _ ρ1 ((.str s0, .str s0) :: pd) H1 (fun x hx => List.mem_cons_of_mem _ hx) s' (wk_str ok) g⟩)
    | scr ns =>
      obtain ⟨a, e2, q⟩ : ∃ a, v = .ref a ∧ ((∃ o, H1 a = some (.frz o (.lst (ns.map V.int)))) ∨ KLst X.K a (ns.map V.int)) := s'.pd (.scr ns, v) List.mem_cons_self
      subst e2
      have sq : SqL X.K H1 a (ns.map V.int) := by
        rcases q with ⟨o, q⟩ | q
        · exact .inl (.inr ⟨o, q⟩)
        · exact .inr q
      exact .inl ⟨a, rfl, ⟨_, sq⟩, f _ _ ρ1 ((.scr ns, .ref a) :: pd) H1 (fun x hx => List.mem_cons_of_mem _ hx) s' wk_scr g⟩
    | _ => exact g.elim
  | sl j => rw [e1] at g; exact g.elim
  | fr q => rw [e1] at g; exact g.elim
theorem qi0_range1 {p pos : Pos} (hm : X.mg "range" = none) (ha : QA X [a] tr) (hg : Gl X "range" := by rfl) (hs : starEach [a] X.env = [(false, eval a X.env)] := by rfl) : QI0 X tg (.Call (.Name "range" p) [a] [] pos) (qRng1 tr) := by
  obtain ⟨t, p, q⟩ := ha.ex
  refine ⟨_, pi_range1 hg hm p hs, fun G H σ ρ pd Q F R1 hw f => ?_⟩
  refine q G H σ ρ pd _ _ R1 hw fun rs ρ1 pd1 vs H1 sb R2 ar g => ?_
  cases ar with
  | nil => exact g.elim
  | @cons r v rs vs h1 t1 =>
    cases t1 with
    | cons _ _ => cases r with
      | pv p => cases p <;> exact g.elim
      | _ => exact g.elim
    | nil =>
      cases r with
      | pv p =>
        cases p with
        | int n =>
          have e : v = .int n := R2.pd _ h1
          subst e
          exact ⟨n, rfl, g.1.1, g.1.2, f _ _ ρ1 pd1 H1 sb R2 wk_rng g.2⟩
        | _ => exact g.elim
      | _ => exact g.elim
theorem qi0_range2 {p pos : Pos} (hm : X.mg "range" = none) (ha : QA X [a, b] tr) (hg : Gl X "range" := by rfl) (hs : starEach [a, b] X.env = [(false, eval a X.env), (false, eval b X.env)] := by rfl) (hs2 : starEach [b] X.env = [(false, eval b X.env)] := by rfl) :
    QI0 X tg (.Call (.Name "range" p) [a, b] [] pos) (qRng2 tr) := by
  obtain ⟨t, p, q⟩ := ha.ex
  refine ⟨_, pi_range2 hg hm p hs hs2, fun G H σ ρ pd Q F R1 hw f => ?_⟩
  refine q G H σ ρ pd _ _ R1 hw fun rs ρ1 pd1 vs H1 sb R2 ar g => ?_
  match rs, vs, ar, g with
  | [.pv (.int m), .pv (.int n)], [v, w], .cons h1 (.cons h2 .nil), g =>
    have e : v = .int m := R2.pd _ h1
    have e' : w = .int n := R2.pd _ h2
    subst e e'
    exact ⟨m, n, rfl, ⟨g.1.1.1, g.1.1.2, g.1.2.1, g.1.2.2⟩, f _ _ ρ1 pd1 H1 sb R2 wk_rng g.2⟩
end
def lc2Go (g : QTG) (tt : QTT) (ti1 : QTI) (g1 : QTG) (tt1 : QTT) (te : QT) (vs vs1 : List Nat) (Q : List PV → En → Prop) : List PV → List PV → En → Prop
  | [], acc, ρ => Q acc ρ
  | p :: ps, acc, ρ => g p ρ fun ρ1 => tt ρ1 fun b ρ2 => Br b (ti1 ρ2 fun qs ρ3 => notIos ρ3 vs1 ∧ lcGo g1 tt1 te vs1 (fun acc' ρ4 => notIos ρ4 vs ∧ lc2Go g tt ti1 g1 tt1 te vs vs1 Q ps acc' (wipeE ρ4 vs)) qs acc (wipeE ρ3 vs1))
      (notIos ρ2 vs ∧ lc2Go g tt ti1 g1 tt1 te vs vs1 Q ps acc (wipeE ρ2 vs))
def lc2R (g : QTG) (tt : QTT) (ti1 : QTI) (g1 : QTG) (tt1 : QTT) (te : QT) (vs vs1 : List Nat) (ps : List PV) (ρ : En) (Q : PK1) (_ : Dum Q) : Prop := lc2Go g tt ti1 g1 tt1 te vs vs1 (fun acc ρ' => Q (.fr (.lst acc)) ρ') ps [] ρ
def qLc2 (ti : QTI) (g : QTG) (tt : QTT) (ti1 : QTI) (g1 : QTG) (tt1 : QTT) (te : QT) (vs vs1 : List Nat) (ρ : En) (Q : PK1) : Prop := ti ρ fun ps ρ1 => notIos ρ1 vs ∧ lc2R g tt ti1 g1 tt1 te vs vs1 ps (wipeE ρ1 vs) Q .mk
theorem iss_of_pd {K : PySem.W.Frag} {H : Hp} {W : Addr → Prop} : ∀ {acc : List PV} {av : List V}, acc.length = av.length → (∀ x ∈ acc.zip av, Is K H W x.1 x.2) → Iss K H W acc av
  | [], [], _, _ => rfl
  | [], _ :: _, h, _ => by simp at h
  | _ :: _, [], h, _ => by simp at h
  | p :: acc, v :: av, h, hall => ⟨v, av, rfl, hall (p, v) List.mem_cons_self, iss_of_pd (by simpa using h) fun x hx => hall x (List.mem_cons_of_mem _ hx)⟩
theorem rz_lc2 {K : PySem.W.Frag} {wi wi1 : TI} {g gg1 : TG} {tt tt1 : TT} {te : TE} {vs vs1 sl sl1 : List Nat} {ti ti1 : QTI} {qg qg1 : QTG} {qt qt1 : QTT} {qe : QT} (h1 : RzI K wi ti) (h2 : RzG K g sl qg) (h3 : RzT K tt qt) (i1 : RzI0 K wi1 ti1) (g1 : RzG K gg1 sl1 qg1) (t1 : RzT K tt1 qt1) (h4 : Rz K te qe)
    (hs : ∀ i ∈ sl, i ∈ vs) (hs1 : ∀ i ∈ sl1, i ∈ vs1) : Rz K (tLc2 wi g tt wi1 gg1 tt1 te vs vs1) (qLc2 ti qg qt ti1 qg1 qt1 qe vs vs1) := by
  intro G H σ ρ pd Q F R1 hw f
  refine h1 G H σ ρ pd _ _ R1 hw fun J ps ρ1 pd1 H1 sb R2 wk ⟨nio, go⟩ D hD => ?_
  have kx := R2.exk
  have kD : G.keep D = none := by
    cases q : G.keep D with
    | none => rfl
    | some u => rw [R2.keep D u q] at hD; cases hD
  let W : Nat → Nat → Hp → Prop := fun i m H => m = ps.length - i ∧ i ≤ ps.length ∧ ∃ (ρ' : En) (acc : List PV) (av : List V), RE K (G.add D (.lst av)) H (L2.wipe σ vs) (wipeE ρ' vs) (acc.zip av ++ pd1) ∧ acc.length = av.length ∧ lc2Go qg qt ti1 qg1 qt1 qe vs vs1 (fun acc ρ' => Q (.fr (.lst acc)) ρ') (ps.drop i) acc (wipeE ρ' vs)
  refine ⟨W, ⟨ps.length, by simp, Nat.zero_le _, ρ1, [], [], ?_, rfl, go⟩, ?_⟩
  · exact (R2.wipe vs nio).add (o := .lst []) hD (same_new hD) upd_same trivial
  rintro i m H2 ⟨rfl, hi, ρ', acc, av, R3, la, q1⟩
  by_cases lt : i < ps.length
  · have ep : ps[i]? = some ps[i] := List.getElem?_eq_getElem lt
    obtain ⟨jg, jy⟩ := wk.item _ H2 _ _ _ i _ (fun x hx => List.mem_append_right _ hx) (add_keep kD fun _ _ e => e) R3 ep
    refine .inr ⟨jg, fun H' => W (i + 1) (ps.length - (i + 1)) H', fun H' w => ⟨_, by omega, w⟩, fun x H3 y => ?_⟩
    have R4 := jy x H3 y
    rw [List.drop_eq_getElem_cons lt] at q1
    refine h2 _ H3 _ _ _ _ x _ _ R4 q1 fun σ2 ρ2 H4 l2 k2 R5 g2 => ?_
    have wa : L2.wipe σ2 vs = L2.wipe σ vs := by
      rw [← wipe_wipe σ vs]
      exact wipe_agree l2 fun j hj => k2 j fun z => hj (hs j z)
    refine ⟨wa, h3 _ H4 σ2 ρ2 _ _ _ R5 g2 fun b ρ3 H5 R6 g3 => ?_⟩
    cases b with
    | false =>
      obtain ⟨n3, g4⟩ := g3.2 rfl
      refine ⟨rfl, lt, ρ3, acc, av, ?_, la, g4⟩
      have R7 := R6.wipe vs n3
      rw [wa] at R7
      exact R7
    | true =>
      have g4 := g3.1 rfl
      show wi1 σ2 H5 _
      refine i1 _ H5 σ2 ρ3 _ _ _ R6 g4 fun J1 qs ρ4 pd2 H6 sb2 R7 wk1 ⟨nio1, go1⟩ => ?_
      refine ⟨fun j k H => k = qs.length - j ∧ j ≤ qs.length ∧ ∃ (ρ' : En) (acc' : List PV) (av' : List V), RE K (G.add D (.lst av')) H (L2.wipe σ2 vs1) (wipeE ρ' vs1) (acc'.zip av' ++ pd2) ∧ acc'.length = av'.length ∧
        lcGo qg1 qt1 qe vs1 (fun acc' ρ4 => notIos ρ4 vs ∧ lc2Go qg qt ti1 qg1 qt1 qe vs vs1 (fun acc ρ' => Q (.fr (.lst acc)) ρ') (ps.drop (i + 1)) acc' (wipeE ρ4 vs)) (qs.drop j) acc' (wipeE ρ' vs1), ⟨qs.length, by simp, Nat.zero_le _, ρ4, acc, av, ?_, la, go1⟩, ?_⟩
      · refine (R7.wipe vs1 nio1).pds fun x hx => ?_
        rcases List.mem_append.mp hx with hx | hx
        · exact sb2 x (List.mem_append_left _ hx)
        · exact hx
      rintro j k H7 ⟨rfl, hj, ρ5, acc', av', R8, la', g5⟩
      by_cases lt1 : j < qs.length
      · have eq1 : qs[j]? = some qs[j] := List.getElem?_eq_getElem lt1
        obtain ⟨jg1, jy1⟩ := wk1.item _ H7 _ _ _ j _ (fun x hx => List.mem_append_right _ hx) (fun _ _ e => by cases e) R8 eq1
        refine .inr ⟨jg1, fun H' => j + 1 ≤ qs.length ∧ ∃ (ρ' : En) (acc' : List PV) (av' : List V), RE K (G.add D (.lst av')) H' (L2.wipe σ2 vs1) (wipeE ρ' vs1) (acc'.zip av' ++ pd2) ∧ acc'.length = av'.length ∧
          lcGo qg1 qt1 qe vs1 (fun acc' ρ4 => notIos ρ4 vs ∧ lc2Go qg qt ti1 qg1 qt1 qe vs vs1 (fun acc ρ' => Q (.fr (.lst acc)) ρ') (ps.drop (i + 1)) acc' (wipeE ρ4 vs)) (qs.drop (j + 1)) acc' (wipeE ρ' vs1), fun H' w => ⟨_, by omega, rfl, w⟩, fun x1 H8 y1 => ?_⟩
        have R9 := jy1 x1 H8 y1
        rw [List.drop_eq_getElem_cons lt1] at g5
        refine g1 _ H8 _ _ _ _ x1 _ _ R9 g5 fun σ3 ρ6 H9 l3 k3 R10 g6 => ?_
        have wa1 : L2.wipe σ3 vs1 = L2.wipe σ2 vs1 := by
          rw [← wipe_wipe σ2 vs1]
          exact wipe_agree l3 fun j hj => k3 j fun z => hj (hs1 j z)
        refine ⟨wa1, t1 _ H9 σ3 ρ6 _ _ _ R10 g6 fun b1 ρ7 H10 R11 g7 => ?_⟩
        cases b1 with
        | false =>
          obtain ⟨n7, g8⟩ := g7.2 rfl
          refine ⟨lt1, ρ7, acc', av', ?_, la', g8⟩
          have R12 := R11.wipe vs1 n7
          rw [wa1] at R12
          exact R12
        | true =>
          have g8 := g7.1 rfl
          show te σ3 H10 _
          refine h4 _ H10 σ3 ρ7 _ _ _ R11 g8 fun r ρ8 v H11 s g9 => ?_
          have s' := s.wk
          cases er : r.wk with
          | pv q =>
            rw [er] at s' g9
            obtain ⟨sm, n8, g10⟩ := g9
            have R12 : RE K (G.add D (.lst av')) H11 σ3 ρ8 ((q, v) :: (acc'.zip av' ++ pd2)) := s'
            refine ⟨av', R12.keep D _ upd_same, by rw [← la']; exact sm, lt1, ρ8, acc' ++ [q], av' ++ [v], ?_, by simp [la'], g10⟩
            have R13 := (R12.wipe vs1 n8).readd (o' := .lst (av' ++ [v])) trivial
            rw [wa1] at R13
            refine R13.pds fun x hx => ?_
            rw [List.zip_append la'] at hx
            rcases List.mem_append.mp hx with hx | hx
            · rcases List.mem_append.mp hx with hx | hx
              · exact List.mem_cons_of_mem _ (List.mem_append_left _ hx)
              · have : x = (q, v) := by simpa using hx
                rw [this]; exact List.mem_cons_self
            · exact List.mem_cons_of_mem _ (List.mem_append_right _ hx)
          | sl j => rw [er] at g9; exact g9.elim
          | fr q => rw [er] at g9; exact g9.elim
      · have e : j = qs.length := by omega
        subst e
        refine .inl ⟨wk1.stop _ H7 _ _ _ _ (fun x hx => List.mem_append_right _ hx) (fun _ _ e => by cases e) R8 (Nat.le_refl _), ?_⟩
        rw [List.drop_length] at g5
        obtain ⟨n6, g6⟩ := g5
        refine ⟨rfl, lt, wipeE ρ5 vs1, acc', av', ?_, la', g6⟩
        have R9 := R8.unwipe.wipe vs n6
        rw [wa] at R9
        refine R9.pds fun x hx => ?_
        rcases List.mem_append.mp hx with hx | hx
        · exact List.mem_append_left _ hx
        · exact List.mem_append_right _ (sb2 x (List.mem_append_right _ hx))
  · have e : i = ps.length := by omega
    subst e
    refine .inl ⟨wk.stop _ H2 _ _ _ _ (fun x hx => List.mem_append_right _ hx) (add_keep kD fun _ _ e => e) R3 (Nat.le_refl _), ?_⟩
    rw [List.drop_length] at q1
    have R4 := R3.unwipe
    refine f (.fr (.lst acc)) (wipeE ρ' vs) (.ref D) H2 ⟨D, .lst av, rfl, kD, kx, R4.pds fun x hx => List.mem_append_right _ (sb x hx), ?_⟩ q1
    exact iss_of_pd la fun x hx => R4.pd x (List.mem_append_left _ hx)
section
variable {X : Cx} {elt tg iter tg1 iter1 : Expr} {ifs ifs1 : List Expr} {scope : Scope} {own : List (Str × Nat)} {pos spos py : Pos} {y : Str} {ti ti1 : QTI} {g g1 : QTG} {tt tt1 : QTT} {te : QT} {sl sl1 : List Nat}
theorem qe_lc2 (hc : X.calm = true) (hN : X.N.Nodup) (ok : BlkOk X.N X.env.scope scope own) (hi : QI X tg iter ti) (hg : ∀ c, QG (blkX X scope c) tg sl g) (ht : ∀ c, QCs (blkX X scope c) ifs tt) (hi1 : ∀ c, QI0 (blkX X scope c) tg1 iter1 ti1) (hg1 : ∀ c, QG (blkX X scope c) tg1 sl1 g1) (ht1 : ∀ c, QCs (blkX X scope c) ifs1 tt1) (he : ∀ c, QE (blkX X scope c) elt te) {vs1 : List Nat}
    (hv : ∀ i ∈ vs1, i ∈ own.map (·.2) := by decide) (hs : ∀ i ∈ sl, i ∈ own.map (·.2) := by decide) (hs1 : ∀ i ∈ sl1, i ∈ vs1 := by decide) (hf : ∀ x, foldedSetIterable iter X.env x = pure x := by intro _; rfl) (hf1 : ∀ env x, foldedSetIterable iter1 env x = pure x := by intro _ _; rfl) {vs : List Nat} (hvs : vs = own.map (·.2) := by rfl) :
    QE X (.ListComp elt [⟨tg, iter, ifs, 0⟩, ⟨tg1, iter1, ifs1, 0⟩] scope pos) (qLc2 ti g tt ti1 g1 tt1 te vs vs1) := by
  subst hvs
  obtain ⟨wi, p1, q1⟩ := hi.ex
  obtain ⟨g1', p2, q2⟩ := QG.all (X := blkX X scope) (K := X.K) (fun _ => rfl) hg
  obtain ⟨t1, p3, q3⟩ := QCs.all (X := blkX X scope) (K := X.K) (fun _ => rfl) ht
  obtain ⟨e1, p4, q4⟩ := QE.all (X := blkX X scope) (K := X.K) (fun _ => rfl) he
  obtain ⟨w1, p5, q5⟩ := QI0.all (X := blkX X scope) (K := X.K) (fun _ => rfl) hi1
  obtain ⟨gg, p6, q6⟩ := QG.all (X := blkX X scope) (K := X.K) (fun _ => rfl) hg1
  obtain ⟨t2, p7, q7⟩ := QCs.all (X := blkX X scope) (K := X.K) (fun _ => rfl) ht1
  exact ⟨_, pe_lc2 hc hN p1 ok hv (fun s H C cl fp => p2 (s, H, C, cl, fp)) (fun s H C cl fp => p3 (s, H, C, cl, fp)) (fun s H C cl fp => p5 (s, H, C, cl, fp)) (fun s H C cl fp => p6 (s, H, C, cl, fp)) (fun s H C cl fp => p7 (s, H, C, cl, fp)) (fun s H C cl fp => p4 (s, H, C, cl, fp)) hf hf1, rz_lc2 q1 q2 q3 q5 q6 q7 q4 hs hs1⟩
theorem qs_setLc2 (i : Nat) (hc : X.calm = true) (hN : X.N.Nodup) (hsw : swapsWith (.ListComp elt [⟨tg, iter, ifs, 0⟩, ⟨tg1, iter1, ifs1, 0⟩] scope pos) (some (.Name y py)) spos.line X.env = pure true) (ok : BlkOk X.N X.env.scope scope own) (hi : QI X tg iter ti) (hg : ∀ c, QG (blkX X scope c) tg sl g) (ht : ∀ c, QCs (blkX X scope c) ifs tt) (hi1 : ∀ c, QI0 (blkX X scope c) tg1 iter1 ti1) (hg1 : ∀ c, QG (blkX X scope c) tg1 sl1 g1) (ht1 : ∀ c, QCs (blkX X scope c) ifs1 tt1) (he : ∀ c, QE (blkX X scope c) elt te) {vs1 : List Nat}
    (hv : ∀ i ∈ vs1, i ∈ own.map (·.2) := by decide) (hs : ∀ i ∈ sl, i ∈ own.map (·.2) := by decide) (hs1 : ∀ i ∈ sl1, i ∈ vs1 := by decide) (hy : X.N[i]? = some y := by rfl) (hyl : X.env.scope.names.lookup y = some .local := by rfl) (hf : ∀ x, foldedSetIterable iter X.env x = pure x := by intro _; rfl) (hf1 : ∀ env x, foldedSetIterable iter1 env x = pure x := by intro _ _; rfl) {vs : List Nat} (hvs : vs = own.map (·.2) := by rfl) :
    QS X (.Assign [.Name y py] (.ListComp elt [⟨tg, iter, ifs, 0⟩, ⟨tg1, iter1, ifs1, 0⟩] scope pos) spos) (qSet i (qLc2 ti g tt ti1 g1 tt1 te vs vs1)) := by
  subst hvs
  obtain ⟨wi, p1, q1⟩ := hi.ex
  obtain ⟨g1', p2, q2⟩ := QG.all (X := blkX X scope) (K := X.K) (fun _ => rfl) hg
  obtain ⟨t1, p3, q3⟩ := QCs.all (X := blkX X scope) (K := X.K) (fun _ => rfl) ht
  obtain ⟨e1, p4, q4⟩ := QE.all (X := blkX X scope) (K := X.K) (fun _ => rfl) he
  obtain ⟨w1, p5, q5⟩ := QI0.all (X := blkX X scope) (K := X.K) (fun _ => rfl) hi1
  obtain ⟨gg, p6, q6⟩ := QG.all (X := blkX X scope) (K := X.K) (fun _ => rfl) hg1
  obtain ⟨t2, p7, q7⟩ := QCs.all (X := blkX X scope) (K := X.K) (fun _ => rfl) ht1
  exact ⟨_, ps_setLc2 hc hN hy hyl hsw p1 ok hv (fun s H C cl fp => p2 (s, H, C, cl, fp)) (fun s H C cl fp => p3 (s, H, C, cl, fp)) (fun s H C cl fp => p5 (s, H, C, cl, fp)) (fun s H C cl fp => p6 (s, H, C, cl, fp)) (fun s H C cl fp => p7 (s, H, C, cl, fp)) (fun s H C cl fp => p4 (s, H, C, cl, fp)) hf hf1, rz_set (rz_lc2 q1 q2 q3 q5 q6 q7 q4 hs hs1)⟩
end
end Px
namespace Px
open PySem L2 PySem.Spec PyProof.Rows PySem.W
/-! ### <, > and sorted of data -/
def dOk (p q : PV) : Prop := eqOkW p ∧ eqOkW q ∧ alike (toD p) (toD q) = true ∧ isNon p = false
def ltX (p q : PV) : Bool := dataLt (toD p) (toD q)
def gLtX (p q : PV) (Q : R → Prop) : Prop := dOk p q ∧ Q (.pv (.bl (ltX p q)))
def gGtX (p q : PV) (Q : R → Prop) : Prop := dOk p q ∧ Q (.pv (.bl (ltX q p)))
theorem toD_none {p : PV} (h : isNon p = false) : toD p ≠ .none := by
  intro e
  cases p <;> first | (simp [isNon] at h; done) | (rw [toD] at e; cases e)
mutual
theorem depth_toD : ∀ {p : PV}, plain p = true → (toD p).depth = dep p
  | .non, _ => rfl
  | .bl _, _ => rfl
  | .int _, _ => rfl
  | .str _, _ => rfl
  | .tup ps, h => by rw [toD, PyData.depth, dep, depth_toDs (by rw [plain] at h; exact h)]
  | .lst ps, h => by rw [toD, PyData.depth, dep, depth_toDs (by rw [plain] at h; exact h)]
  | .dic _ _, h => by simp [plain] at h
  | .scr _, h => by simp [plain] at h
  | .ty _, h => by simp [plain] at h
theorem depth_toDs : ∀ {ps : List PV}, plains ps = true → PyData.depthAll (toDs ps) = deps ps
  | [], _ => rfl
  | p :: ps, h => by
    rw [plains, Bool.and_eq_true] at h
    rw [toDs, PyData.depthAll, deps, depth_toD h.1, depth_toDs h.2]
end
section
variable {X : Cx}
def rLtL (K : PySem.W.Frag) (gt : Bool) : R2 := fun x y H Q => ∃ d e, Dp K H x d ∧ Dp K H y e ∧ (d.canLay0 = true ∧ d.depth ≤ 190) ∧ alike d e = true ∧ d ≠ .none ∧ Q (.bl (if gt = true then dataLt e d else dataLt d e)) H
theorem op_ltL (hu : X.A.units + 190 < cLine) : OpR X (compareOp .Lt) (rLtL X.K false) := by
  intro pins s σ H x y v u Q I rx ry h
  obtain ⟨d, e, hd, he, sd, al, nn, q⟩ := h
  obtain ⟨as, r1⟩ := Dp.reads I d x v hd rx
  obtain ⟨bs, r2⟩ := Dp.reads I e y u he ry
  exact PySem.W.lt_data r1 r2 al nn (by have := Nat.min_le_left d.depth e.depth; have := sd.2; omega) ⟨.bl _, H, I, rfl, q⟩
theorem op_gtL (hu : X.A.units + 190 < cLine) : OpR X (compareOp .Gt) (rLtL X.K true) := by
  intro pins s σ H x y v u Q I rx ry h
  obtain ⟨d, e, hd, he, sd, al, nn, q⟩ := h
  obtain ⟨as, r1⟩ := Dp.reads I d x v hd rx
  obtain ⟨bs, r2⟩ := Dp.reads I e y u he ry
  exact PySem.W.gt_data r1 r2 al nn (by have := Nat.min_le_left d.depth e.depth; have := sd.2; omega) ⟨.bl _, H, I, rfl, q⟩
theorem op_ltX (hu : X.A.units + 190 < cLine) : OpP X (compareOp .Lt) gLtX := by
  refine ⟨_, op_ltL hu, fun H W p q x y Q F m l1 l2 z f => ?_⟩
  obtain ⟨⟨h1, h2, h3, h4⟩, h5⟩ := z
  obtain ⟨d1, c1, z1⟩ := lk_dp h1.1 l1
  obtain ⟨d2, c2, z2⟩ := lk_dp h2.1 l2
  exact ⟨_, _, d1, d2, ⟨c1, by rw [z1]; exact h1.2⟩, h3, toD_none h4, fin1 f (p := .bl _) rfl h5⟩
theorem op_gtX (hu : X.A.units + 190 < cLine) : OpP X (compareOp .Gt) gGtX := by
  refine ⟨_, op_gtL hu, fun H W p q x y Q F m l1 l2 z f => ?_⟩
  obtain ⟨⟨h1, h2, h3, h4⟩, h5⟩ := z
  obtain ⟨d1, c1, z1⟩ := lk_dp h1.1 l1
  obtain ⟨d2, c2, z2⟩ := lk_dp h2.1 l2
  exact ⟨_, _, d1, d2, ⟨c1, by rw [z1]; exact h1.2⟩, h3, toD_none h4, fin1 f (p := .bl _) rfl h5⟩
theorem room190 {k : Nat} {A : Around} (hr : Room k A) : A.units + 190 < cLine := by have := hr.un; omega
theorem room200 {k : Nat} {A : Around} (hr : Room k A) : A.units + 200 < cLine := by have := hr.un; omega
def leX : PV → PV → Bool := dataLe false toD
def gSortX (ps : List PV) (Q : R → Prop) : Prop := match ps with
  | [.lst ps] => (∀ p ∈ ps, eqOkW p ∧ ∃ x r, p = .tup (x :: r)) ∧ (∀ p ∈ ps, ∀ q ∈ ps, alike (toD p) (toD q) = true) ∧ small ps.length ∧ Q (.fr (.lst (ps.mergeSort leX)))
  | _ => False
def rSortX (K : PySem.W.Frag) : List V → Hp → VK → Prop := fun vs H Q => ∃ (a : Addr) (W : Addr → Prop) (ps : List PV) (xs : List V), vs = [.ref a] ∧ H a = some (.lst xs) ∧ Iss K H W ps xs ∧ (∀ p ∈ ps, eqOkW p ∧ ∃ x r, p = .tup (x :: r)) ∧ (∀ p ∈ ps, ∀ q ∈ ps, alike (toD p) (toD q) = true) ∧ small ps.length ∧
  ∀ zs d, Iss K H W (ps.mergeSort leX) zs → H d = none → Q (.ref d) (upd H d (.lst zs))
theorem each_of {K : PySem.W.Frag} {H : Hp} {W : Addr → Prop} : ∀ {ps : List PV} {xs : List V} {us : List Value}, Iss K H W ps xs → Vals xs us → EachIs (fun u p => ∃ x : V, RelV x u ∧ Is K H W p x) us ps
  | [], xs, us, i, v => by
    cases (show xs = [] from i)
    cases v
    exact .nil
  | p :: ps, xs, us, i, v => by
    obtain ⟨x, r, rfl, h1, h2⟩ := i
    cases v with
    | cons h t => exact .cons ⟨x, h, h1⟩ (each_of h2 t)
theorem each_back {K : PySem.W.Frag} {H : Hp} {W : Addr → Prop} : ∀ {us : List Value} {ps : List PV}, EachIs (fun u p => ∃ x : V, RelV x u ∧ Is K H W p x) us ps → ∃ xs, Vals xs us ∧ Iss K H W ps xs
  | [], [], _ => ⟨[], .nil, rfl⟩
  | u :: us, p :: ps, .cons ⟨x, h1, h2⟩ t => by
    obtain ⟨xs, h3, h4⟩ := each_back t
    exact ⟨x :: xs, .cons h1 h3, x, xs, rfl, h2, h4⟩
theorem each_mem {R R' : Value → PV → Prop} : ∀ {us : List Value} {ps : List PV}, EachIs R us ps → (∀ u p, p ∈ ps → R u p → R' u p) → EachIs R' us ps
  | [], [], .nil, _ => .nil
  | u :: us, p :: ps, .cons h t, f => .cons (f u p List.mem_cons_self h) (each_mem t fun u p hp => f u p (List.mem_cons_of_mem _ hp))
theorem cr_sortX (hu : X.A.units + 200 < cLine) : CallR X (.builtin "sorted") (rSortX X.K) := by
  intro pins s σ H vs us Q I r h
  obtain ⟨a, W, ps, xs, rfl, hs, iss, ht, hal, sm, q⟩ := h
  obtain ⟨its, rv, hl, hz⟩ := I.list (.inl (.inl hs))
  obtain ⟨u, rfl, ru⟩ := vals1 r
  obtain rfl : u = Value.ref a := ru
  have ea := each_of iss rv
  refine sorted_data (enc := toD) (bs := ps) hl.isList ea (each_mem ea fun u p hp ⟨x, h1, h2⟩ => ?_) ?_ ?_ sm (fun p hp => ?_) fun out lo eo => ?_
  · obtain ⟨d1, _, _⟩ := dp_of p x (ht p hp).1.1 h2
    exact Dp.reads I _ x u d1 h1
  · intro d hd d' hd'
    obtain ⟨p, hp, rfl⟩ := List.mem_map.mp hd
    obtain ⟨q, hq, rfl⟩ := List.mem_map.mp hd'
    exact hal p hp q hq
  · refine .inl fun d hd => ?_
    obtain ⟨p, hp, rfl⟩ := List.mem_map.mp hd
    obtain ⟨_, x, r, rfl⟩ := ht p hp
    exact ⟨toD x, toDs r, by rw [toD, toDs]⟩
  · have h1 := (ht p hp).1
    have : (toD p).depth = dep p := depth_toD h1.1
    rw [this]
    have := h1.2
    omega
  · obtain ⟨zs, vz, iz⟩ := each_back eo
    obtain ⟨n, hn⟩ := sortedAll_at s.heap its out.toArray
    have kp : ∀ b o, s.heap.get? b = some o → (sortedAll s.heap its out.toArray).get? b = some o := fun b o e => sortedAll_old e
    refine ⟨.ref (s.heap.objs.size + 1), upd H (s.heap.objs.size + 1) (.lst zs), I.laid (t' := s.toks) kp (Nat.le_succ _) ⟨?_, out, n, vz, hn⟩, rfl, q zs _ iz (I.hok.fresh (Nat.le_succ _))⟩
    rw [vz.length, lo]; exact sm
theorem call_sortX (hu : X.A.units + 200 < cLine) : CallP X (.builtin "sorted") gSortX := by
  refine ⟨_, cr_sortX hu, fun H W ps xs Q F m l g f => ?_⟩
  unfold gSortX at g
  split at g
  · rename_i ps
    obtain ⟨x, rfl, h⟩ := lks1 l
    obtain ⟨a, vs, e, r, i⟩ := h
    subst e
    obtain ⟨h1, h2, h3, h4⟩ := g
    exact ⟨a, W, ps, vs, rfl, r, i, h1, h2, h3, fun zs d iz hd => f _ _ _ (same_new hd) (resLst m iz hd) h4⟩
  · exact g.elim
end
end Px
namespace Px
open PySem L2 PyProof.Rows
/-! ### a call that looks at own things and gives a new object -/
section
variable {K : PySem.W.Frag} {G : Gd} {H H' : Hp} {σ : L2.St} {ρ : En} {pd : Pds} {S : FS} {vs : List V} {ps : List PV} {js bs : List Nat}
theorem callF_end {pd0 : Pds} {v : V} {r : PV} {outs : List PV} (R1 : RE K G H σ ρ pd) (sb : ∀ x ∈ pd0, x ∈ pd) (s : SplB σ ρ pd S.io vs ps js bs) (nd : js.Nodup) (dj : ∀ j ∈ bs, j ∉ js) (iob : ∀ b, Iob S.io vs b → WS G σ ρ b) (lo : outs.length = js.length) (hf : S.fr = true) (ir : immO r = true) (io : ∀ q ∈ outs, immO q = true)
    (fin : Fin K S H (fun b => WS G σ ρ b ∧ ¬ Iob S.io vs b ∧ ¬ Bo σ bs b) G.vo vs v H' r outs) : Res K G H' σ (putOuts js outs ρ) pd0 (.fr r) v := by
  have jo := s.js
  obtain ⟨p1, p2, p3⟩ := putOuts_spec (ρ := ρ) nd lo jo
  have A : Alike ρ (putOuts js outs ρ) := by
    refine ⟨p1, fun i => ?_⟩
    by_cases hi : i ∈ js
    · obtain ⟨k, lk, e⟩ := List.getElem_of_mem hi
      have lk' : k < outs.length := by rw [lo]; exact lk
      obtain ⟨b, p, h1, h2⟩ := p3 k i outs[k] (by rw [List.getElem?_eq_getElem lk, e]) (List.getElem?_eq_getElem lk')
      exact .inr ⟨b, p, _, h1, h2⟩
    · exact .inl (p2 i hi)
  -- an owned slot that is no argument: its object stands
  have stay : ∀ (i : Nat) (b : Bool) (q : PV) (a : Addr), i ∉ js → ρ[i]? = some (Sl.own b q) → σ[i]? = some (some (V.ref a)) → ¬ Iob S.io vs a := fun i b q a hi e1 e2 ⟨m, f1, f2⟩ => by
    obtain ⟨_, l2, _⟩ := s.len
    have lm : m < ps.length := by rw [l2]; exact (List.getElem?_eq_some_iff.mp f1).1
    obtain ⟨v', g1, _, g2⟩ := s.get f1 (List.getElem?_eq_getElem lm)
    obtain ⟨j, c, mj, g3, g4⟩ := g2 rfl
    rw [f2] at g1; cases g1
    exact hi (by rw [R1.inj i j b c q _ a e1 g3 e2 g4]; exact mj)
  have keepG : ∀ b o, G.keep b = some o → H' b = some o := fun b o e => by
    refine fin.keep b o (R1.keep b o e) (fun z => ?_) fun z => by rw [(R1.ext.vo b z).2.1] at e; cases e
    rcases iob b z with w | ⟨i, c, p, e1, e2⟩
    · obtain ⟨m, f1, f2⟩ := z
      obtain ⟨_, l2, _⟩ := s.len
      have lm : m < ps.length := by rw [l2]; exact (List.getElem?_eq_some_iff.mp f1).1
      obtain ⟨v', g1, _, g2⟩ := s.get f1 (List.getElem?_eq_getElem lm)
      obtain ⟨j, c, mj, g3, g4⟩ := g2 rfl
      rw [f2] at g1; cases g1
      obtain ⟨a, h1, h2, _⟩ := R1.own j c _ g3
      rw [g4] at h1; cases h1
      rw [h2] at e; cases e
    · obtain ⟨a, h1, h2, _⟩ := R1.own i c p e1
      rw [e2] at h1; cases h1
      rw [h2] at e; cases e
  obtain ⟨a, o, rfl, na, ea, w⟩ := fin.new hf
  have kn : G.keep a = none := by
    cases q : G.keep a with
    | none => rfl
    | some u => rw [R1.keep a u q] at na; cases na
  have R2 : RE K (G.add a o) (upd H a o) σ ρ pd := R1.add na (same_new na) upd_same w.mut
  have kp2 : ∀ b u, upd H a o b = some u → ¬ WS (G.add a o) σ ρ b → H' b = some u := fun b u e n => by
    have ne : b ≠ a := fun z => n (.inl (.inl z))
    rw [upd_ne ne] at e
    exact fin.keep b u e (fun z => n ((iob b z).elim (fun w => .inl (.inr w)) .inr)) fun z => n (.inl (.inr (R1.ext.vo b z).1))
  have hn : ∀ (i : Nat) (b : Bool) (c : Nat) (z : Int), (putOuts js outs ρ)[i]? = some (Sl.own b (.nst false c z)) → G.vo c := fun i b c z e1 => by
    by_cases hi : i ∈ js
    · obtain ⟨k, lk, e⟩ := List.getElem_of_mem hi
      have lk' : k < outs.length := by rw [lo]; exact lk
      have ek : js[k]? = some i := by rw [List.getElem?_eq_getElem lk, e]
      have eo : outs[k]? = some outs[k] := List.getElem?_eq_getElem lk'
      obtain ⟨b', p, h1, h2⟩ := p3 k i outs[k] ek eo
      rw [e1] at h2
      injection h2 with h2
      injection h2 with _ h3
      obtain ⟨m, v', g1, g2, g3, g4⟩ := s.io ek eo
      exact fin.nstk m c z (by rw [h3]; exact g4)
    · rw [p2 i hi] at e1
      exact R1.ext.nst i b c z e1
  have R3 : RE K (G.add a o) H' σ (putOuts js outs ρ) pd := by
    refine R2.swap A kp2 (fun b u e => ?_) (fun i b q c e1 e2 => ?_) fin.vok hn
    · have e' : upd G.keep a o b = some u := e
      by_cases z : b = a
      · rw [z] at e' ⊢; rw [upd_same] at e'; cases e'; exact ea
      · rw [upd_ne z] at e'; exact keepG b u e'
    · by_cases hi : i ∈ js
      · obtain ⟨k, lk, e⟩ := List.getElem_of_mem hi
        have lk' : k < outs.length := by rw [lo]; exact lk
        have ek : js[k]? = some i := by rw [List.getElem?_eq_getElem lk, e]
        have eo : outs[k]? = some outs[k] := List.getElem?_eq_getElem lk'
        obtain ⟨b', p, h1, h2⟩ := p3 k i outs[k] ek eo
        rw [e1] at h2; cases h2
        obtain ⟨m, v', g1, g2, g3, g4⟩ := s.io ek eo
        rw [e2] at g3; cases g3
        obtain ⟨u, ho, w'⟩ := fin.outs m _ c g4 g2
        exact ⟨u, ho, w'.immO (io _ (List.getElem_mem lk'))⟩
      · rw [p2 i hi] at e1
        obtain ⟨d, f1, f2, u, f3, w'⟩ := R2.own i b q e1
        rw [e2] at f1; cases f1
        have nd : c ≠ a := fun z => by
          obtain ⟨d', f1', _, u', f3', _⟩ := R1.own i b q e1
          rw [e2] at f1'; cases f1'
          rw [z, na] at f3'; cases f3'
        rw [upd_ne nd] at f3
        exact ⟨u, fin.keep c u f3 (stay i b q c hi e1 e2) (R1.ext.off i b q c e1 e2), w'.move kp2 R2.mut fun _ _ w => w⟩
  exact ⟨a, o, rfl, kn, R1.exk, R3.pds sb, w.immO ir⟩
end
def callRF (S : FS) (rs : List R) (ρ1 : En) (Q : PK1) (_ : Dum Q) : Prop := match splitB ρ1 S.io rs with
  | some (ps, js, bs) => (js.Nodup ∧ (∀ j ∈ bs, j ∉ js) ∧ S.fr = true) ∧ S.pre ps ∧ ∀ r outs, S.post ps r outs → outs.length = js.length → (immO r = true ∧ ∀ q ∈ outs, immO q = true) ∧ Q (.fr r) (putOuts js outs ρ1)
  | none => False
def qCallF (S : FS) (ta : QTA) (ρ : En) (Q : PK1) : Prop := ta ρ fun rs ρ1 => callRF S rs ρ1 Q .mk
section
variable {X : Cx} {k j : Nat} {x : Str} {ps : List Str} {S : FS} {e : Expr} {es : List Expr} {t : QTA} {p pos : Pos}
theorem rz_callF {K : PySem.W.Frag} {ta : TA} {E : XK} (q : RzA K ta t) : Rz K (tCall (spP K S) [] E ta) (qCallF S t) := by
  intro G H σ ρ pd Q F R1 h ff
  refine q G H σ ρ pd _ _ R1 h fun rs ρ1 pd1 vs H1 sb R2 ar g => ?_
  unfold callRF at g
  cases es : splitB ρ1 S.io rs with
  | none => rw [es] at g; exact g.elim
  | some z =>
    obtain ⟨pvs, js, bs⟩ := z
    rw [es] at g
    have s := splB_of ar es
    show spP K S (vs ++ []) H1 F E
    rw [List.append_nil]
    obtain ⟨⟨nd, dj, hf⟩, pre, post⟩ := g
    obtain ⟨R3, iob⟩ := callB_start R2 s nd dj
    obtain ⟨l1, l2, l3⟩ := s.len
    refine ⟨pvs, _, _, l2, l1, R3, pre, fun v H' r outs hp lo fin => ?_⟩
    obtain ⟨⟨ir, io⟩, hq⟩ := post r outs hp (lo.trans l3.symm)
    exact ff _ _ v H' (callF_end R2 sb s nd dj iob (lo.trans l3.symm) hf ir io fin) hq
theorem qe_callHF (h : Has X.prog X.w X.K X.mg X.base x j ps S) (hr : Room j X.A) (ha : QA X (e :: es) t) (hg : Gl X x := by rfl) (hdb : (x == ("__debug__" : Str)) = false := by decide)
    (he : starEach (e :: es) X.env = (false, eval e X.env) :: starEach es X.env := by rfl) (hpl : (backTo pos (starEach es X.env)).any (·.1) = false := by rfl) : QE X (.Call (.Name x p) (e :: es) [] pos) (qCallF S t) := by
  obtain ⟨f, fd, F, m, kk, b, _⟩ := h.ex
  obtain ⟨ta, p1, q⟩ := ha.ex
  exact ⟨_, pe_call F hr hg m kk b .nil pass0 p1 hdb he hpl, rz_callF q⟩
end
end Px
namespace Px
open PySem L2 PyProof.Rows
/-! ### a list within an own list, reached by two ways -/
theorem iss_ints {K : PySem.W.Frag} {H : Hp} {W : Addr → Prop} : ∀ {ns : List Int} {vs : List V}, Iss K H W (ns.map PV.int) vs → vs = ns.map V.int
  | [], _, h => h
  | n :: ns, vs, h => by
    obtain ⟨v, r, rfl, h1, h2⟩ := h
    cases (show v = .int n from h1)
    rw [iss_ints h2]; rfl
/-- state[1] -/
def gIxN : G2
  | .nst _ _ s, .int i, Q => i = 1 ∧ Q (.pv (.int s))
  | _, _, _ => False
section
variable {X : Cx}
theorem ix_N : IxP X gIxN := by
  refine ⟨_, ix_list, fun H W p q x y Q F m l1 l2 z f => ?_⟩
  cases p with
  | nst t c s =>
    cases q with
    | int i =>
      obtain ⟨rfl, z⟩ : i = 1 ∧ Q (.pv (.int s)) := z
      cases (show y = _ from l2)
      obtain ⟨a, e, r⟩ := l1
      subst e
      exact ⟨a, _, 1, .int s, rfl, rfl, .inl (.inl r), atI_1, fin1 f (p := .int s) rfl z⟩
    | _ => exact z.elim
  | _ => cases q <;> exact z.elim
/-- xs.pop(0) -/
def gPop0 (p : PV) (ps : List PV) (Q : PV → PV → Prop) : Prop := match p, ps with
  | .lst (x :: xs), [.int i] => i = 0 ∧ Q x (.lst xs)
  | _, _ => False
theorem gPop0_inv {p : PV} {ps : List PV} {Q : PV → PV → Prop} (g : gPop0 p ps Q) : ∃ x xs, p = .lst (x :: xs) ∧ ps = [.int 0] ∧ Q x (.lst xs) := by
  unfold gPop0 at g
  split at g
  · obtain ⟨rfl, g⟩ := g; exact ⟨_, _, rfl, rfl, g⟩
  · exact g.elim
theorem m_pop0 : MtP X "list" "list.pop" gPop0 := by
  refine ⟨_, mt_popAt, fun H W p a o ps xs Q F m wa e w i g f => ?_⟩
  obtain ⟨q, qs, rfl, rfl, g'⟩ := gPop0_inv g
  obtain ⟨vs, rfl, w⟩ := w.lst
  obtain ⟨v, rfl, h1⟩ := i.one
  cases (show v = .int 0 from h1)
  obtain ⟨u, us, rfl, h2, h3⟩ := w
  exact ⟨a, _, 0, 0, u, rfl, rfl, e, by decide, by decide, by simp [seqIndex?], rfl, f u (.lst us) q (.lst qs) h3 h2 g'⟩
/-- state[1] = e -/
def qSetSeed (i : Nat) (t : QT) (D : PEnds) (ρ : En) : Prop := t ρ fun r ρ1 => match r with
  | .pv (.int m) => match ρ1[i]? with
    | some (Sl.own b (.nst tk c _)) => D.nx (ρ1.set i (.own b (.nst tk c m)))
    | _ => False
  | _ => False
theorem qs_setSeed {x : Str} {e : Expr} {te : QT} {j : Nat} {npos ipos spos' pos : Pos} (i : Nat) (he : QE X e te) (hN : X.N[i]? = some x := by rfl) (hv : Vis X.env.scope x := by first | exact Or.inl rfl | exact Or.inr (Or.inl rfl) | exact Or.inr (Or.inr rfl)) (hd : (x == ("__debug__" : Str)) = false := by decide)
    (hcd : (x == ("__classdict__" : Str)) = false := by decide)
    (ha : ∀ v, assign (.Subscript (.Name x npos) (.Constant (.int 1) j ipos) spos') X.env v = (do
      let ov ← holding [v] (eval (.Name x npos) X.env)
      let iv ← holding [v, ov] (eval (.Constant (.int 1) j ipos) X.env)
      standAt spos'
      holding [v, ov, iv] (setItem ov iv v)
      release [v, ov, iv] []) := by intro _; rfl)
    (hs : swapsWithSole [.Subscript (.Name x npos) (.Constant (.int 1) j ipos) spos'] e pos.line X.env = pure false := by rfl) (hw : swappedStores [.Subscript (.Name x npos) (.Constant (.int 1) j ipos) spos'] e X.env = pure none := by rfl)
    (h1 : (assignEach [.Subscript (.Name x npos) (.Constant (.int 1) j ipos) spos'] X.env).map (·.2) = [assign (.Subscript (.Name x npos) (.Constant (.int 1) j ipos) spos') X.env] := by rfl) :
    QS X (.Assign [.Subscript (.Name x npos) (.Constant (.int 1) j ipos) spos'] e pos) (qSetSeed i te) := by
  obtain ⟨t, p, q⟩ := he.ex
  refine ⟨_, ps_asg p (pg_sub (pe_var hN hv hd hcd) pe_int set_list ha) hs hw h1, fun G H σ ρ pd D' D R1 h ee => ?_⟩
  refine q G H σ ρ pd _ _ R1 h fun r ρ1 v H1 s g => ?_
  cases r with
  | sl j => exact g.elim
  | fr p => exact g.elim
  | pv qv =>
    cases qv with
    | int m =>
      have ev : v = .int m := s.pd (.int m, v) List.mem_cons_self
      subst ev
      have R2 : RE X.K G H1 σ ρ1 pd := s.re
      cases es : ρ1[i]? with
      | none => rw [es] at g; exact g.elim
      | some sv =>
        rw [es] at g
        cases sv with
        | own b pp =>
          cases pp with
          | nst tk c z =>
            obtain ⟨a, ea, k0, o, Hc, w⟩ := R2.own i b _ es
            refine ⟨.ref a, ea, ?_⟩
            cases o with
            | lst vs =>
              have w' : vs = [.ref c, .int z] := w
              subst w'
              refine ⟨a, _, 1, 1, rfl, rfl, Hc, rfl, ?_⟩
              exact ee.nx _ _ _ (R2.mutate es ea (o' := .lst [.ref c, .int m]) (p' := .nst tk c m) rfl fun c' s' z2 => by
                cases z2; exact R2.ext.nst i b c z es) g
            | _ => exact w.elim
          | _ => exact g.elim
        | _ => exact g.elim
    | _ => exact g.elim
end
def isN : Sl → Bool
  | .own _ (.nst false _ _) => true
  | _ => false
def Gd.tk (G : Gd) (k : Nat) (c : Addr) : Gd := ⟨G.keep, fun b => G.ex b ∧ b ≠ c, fun j a => G.io j a ∨ (j = k ∧ a = c), fun b => G.vo b ∧ b ≠ c⟩
def tkBack (i k c : Nat) (ρ : En) (Q : En → Prop) : Prop := match ρ[i]?, ρ[k]? with
  | some (Sl.own b (.nst true c' s)), some (Sl.own true (.lst ps)) => c' = c ∧ (∃ ns : List Int, ps = ns.map PV.int ∧ ∀ n ∈ ns, 0 ≤ n) ∧ Q ((ρ.set i (.own b (.nst false c s))).set k .un)
  | _, _ => False
def tkRt (i k c : Nat) (D : PEnds) (r : R) (ρ : En) : Prop := match r with
  | .pv p => tkBack i k c ρ (D.rt (.pv p))
  | _ => False
def tkEnds (i k c : Nat) (D : PEnds) : PEnds := ⟨fun ρ => tkBack i k c ρ D.nx, tkRt i k c D, fun ρ => tkBack i k c ρ D.bk, fun ρ => tkBack i k c ρ D.ct⟩
/-- cells = state[0], ahead of t -/
def qTake (i k : Nat) (t : QTS) (D : PEnds) (ρ : En) : Prop := match ρ[i]? with
  | some (Sl.own b (.nst false c s)) => (i ≠ k ∧ k < ρ.length ∧ notIo ρ k = true ∧ (ρ.set i .un).any isN = false) ∧ ∀ ns : List Int, (∀ n ∈ ns, 0 ≤ n) → t (tkEnds i k c D) ((ρ.set i (.own b (.nst true c s))).set k (.own true (.lst (ns.map PV.int))))
  | _ => False
section
variable {K : PySem.W.Frag} {G : Gd} {H : Hp} {σ : L2.St} {ρ : En} {pd : Pds} {i k c : Nat} {b : Bool} {s : Int}
theorem ix2 {α : Type} {l : List α} {i k j : Nat} {x y z : α} (h : ((l.set i x).set k y)[j]? = some z) : (j = k ∧ z = y) ∨ (j ≠ k ∧ j = i ∧ z = x) ∨ (j ≠ k ∧ j ≠ i ∧ l[j]? = some z) := by
  rcases ix_set h with ⟨rfl, e, _⟩ | ⟨n, h⟩
  · exact .inl ⟨rfl, e⟩
  · rcases ix_set h with ⟨rfl, e, _⟩ | ⟨n2, h⟩
    · exact .inr (.inl ⟨fun z => n z.symm, rfl, e⟩)
    · exact .inr (.inr ⟨fun z => n z.symm, fun z => n2 z.symm, h⟩)
theorem RE.noio (R : RE K G H σ ρ pd) (nk : notIo ρ k = true) : ∀ a, ¬ G.io k a := fun a h => R.io_ne nk k a h rfl
theorem RE.take (R : RE K G H σ ρ pd) (ei : ρ[i]? = some (Sl.own b (.nst false c s))) (ne : i ≠ k) (lk : k < ρ.length) (nk : notIo ρ k = true) (nn : (ρ.set i .un).any isN = false) {ns : List Int} (hc : H c = some (.lst (ns.map V.int))) :
    RE K (G.tk k c) H (σ.set k (some (.ref c))) ((ρ.set i (.own b (.nst true c s))).set k (.own true (.lst (ns.map PV.int)))) pd := by
  have lσ : k < σ.length := by rw [← R.len]; exact lk
  have vc : G.vo c := R.ext.nst i b c s ei
  obtain ⟨xc, kc, _⟩ := R.ext.vo c vc
  have sk : (σ.set k (some (V.ref c)))[k]? = some (some (.ref c)) := List.getElem?_set_self lσ
  have own1 : ∀ {j : Nat} {d : Bool} {p : PV} {a : Addr}, ((ρ.set i (.own b (.nst true c s))).set k (.own true (.lst (ns.map PV.int))))[j]? = some (Sl.own d p) → (σ.set k (some (V.ref c)))[j]? = some (some (V.ref a)) → (j = k ∧ a = c) ∨ (j ≠ k ∧ σ[j]? = some (some (V.ref a)) ∧ ∃ q, ρ[j]? = some (Sl.own d q)) := fun {j d p a} e1 e2 => by
    rcases ix2 e1 with ⟨rfl, _⟩ | ⟨n, rfl, z⟩ | ⟨n, _, e⟩
    · rw [sk] at e2; cases e2; exact .inl ⟨rfl, rfl⟩
    · cases z; rw [ix_ne n.symm] at e2; exact .inr ⟨n, e2, _, ei⟩
    · rw [ix_ne n.symm] at e2; exact .inr ⟨n, e2, _, e⟩
  have sub : ∀ a, WS (G.tk k c) (σ.set k (some (.ref c))) ((ρ.set i (.own b (.nst true c s))).set k (.own true (.lst (ns.map PV.int)))) a → WS G σ ρ a := fun a w => by
    rcases w with w | ⟨j, d, p, e1, e2⟩
    · exact .inl w.1
    · rcases own1 e1 e2 with ⟨_, rfl⟩ | ⟨_, e2, q, e⟩
      · exact .inl xc
      · exact .inr ⟨j, d, q, e, e2⟩
  refine ⟨by simp [R.len], fun j p e => ?_, fun j d p e => ?_, fun j m d f p q a e1 e2 e3 e4 => ?_, fun j a h => ?_, R.keep, fun a h nv => ?_, fun x hx => Is.anti sub _ _ (R.pd x hx), ⟨fun a h => ?_, fun j d p a e1 e2 => ?_, fun j d c' s' e1 => ?_⟩⟩
  · rcases ix2 e with ⟨_, z⟩ | ⟨_, _, z⟩ | ⟨n, _, e⟩
    · cases z
    · cases z
    · obtain ⟨v, e1, h⟩ := R.val j p e
      exact ⟨v, by rw [ix_ne n.symm]; exact e1, Is.anti sub _ _ h⟩
  · rcases ix2 e with ⟨rfl, z⟩ | ⟨n, rfl, z⟩ | ⟨n, _, e⟩
    · cases z
      exact ⟨c, sk, kc, _, hc, Iss.ints ns⟩
    · cases z
      obtain ⟨a, e1, k1, o, e2, w⟩ := R.own j b _ ei
      refine ⟨a, by rw [ix_ne n.symm]; exact e1, k1, o, e2, ?_⟩
      cases o with
      | lst vs => exact w
      | _ => exact w.elim
    · obtain ⟨a, e1, k1, o, e2, w⟩ := R.own j d p e
      exact ⟨a, by rw [ix_ne n.symm]; exact e1, k1, o, e2, w.anti sub⟩
  · rcases own1 e1 e3 with ⟨rfl, rfl⟩ | ⟨n1, f3, q1, g1⟩
    · rcases own1 e2 e4 with ⟨rfl, _⟩ | ⟨n2, f4, q2, g2⟩
      · rfl
      · exact absurd vc (R.ext.off m f q2 _ g2 f4)
    · rcases own1 e2 e4 with ⟨rfl, rfl⟩ | ⟨n2, f4, q2, g2⟩
      · exact absurd vc (R.ext.off j d q1 _ g1 f3)
      · exact R.inj j m d f q1 q2 a g1 g2 f3 f4
  · rcases h with h | ⟨rfl, rfl⟩
    · obtain ⟨e, p, e1⟩ := R.io j a h
      have nj : k ≠ j := fun z => R.noio nk a (by rw [z]; exact h)
      refine ⟨by rw [ix_ne nj]; exact e, ?_⟩
      by_cases z : i = j
      · subst z
        rw [ei] at e1; cases e1
        exact ⟨_, by rw [ix_ne nj, List.getElem?_set_self (List.getElem?_eq_some_iff.mp ei).1]⟩
      · exact ⟨p, by rw [ix_ne nj, ix_ne z]; exact e1⟩
    · exact ⟨sk, _, List.getElem?_set_self (by simp; exact lk)⟩
  · exact R.exk a h.1 fun z => nv ⟨z, h.2⟩
  · obtain ⟨h1, h2, h3⟩ := R.ext.vo a h.1
    exact ⟨⟨h1, h.2⟩, h2, h3⟩
  · rcases own1 e1 e2 with ⟨rfl, rfl⟩ | ⟨n1, f3, q1, g1⟩
    · exact fun z => z.2 rfl
    · exact fun z => R.ext.off j d q1 a g1 f3 z.1
  · rcases ix2 e1 with ⟨_, z⟩ | ⟨_, _, z⟩ | ⟨n, n2, e⟩
    · cases z
    · cases z
    · exfalso
      have m : Sl.own d (.nst false c' s') ∈ ρ.set i .un := List.mem_of_getElem? (i := j) (by rw [ix_ne n2.symm]; exact e)
      have z := List.any_eq_false.mp nn _ m
      exact z rfl
theorem RE.back (R0 : ∀ a, ¬ G.io k a) (vc : G.vo c) (xc : G.ex c) (kc : G.keep c = none) (R : RE K (G.tk k c) H σ ρ pd) {ns : List Int} (ei : ρ[i]? = some (Sl.own b (.nst true c s))) (ek : ρ[k]? = some (Sl.own true (.lst (ns.map PV.int)))) (nns : ∀ n ∈ ns, 0 ≤ n) :
    RE K G H σ ((ρ.set i (.own b (.nst false c s))).set k .un) pd := by
  have ne : i ≠ k := fun z => by rw [z, ek] at ei; cases ei
  obtain ⟨sk, _⟩ := R.io k c (.inr ⟨rfl, rfl⟩)
  have own1 : ∀ {j : Nat} {d : Bool} {p : PV}, ((ρ.set i (.own b (.nst false c s))).set k .un)[j]? = some (Sl.own d p) → j ≠ k ∧ ∃ q, ρ[j]? = some (Sl.own d q) := fun {j d p} e1 => by
    rcases ix2 e1 with ⟨_, z⟩ | ⟨n, rfl, z⟩ | ⟨n, _, e⟩
    · cases z
    · cases z; exact ⟨n, _, ei⟩
    · exact ⟨n, _, e⟩
  have sub : ∀ a, WS G σ ((ρ.set i (.own b (.nst false c s))).set k .un) a → WS (G.tk k c) σ ρ a := fun a w => by
    rcases w with w | ⟨j, d, p, e1, e2⟩
    · by_cases z : a = c
      · rw [z]; exact .inr ⟨k, true, _, ek, sk⟩
      · exact .inl ⟨w, z⟩
    · obtain ⟨_, q, e⟩ := own1 e1
      exact .inr ⟨j, d, q, e, e2⟩
  have hints : IntsAt H c := by
    obtain ⟨a, e1, _, o, e2, w⟩ := R.own k true _ ek
    rw [sk] at e1; cases e1
    obtain ⟨vs, rfl, w⟩ := w.lst
    rw [iss_ints w] at e2
    exact ⟨ns, e2, nns⟩
  refine ⟨by simp [R.len], fun j p e => ?_, fun j d p e => ?_, fun j m d f p q a e1 e2 e3 e4 => ?_, fun j a h => ?_, R.keep, fun a h nv => ?_, fun x hx => Is.anti sub _ _ (R.pd x hx), ⟨fun a h => ?_, fun j d p a e1 e2 => ?_, fun j d c' s' e1 => ?_⟩⟩
  · rcases ix2 e with ⟨_, z⟩ | ⟨_, _, z⟩ | ⟨n, _, e⟩
    · cases z
    · cases z
    · obtain ⟨v, e1, h⟩ := R.val j p e
      exact ⟨v, e1, Is.anti sub _ _ h⟩
  · rcases ix2 e with ⟨_, z⟩ | ⟨n, rfl, z⟩ | ⟨n, _, e⟩
    · cases z
    · cases z
      obtain ⟨a, e1, k1, o, e2, w⟩ := R.own j b _ ei
      refine ⟨a, e1, k1, o, e2, ?_⟩
      cases o with
      | lst vs => exact w
      | _ => exact w.elim
    · obtain ⟨a, e1, k1, o, e2, w⟩ := R.own j d p e
      exact ⟨a, e1, k1, o, e2, w.anti sub⟩
  · obtain ⟨_, q1, g1⟩ := own1 e1
    obtain ⟨_, q2, g2⟩ := own1 e2
    exact R.inj j m d f q1 q2 a g1 g2 e3 e4
  · obtain ⟨e, p, e1⟩ := R.io j a (.inl h)
    have nj : k ≠ j := fun z => R0 a (by rw [z]; exact h)
    refine ⟨e, ?_⟩
    by_cases z : i = j
    · subst z
      rw [ei] at e1; cases e1
      exact ⟨_, by rw [ix_ne nj, List.getElem?_set_self (List.getElem?_eq_some_iff.mp ei).1]⟩
    · exact ⟨p, by rw [ix_ne nj, ix_ne z]; exact e1⟩
  · have nc : a ≠ c := fun z => nv (by rw [z]; exact vc)
    exact R.exk a ⟨h, nc⟩ fun z => nv z.1
  · by_cases z : a = c
    · rw [z]; exact ⟨xc, kc, hints⟩
    · obtain ⟨h1, h2, h3⟩ := R.ext.vo a ⟨h, z⟩
      exact ⟨h1.1, h2, h3⟩
  · intro h
    obtain ⟨n, q, g⟩ := own1 e1
    by_cases z : a = c
    · subst z
      exact n (R.inj j k d true q _ a g ek e2 sk)
    · exact R.ext.off j d q a g e2 ⟨h, z⟩
  · rcases ix2 e1 with ⟨_, z⟩ | ⟨_, _, z⟩ | ⟨n, n2, e⟩
    · cases z
    · cases z; exact vc
    · exact (R.ext.nst j d c' s' e).1
theorem tkBack_inv {Q : En → Prop} (h : tkBack i k c ρ Q) : ∃ (b : Bool) (s : Int) (ns : List Int), ρ[i]? = some (Sl.own b (.nst true c s)) ∧ ρ[k]? = some (Sl.own true (.lst (ns.map PV.int))) ∧ (∀ n ∈ ns, 0 ≤ n) ∧ Q ((ρ.set i (.own b (.nst false c s))).set k .un) := by
  unfold tkBack at h
  split at h
  · rename_i b c' s ps e1 e2
    obtain ⟨rfl, ⟨ns, rfl, nn⟩, q⟩ := h
    exact ⟨b, s, ns, e1, e2, nn, q⟩
  · exact h.elim
end
section
variable {X : Cx} {rest : List Stmt} {t : QTS} {x y : Str} {j : Nat} {npos ipos xpos pos pos' : Pos}
theorem qss_take (i k : Nat) (hN : X.N.Nodup) (ht : QSs X rest t) (hx : X.N[i]? = some x := by rfl) (hv : Vis X.env.scope x := by first | exact Or.inl rfl | exact Or.inr (Or.inl rfl) | exact Or.inr (Or.inr rfl)) (hd : (x == ("__debug__" : Str)) = false := by decide) (hcd : (x == ("__classdict__" : Str)) = false := by decide)
    (hp : PlainIx (.Constant (.int 0) j ipos) := by intro _ _; rfl)
    (hk : X.N[k]? = some y := by rfl) (hl : Loc X.env.scope y := by first | exact Or.inl rfl | exact Or.inr rfl) (hs : swapsWith (.Subscript (.Name x npos) (.Constant (.int 0) j ipos) xpos) (some (.Name y pos')) pos.line X.env = pure false := by rfl) (hf : X.fn y = true ∨ X.env.scope.names.lookup y = some .local := by first | exact .inl rfl | exact .inr rfl) :
    QSs X (.Assign [.Name y pos'] (.Subscript (.Name x npos) (.Constant (.int 0) j ipos) xpos) pos :: rest) (qTake i k t) := by
  obtain ⟨t1, p1, q1⟩ := ht.ex
  refine ⟨_, pss_cons (ps_set hN hk hl (pe_ix ix_list (pe_var hx hv hd hcd) pe_int hp) hs hf) p1, fun G H σ ρ pd D' D R1 h e => ?_⟩
  unfold qTake at h
  split at h
  · rename_i b c s ei
    obtain ⟨⟨ne, lk, nk, nn⟩, h⟩ := h
    obtain ⟨a, ea, _, o, ho, w⟩ := R1.own i b _ ei
    cases o with
    | lst vs =>
      have w' : vs = [.ref c, .int s] := w
      subst w'
      have vc := R1.ext.nst i b c s ei
      obtain ⟨xc, kc, ns, hc, nns⟩ := R1.ext.vo c vc
      have R0 := R1.noio nk
      refine ⟨.ref a, ea, a, _, 0, .ref c, rfl, rfl, .inl (.inl ho), atI_0, ?_⟩
      refine q1 (G.tk k c) H _ _ pd (tkEnds i k c D') D (R1.take ei ne lk nk nn hc) (h ns nns) ⟨fun σ' ρ' H' R2 g => ?_, fun r v σ' ρ' H' s' g => ?_, fun σ' ρ' H' R2 g => ?_, fun σ' ρ' H' R2 g => ?_⟩
      · obtain ⟨b', s', ns', e1, e2, e3, q⟩ := tkBack_inv g
        exact e.nx _ _ _ (R2.back R0 vc xc kc e1 e2 e3) q
      · cases r with
        | pv p =>
          obtain ⟨b', s2, ns', e1, e2, e3, q⟩ := tkBack_inv g
          exact e.rt (.pv p) v _ _ _ (RE.back R0 vc xc kc s' e1 e2 e3) q
        | _ => exact g.elim
      · obtain ⟨b', s', ns', e1, e2, e3, q⟩ := tkBack_inv g
        exact e.bk _ _ _ (R2.back R0 vc xc kc e1 e2 e3) q
      · obtain ⟨b', s', ns', e1, e2, e3, q⟩ := tkBack_inv g
        exact e.ct _ _ _ (R2.back R0 vc xc kc e1 e2 e3) q
    | _ => exact w.elim
  · exact h.elim
end
end Px
namespace Px
open PySem L2 PyProof.Rows
/-! ### a law whose first row makes its state -/
def sState : FS := { io := [false], fr := true, pre := fun ps => ∃ ns : List Int, ps = [.scr ns] ∧ ns.length ≤ 63, post := fun _ r _ => ∃ (ns : List Int) (s : Int), r = .lst [.lst (ns.map PV.int), .int s] ∧ ∀ n ∈ ns, 0 ≤ n }
def spLaw (K : PySem.W.Frag) : Sp := fun vs H Q _ => ∃ (a : Addr) (ns : List Int), vs = [.ref a] ∧ ns.length ≤ 63 ∧ Only H ∧ SqL K H a (ns.map V.int) ∧ ∀ H', Q (.bl true) H'
structure HasL (P : Program) (w : World) (K : PySem.W.Frag) (mg : Str → Option Value) (base : Heap) (x : Str) (k : Nat) (ps : List Str) : Prop where
  ex : ∃ f fd, FnOk P w K mg base CX0 k f fd ps (spLaw K) ∧ mg x = some (.ref f) ∧ PySem.W.keepIn K (.ref f) = true ∧ Binds K fd ps [] ∧ ∃ (y : Str) (o : Option Addr) (c : Value) (sl : Array (Option Value)), K.lookup f = some ⟨c, o, .func fd, sl⟩
theorem lawL_sp {K : PySem.W.Frag} {H : Hp} {a : Addr} {ns : List Int} {E : XK} (hl : ns.length ≤ 63) (ho : Only H) (hs : SqL K H a (ns.map V.int)) : spLaw K [.ref a] H (fun v _ => v = .bl true) E := ⟨a, ns, rfl, hl, ho, hs, fun _ => rfl⟩
theorem law_re {K : PySem.W.Frag} {H : Hp} {a : Addr} {ns : List Int} (ho : Only H) (hs : SqL K H a (ns.map V.int)) : RE K (G0 H [false] [.ref a] (fun _ => False) (fun _ => False)) H [some (.ref a)] [.val (.scr ns)] [] := by
  have hi : (∃ o, H a = some (.frz o (.lst (ns.map V.int)))) ∨ KLst K a (ns.map V.int) := by
    rcases hs with (h | ⟨o, h⟩) | h
    · rcases ho a with z | ⟨o, xs, z⟩
      · rw [z] at h; cases h
      · rw [z] at h; cases h
    · exact .inl ⟨o, h⟩
    · exact .inr h
  have nio : ∀ b, ¬ Iob [false] [V.ref a] b := fun b ⟨i, e, _⟩ => by
    cases i with
    | zero => simp at e
    | succ i => simp at e
  have nown : ∀ (i : Nat) (b : Bool) (p : PV), ([Sl.val (PV.scr ns)] : En)[i]? ≠ some (Sl.own b p) := fun i b p e => by
    cases i with
    | zero => simp at e
    | succ i => simp at e
  refine ⟨rfl, fun i p e => ?_, fun i b p e => absurd e (nown i b p), fun i j b c p q d e1 => absurd e1 (nown i b p), fun i b h => ?_, fun b o e => (G0_of e).2.2, fun b h => h.elim, fun x hx => by simp at hx, ⟨fun b h => h.elim, fun i b p a _ _ h => h.elim, fun i b c s e => absurd e (nown i b _)⟩⟩
  · cases i with
    | zero => simp at e; cases e; exact ⟨.ref a, rfl, a, rfl, hi⟩
    | succ i => simp at e
  · cases i with
    | zero => have := h.1; simp at this
    | succ i => have := h.1; simp at this
def immS : Sl → Bool
  | .un => true
  | .val p => imm p
  | _ => false
def endsLaw : PEnds := { nx := fun _ => False, rt := fun r _ => r = .pv (.bl true) }
def stGo (i : Nat) (t : QTS) (ρ : En) : Prop := match ρ[i]? with
  | some (Sl.own false (.lst [.lst ps, .int s])) => (∃ ns : List Int, ps = ns.map PV.int ∧ ∀ n ∈ ns, 0 ≤ n) ∧ (ρ.set i .un).all immS = true ∧ ∀ c, t endsLaw (ρ.set i (.own false (.nst false c s)))
  | _ => False
def stEnds (i : Nat) (t : QTS) : PEnds := { nx := stGo i t, rt := fun _ _ => False }
/-- a list of its own, new with what holds it -/
theorem RE.nest {K : PySem.W.Frag} {H0 H : Hp} {vs : List V} {σ : L2.St} {ρ : En} {i : Nat} {ns : List Int} {s : Int} (ho : Only H0) (R : RE K (G0 H0 [false] vs (fun _ => False) (fun _ => False)) H σ ρ []) (ei : ρ[i]? = some (Sl.own false (.lst [.lst (ns.map PV.int), .int s]))) (nn : ∀ n ∈ ns, 0 ≤ n) (al : (ρ.set i .un).all immS = true) :
    ∃ (c : Nat) (G : Gd), RE K G H σ (ρ.set i (.own false (.nst false c s))) [] := by
  obtain ⟨a, ea, ka, o, Ha, w⟩ := R.own i false _ ei
  obtain ⟨us, rfl, w⟩ := w.lst
  obtain ⟨v1, r1, rfl, h1, v2, r2, rfl, h2, h3⟩ := w
  cases (show r2 = [] from h3)
  cases (show v2 = .int s from h2)
  obtain ⟨c, xs, rfl, nc, hc, ix⟩ : ∃ c xs, v1 = .ref c ∧ ¬ WS _ σ ρ c ∧ H c = some (.lst xs) ∧ Iss K H _ (ns.map PV.int) xs := h1
  rw [iss_ints ix] at hc
  have kc : (G0 H0 [false] vs (fun _ => False) (fun _ => False)).keep c = none := by
    cases e : (G0 H0 [false] vs (fun _ => False) (fun _ => False)).keep c with
    | none => rfl
    | some u =>
      have h4 := R.keep c u e
      rw [hc] at h4; cases h4
      rcases ho c with z | ⟨o, xs, z⟩
      · rw [(G0_of e).2.2] at z; cases z
      · rw [(G0_of e).2.2] at z; cases z
  have im : ∀ (j : Nat) (x : Sl), j ≠ i → ρ[j]? = some x → immS x = true := fun j x ne e => List.all_eq_true.mp al x (List.mem_of_getElem? (i := j) (by rw [ix_ne ne.symm]; exact e))
  have ca : a ≠ c := fun z => nc (by rw [← z]; exact .inr ⟨i, false, _, ei, ea⟩)
  have own1 : ∀ {j : Nat} {d : Bool} {p : PV}, (ρ.set i (.own false (.nst false c s)))[j]? = some (Sl.own d p) → j = i ∧ d = false ∧ p = .nst false c s := fun {j d p} e => by
    rcases ix_set e with ⟨rfl, z, _⟩ | ⟨ne, e⟩
    · cases z; exact ⟨rfl, rfl, rfl⟩
    · have := im j _ (fun z => ne z.symm) e; cases this
  refine ⟨c, ⟨(G0 H0 [false] vs (fun _ => False) (fun _ => False)).keep, fun b => b = c, fun _ _ => False, fun b => b = c⟩, by simp [R.len], fun j p e => ?_, fun j d p e => ?_, fun j m d f p q b e1 e2 e3 e4 => ?_, fun j b h => h.elim, R.keep, fun b h nv => absurd h nv, fun x hx => by simp at hx, ⟨fun b h => ?_, fun j d p b e1 e2 => ?_, fun j d c' s' e1 => ?_⟩⟩
  · rcases ix_set e with ⟨_, z, _⟩ | ⟨ne, e⟩
    · cases z
    · obtain ⟨v, e1, h⟩ := R.val j p e
      exact ⟨v, e1, Is.imm _ _ (im j _ (fun z => ne z.symm) e) h⟩
  · obtain ⟨rfl, rfl, rfl⟩ := own1 e
    exact ⟨a, ea, ka, _, Ha, rfl⟩
  · rw [(own1 e1).1, (own1 e2).1]
  · rw [show b = c from h]
    exact ⟨rfl, kc, ns, hc, nn⟩
  · obtain ⟨rfl, _, _⟩ := own1 e1
    rw [ea] at e2; cases e2
    exact ca
  · obtain ⟨_, _, z⟩ := own1 e1
    cases z; rfl
section
variable {P : Program} {w : World} {K : PySem.W.Frag} {mg : Str → Option Value} {base : Heap} {x qual : Str} {st st1 : Stmt} {rest : List Stmt} {f : Addr} {fd : FuncData} {N ps : List Str} {k : Nat} {t1 t2 : QTS}
theorem fn_law (F : Fun K x qual st f fd) (sc : FnScope N ps (defScope st)) (lp : ps.length = 1) (i : Nat) (hbd : defBody st = st1 :: rest)
    (hb : ∀ (cdv : Value) (A : Around) (outer : List Env) (s : Shared) (H : Hp) (E : XK), Room k (A.deeper (envOfC qual (defScope st) s.heap.objs.size f cdv)) → QS (cxOf CX0 P w K mg base N qual (defScope st) f cdv A outer s H E).nox st1 t1 ∧ QSs (cxOf CX0 P w K mg base N qual (defScope st) f cdv A outer s H E).nox rest t2)
    (rd : ∀ ns : List Int, ns.length ≤ 63 → t1 (stEnds i t2) (.val (.scr ns) :: uns (N.length - 1))) : FnOk P w K mg base CX0 (k + 1) f fd ps (spLaw K) := by
  refine F.ok sc (fun vs H Q E h => ?_) (fun cdv A outer s H vs Q E hr h => ?_)
  · obtain ⟨_, _, rfl, _⟩ := h
    rw [lp]; rfl
  obtain ⟨a, ns, rfl, hl, ho, hs, post⟩ := h
  obtain ⟨hb1, hb2⟩ := hb cdv A outer s H E hr
  obtain ⟨ts1, p1, q1⟩ := hb1.ex
  obtain ⟨ts2, p2, q2⟩ := hb2.ex
  rw [hbd]
  refine ⟨_, pss_cons p1 p2, ?_⟩
  have R2 : RE K (G0 H [false] [.ref a] (fun _ => False) (fun _ => False)) H (L2.start N [.ref a]) (.val (.scr ns) :: uns (N.length - 1)) [] := (law_re ho hs).pad (N.length - 1)
  refine q1 _ H _ _ [] (stEnds i t2) _ R2 (rd ns hl) ⟨fun σ' ρ' H' R3 g => ?_, fun _ _ _ _ _ _ g => g.elim, fun _ _ _ _ g => g.elim, fun _ _ _ _ g => g.elim⟩
  have g' : stGo i t2 ρ' := g
  unfold stGo at g'
  split at g'
  · rename_i qs s' ei
    obtain ⟨⟨ns', rfl, nn⟩, al, go⟩ := g'
    obtain ⟨c, G, R4⟩ := R3.nest ho ei nn al
    refine q2 G H' _ _ [] endsLaw _ R4 (go c) ⟨fun _ _ _ _ g => g.elim, fun r v σ2 ρ2 H2 s2 g => ?_, fun _ _ _ _ g => g.elim, fun _ _ _ _ g => g.elim⟩
    have g2 : r = .pv (.bl true) := g
    subst g2
    have e : v = .bl true := (show RE K G H2 σ2 ρ2 [(PV.bl true, v)] from s2).pd (.bl true, v) List.mem_cons_self
    rw [e]
    exact post H2
  · exact g'.elim
end
end Px
namespace Px
open PySem L2 PyProof.Rows
/-! ### xs[::k] -/
def stepIx (n : Nat) (k : Int) : List Nat := sliceRange (sliceBounds none none (some k) n).1 (sliceBounds none none (some k) n).2.1 (sliceBounds none none (some k) n).2.2
def stepP {α : Type} (xs : List α) (k : Int) : List α := (stepIx xs.length k).filterMap (xs[·]?)
theorem stepP_mem {α : Type} {xs : List α} {k : Int} {x : α} (h : x ∈ stepP xs k) : x ∈ xs := by
  obtain ⟨i, _, e⟩ := List.mem_filterMap.mp h
  exact List.mem_of_getElem? e
theorem stepP_length {α : Type} (xs : List α) (k : Int) : (stepP xs k).length ≤ xs.length := by
  have h := slicePick_size_le (List.replicate xs.length Value.none).toArray none none (some k)
  have hz : (List.replicate xs.length Value.none).toArray.size = xs.length := by simp
  rw [hz] at h
  refine Nat.le_trans ?_ h
  unfold slicePick stepP
  rw [List.size_toArray, hz]
  generalize e : sliceRange (sliceBounds none none (some k) xs.length).1 (sliceBounds none none (some k) xs.length).2.1 (sliceBounds none none (some k) xs.length).2.2 = ix
  have e' : stepIx xs.length k = ix := e
  rw [e']
  clear e e' h
  induction ix with
  | nil => exact Nat.le_refl _
  | cons i ix ih =>
    rw [List.filterMap_cons, List.filterMap_cons]
    by_cases l : i < xs.length
    · rw [List.getElem?_eq_getElem l]
      have : (List.replicate xs.length Value.none).toArray[i]? = some Value.none := by simp [l]
      rw [this]
      simpa using ih
    · rw [List.getElem?_eq_none (by omega)]
      have : (List.replicate xs.length Value.none).toArray[i]? = none := by simp; omega
      rw [this]
      exact ih
theorem vals_pick {xs : List V} {its : List Value} (r : Vals xs its) : ∀ ix : List Nat, Vals (ix.filterMap (xs[·]?)) (ix.filterMap (its[·]?))
  | [] => .nil
  | i :: ix => by
    rw [List.filterMap_cons, List.filterMap_cons]
    cases e : xs[i]? with
    | none =>
      have : its[i]? = none := by
        rw [List.getElem?_eq_none_iff] at e ⊢
        rw [← r.length]; exact e
      rw [this]
      exact vals_pick r ix
    | some x =>
      obtain ⟨u, hu, ru⟩ := r.get e
      rw [hu]
      exact .cons ru (vals_pick r ix)
theorem iss_pick {K : PySem.W.Frag} {H : Hp} {W : Addr → Prop} {ps : List PV} {vs : List V} (r : Iss K H W ps vs) : ∀ ix : List Nat, Iss K H W (ix.filterMap (ps[·]?)) (ix.filterMap (vs[·]?))
  | [] => rfl
  | i :: ix => by
    rw [List.filterMap_cons, List.filterMap_cons]
    cases e : vs[i]? with
    | none =>
      have : ps[i]? = none := by
        rw [List.getElem?_eq_none_iff] at e ⊢
        rw [r.length]; exact e
      rw [this]
      exact iss_pick r ix
    | some x =>
      obtain ⟨u, hu, ru⟩ := r.get e
      rw [hu]
      exact .cons ru (iss_pick r ix)
def tStep (K : PySem.W.Frag) (te ts : TE) : TE := fun σ H Q => te σ H fun x H1 => tPart ts σ H1 fun o H2 => ∃ a xs k, x = .ref a ∧ o = some k ∧ k ≠ 0 ∧ SqL K H2 a xs ∧ ∀ p, H2 p = none → Q (.ref p) (upd H2 p (.lst (stepP xs k)))
section
variable {X : Cx} {e es : Expr} {te ts : TE} {p3 pos : Pos}
theorem pe_step (he : PE X e te) (hs : PE X es ts) : PE X (.Subscript e (.Slice none none (some es) p3) pos) (tStep X.K te ts) := by
  refine ⟨fun pins s σ H Q I h => ?_⟩
  refine Subscript_ (thn (he.run pins s σ H _ I h) fun v s1 ⟨x, H1, I1, r1, q1⟩ => ?_)
  have hst : PO X (some es) (tPart ts) := po_some hs
  refine wpAny_Slice (thn (po_none.run pins s1 σ H1 (fun o H2 => o = none ∧ H2 = H1) I1 ⟨rfl, rfl⟩) fun vl s2 ⟨l, H2, I2, pl, el, e2⟩ => ?_)
  subst el e2
  refine thn (po_none.run pins s2 σ H2 (fun o H3 => o = none ∧ H3 = H2) I2 ⟨rfl, rfl⟩) fun vu s3 ⟨u, H3, I3, pu, eu, e3⟩ => ?_
  subst eu e3
  refine thn (hst.run pins s3 σ H3 _ I3 q1) fun vs s4 ⟨o, H4, I4, ps, q⟩ => ?_
  obtain ⟨a, xs, k, rfl, rfl, k0, hx, q⟩ := q
  cases r1
  have I5 : Inv X pins σ H4 { s4 with heap := s4.heap.push { cls := .type "slice", data := .fields #[vl, vu, vs] } } := I4.kept (t' := s4.toks) fun b ob q => Heap.get?_push_of_some _ q
  obtain ⟨its, r, ht, hz⟩ := I5.list hx
  have hlen := r.length
  show wpAny (model X.prog X.w) X.A (subscriptTail e (.Slice none none (some es) p3) (.ref a) (.ref s4.heap.objs.size)) (EP X pins σ Q) X.xe { s4 with heap := s4.heap.push { cls := .type "slice", data := .fields #[vl, vu, vs] } }
  refine tail_any (ops := [.ref a, .ref s4.heap.objs.size]) ht.isList.typeIs (PySem.slot_list_getitem.lookup) ?_ (by with_unfolding_all rfl)
  refine wpAny_getItem_list_slice ht.isList (Heap.IsSliceOf.new _ vl vu vs) pl pu ps (by simpa using k0) ?_ (by rw [List.size_toArray]; omega)
  have ep : slicePick its.toArray none none (some k) = ((stepIx xs.length k).filterMap (its[·]?)).toArray := by
    unfold slicePick stepIx
    rw [List.size_toArray, hlen]
    simp
  rw [ep]
  refine ⟨.ref _, _, I5.laid (t' := s4.toks) (o := .lst (stepP xs k)) (fun b ob q => Heap.get?_push_of_some _ q) (Nat.le_refl _) ?_, rfl, q _ (I5.hok.fresh (Nat.le_refl _))⟩
  exact ⟨Nat.le_trans (stepP_length xs k) hz, _, 0, vals_pick r _, Heap.get?_push_size _ rfl⟩
/-- xs[::k] as a reading -/
def qStep (t ts : QT) (ρ : En) (Q : PK1) : Prop := t ρ fun r ρ1 => ts ρ1 fun r2 ρ2 => match r2 with
  | .pv (.int k) => match r.look ρ2 with
    | some (.lst ps) => k ≠ 0 ∧ Q (.fr (.lst (stepP ps k))) ρ2
    | _ => False
  | _ => False
theorem qe_step {q1 q2 : QT} (he : QE X e q1) (hs : QE X es q2) : QE X (.Subscript e (.Slice none none (some es) p3) pos) (qStep q1 q2) := by
  obtain ⟨t1, p1, z1⟩ := he.ex
  obtain ⟨t2, p2, z2⟩ := hs.ex
  refine ⟨_, pe_step p1 p2, fun G H σ ρ pd Q F R1 h f => ?_⟩
  refine z1 G H σ ρ pd _ _ R1 h fun r ρ1 v H1 s g1 => ?_
  obtain ⟨pd1, sb, R2, a1⟩ := s.arg
  refine z2 G H1 σ ρ1 pd1 _ _ R2 g1 fun r2 ρ2 y H2 s2 g2 => ?_
  cases r2 with
  | pv p =>
    cases p with
    | int k =>
      have ey : y = .int k := s2.pd (.int k, y) List.mem_cons_self
      have R3 : RE X.K G H2 σ ρ2 pd1 := s2.re
      refine ⟨k, ey, ?_⟩
      dsimp only at g2
      cases el : r.look ρ2 with
      | none => rw [el] at g2; exact g2.elim
      | some p =>
        rw [el] at g2
        cases p with
        | lst ps =>
          obtain ⟨k0, g3⟩ := g2
          obtain ⟨a, vs, rfl, ha, iv⟩ : Lk X.K H2 (WS G σ ρ2) (.lst ps) v := a1.lk R3 (by rw [look_wk]; exact el)
          refine ⟨a, vs, k, rfl, rfl, k0, .inl (.inl ha), fun p hp => ?_⟩
          have es : stepIx vs.length k = stepIx ps.length k := by rw [iv.length]
          have iv' : Iss X.K H2 (WS G σ ρ2) (stepP ps k) (stepP vs k) := by
            unfold stepP
            rw [es]
            exact iss_pick iv _
          exact f _ ρ2 _ _ (res_of (z := .fr (.lst (stepP ps k))) (R3.pds sb) (same_new hp) (resLst R3.mut iv' hp)) g3
        | _ => exact g2.elim
    | _ => exact g2.elim
  | _ => exact g2.elim
/-- a, b, c = x, y, z -/
def qPar3 (i j l : Nat) (tr : QTA) (D : PEnds) (ρ : En) : Prop := tr ρ fun rs ρ1 => match rs with
  | [.pv p, .pv q, .pv u] => notIo ρ1 i = true ∧ notIo ρ1 j = true ∧ notIo ρ1 l = true ∧ D.nx (((ρ1.set i (.val p)).set j (.val q)).set l (.val u))
  | _ => False
theorem qs_par3 (i j l : Nat) {x y z : Str} {a b c : Expr} {tr : QTA} {px py pz pt : Pos} {kt k2 : Nat} {pt2 : Pos} (hN : X.N.Nodup) (ha : QA X [a, b, c] tr) (hc : X.calm = true := by rfl) (hi : X.N[i]? = some x := by rfl) (hj : X.N[j]? = some y := by rfl) (hl : X.N[l]? = some z := by rfl) (hij : i ≠ j := by decide) (hil : i ≠ l := by decide) (hjl : j ≠ l := by decide)
    (hx : X.env.scope.names.lookup x = some .local := by rfl) (hy : X.env.scope.names.lookup y = some .local := by rfl) (hz : X.env.scope.names.lookup z = some .local := by rfl)
    (hw : swappedStores [.Tuple [.Name x px, .Name y py, .Name z pz] kt pt] (.Tuple [a, b, c] k2 pt2) X.env = pure (some [x, y, z]) := by rfl)
    (hs : swapsWithSole [.Tuple [.Name x px, .Name y py, .Name z pz] kt pt] (.Tuple [a, b, c] k2 pt2) pos.line X.env = pure false := by rfl) : QS X (.Assign [.Tuple [.Name x px, .Name y py, .Name z pz] kt pt] (.Tuple [a, b, c] k2 pt2) pos) (qPar3 i j l tr) := by
  obtain ⟨t, p, q⟩ := ha.ex
  refine ⟨_, ps_par3 hc hN hi hj hl hij hil hjl hx hy hz p hw hs, fun G H σ ρ pd D' D R1 h ee => ?_⟩
  refine q G H σ ρ pd _ _ R1 h fun rs ρ1 pd1 vs H1 sb R2 ar g => ?_
  split at g
  · rename_i p1 p2 p3
    cases ar with
    | @cons r v rs vs h1 t1 =>
      cases t1 with
      | @cons r2 v2 rs2 vs2 h2 t2 =>
        cases t2 with
        | @cons r3 v3 rs3 vs3 h3 t3 =>
          cases t3
          obtain ⟨n1, n2, n3, g⟩ := g
          refine ⟨v, v2, v3, rfl, ee.nx _ _ H1 ?_ g⟩
          have R3 : RE X.K G H1 σ ρ1 ((p1, v) :: (p2, v2) :: (p3, v3) :: pd) := R2.pds fun x hx => by
            rcases List.mem_cons.mp hx with e | hx
            · rw [e]; exact h1
            rcases List.mem_cons.mp hx with e | hx
            · rw [e]; exact h2
            rcases List.mem_cons.mp hx with e | hx
            · rw [e]; exact h3
            exact sb x hx
          refine RE.set (RE.set (R3.set n1) ?_) ?_
          · unfold notIo at n2 ⊢
            rw [ix_ne hij]; exact n2
          · unfold notIo at n3 ⊢
            rw [ix_ne hjl, ix_ne hil]; exact n3
  · exact g.elim
end
end Px
namespace Px
open PySem L2 PyProof.Rows
/-! ### a comprehension over an own list -/
theorem wk_own {kp : Hp} {K : PySem.W.Frag} {a : Addr} {ps : List PV} {vs : List V} {pd : Pds} (hk : kp a = some (.lst vs)) (hl : ps.length = vs.length) : Wk K (Itl K a) ps (ps.zip vs ++ pd) kp := by
  constructor
  · intro G H σ ρ pd' i p s kk R1 hp
    have h := R1.keep a _ (kk a _ hk)
    have li : i < ps.length := (List.getElem?_eq_some_iff.mp hp).1
    have hv : vs[i]? = some (vs[i]'(by omega)) := List.getElem?_eq_getElem (by omega)
    refine ⟨⟨vs, _, .inl (.inl h), hv⟩, fun x H' y => ?_⟩
    obtain ⟨rfl, y⟩ := y
    have z := y vs (.inl (.inl h))
    rw [hv] at z; cases z
    refine R1.push (R1.pd (p, vs[i]) (s _ (List.mem_append_left _ ?_)))
    refine List.mem_of_getElem? (i := i) ?_
    rw [List.getElem?_zip_eq_some]
    exact ⟨hp, hv⟩
  · intro G H σ ρ pd' i s kk R1 hp
    have h := R1.keep a _ (kk a _ hk)
    exact ⟨vs, .inl (.inl h), by rw [← hl]; exact hp⟩
def lcoK (i : Nat) (ps : List PV) (Q : PK1) (r : R) (ρ : En) : Prop := match r with
  | .fr (.lst acc) => ρ[i]? = some Sl.un ∧ Q (.fr (.lst acc)) (ρ.set i (.own false (.lst ps)))
  | _ => False
def qLcO (i : Nat) (g : QTG) (tt : QTT) (te : QT) (vs : List Nat) (ρ : En) (Q : PK1) : Prop := match ρ[i]? with
  | some (Sl.own false (.lst ps)) => notIos (ρ.set i .un) vs ∧ lcR g tt te vs ps (wipeE (ρ.set i .un) vs) (lcoK i ps Q) .mk
  | _ => False
theorem iss_pd {K : PySem.W.Frag} {H : Hp} {W : Addr → Prop} : ∀ {ps : List PV} {vs : List V}, ps.length = vs.length → (∀ x ∈ ps.zip vs, Is K H W x.1 x.2) → Iss K H W ps vs
  | [], [], _, _ => rfl
  | p :: ps, v :: vs, l, h => ⟨v, vs, rfl, h (p, v) List.mem_cons_self, iss_pd (by simpa using l) fun x hx => h x (List.mem_cons_of_mem _ hx)⟩
theorem pd_iss {K : PySem.W.Frag} {H : Hp} {W : Addr → Prop} : ∀ {ps : List PV} {vs : List V}, Iss K H W ps vs → ∀ x ∈ ps.zip vs, Is K H W x.1 x.2
  | [], vs, _, x, hx => by simp at hx
  | p :: ps, vs, h, x, hx => by
    obtain ⟨v, r, rfl, h1, h2⟩ := h
    rcases List.mem_cons.mp hx with e | hx
    · rw [e]; exact h1
    · exact pd_iss h2 x hx
theorem add_comm' {G : Gd} {a b : Addr} {o u : HO} (ne : b ≠ a) : (G.add a o).add b u = (G.add b u).add a o := by
  have e1 : upd (upd G.keep a o) b u = upd (upd G.keep b u) a o := by
    funext c
    by_cases z1 : c = b
    · subst z1; rw [upd_same, upd_ne ne, upd_same]
    · by_cases z2 : c = a
      · subst z2; rw [upd_ne z1, upd_same, upd_same]
      · rw [upd_ne z1, upd_ne z2, upd_ne z2, upd_ne z1]
  have e2 : (fun c => c = b ∨ c = a ∨ G.ex c) = fun c => c = a ∨ c = b ∨ G.ex c := by
    funext c
    exact propext ⟨fun h => by rcases h with h | h | h <;> simp [h], fun h => by rcases h with h | h | h <;> simp [h]⟩
  unfold Gd.add
  simp only
  rw [e1, e2]
theorem set_self {σ : L2.St} {i : Nat} {v : Option V} (h : σ[i]? = some v) : σ.set i v = σ := by
  refine List.ext_getElem? fun j => ?_
  by_cases e : i = j
  · subst e
    rw [List.getElem?_set_self (List.getElem?_eq_some_iff.mp h).1, h]
  · rw [List.getElem?_set_ne e]
theorem notIo_un {ρ : En} {i : Nat} (h : ρ[i]? = some Sl.un) : notIo ρ i = true := by unfold notIo; rw [h]
section
variable {X : Cx} {elt tg : Expr} {ifs : List Expr} {scope : Scope} {own : List (Str × Nat)} {pos npos : Pos} {g : QTG} {tt : QTT} {te : QT} {sl : List Nat} {x : Str}
theorem rz_lcO {K : PySem.W.Frag} {g1 : TG} {t1 : TT} {e1 : TE} {vs : List Nat} {i : Nat} (q2 : RzG K g1 sl g) (q3 : RzT K t1 tt) (q4 : Rz K e1 te) (hs : ∀ i ∈ sl, i ∈ vs) :
    Rz K (tLc (iSeq K (tVar i)) g1 t1 e1 vs) (qLcO i g tt te vs) := by
  intro G H σ ρ pd Q F R1 h f
  unfold qLcO at h
  split at h
  · rename_i ps ei
    obtain ⟨nio, go⟩ := h
    obtain ⟨a, o, ea, kn, R2, w⟩ := R1.release ei
    obtain ⟨us, rfl, w⟩ := w.lst
    have R3 : RE K (G.add a (.lst us)) H σ (ρ.set i .un) (ps.zip us ++ pd) := R2.pushs (pd_iss w)
    have Ha : H a = some (.lst us) := R2.keep a _ upd_same
    refine ⟨.ref a, ea, .inl ⟨a, rfl, ⟨us, .inl (.inl Ha)⟩, ?_⟩⟩
    refine lc_walk q2 q3 q4 hs (fun _ hx => hx) R3 (wk_own upd_same w.length) nio go fun r ρ' v H' s hq => ?_
    unfold lcoK at hq
    split at hq
    · rename_i acc
      obtain ⟨un, hq⟩ := hq
      obtain ⟨b, u, rfl, n, _, R4, w4⟩ := s
      have n' : upd G.keep a (.lst us) b = none := n
      have ne : b ≠ a := fun z => by rw [z, upd_same] at n'; cases n'
      rw [upd_ne ne] at n'
      have hz : Iss K H' (WS ((G.add a (.lst us)).add b u) σ ρ') ps us := iss_pd w.length fun x hx => R4.pd x (List.mem_append_left _ hx)
      rw [add_comm' ne] at R4 w4 hz
      have kx : exkOk (G.add b u) := fun c h hv => by
        rcases h with h | h
        · subst h; exact ⟨u, upd_same, w4.mut⟩
        · obtain ⟨u', e1, m1⟩ := R1.exk c h hv
          have nc : c ≠ b := fun z => by rw [z, n'] at e1; cases e1
          exact ⟨u', by show upd G.keep b u c = some u'; rw [upd_ne nc]; exact e1, m1⟩
      have ka : (G.add b u).keep a = none := by show upd G.keep b u a = none; rw [upd_ne ne.symm]; exact kn
      have R5 := RE.setOwn (p := .lst ps) R4 (notIo_un un) (List.getElem?_eq_some_iff.mp un).1 ka kx hz rfl
      rw [set_self ea] at R5
      refine f (.fr (.lst acc)) _ (.ref b) H' ⟨b, u, rfl, n', R1.exk, R5.pds fun x hx => List.mem_append_right _ hx, ?_⟩ hq
      refine w4.anti fun c w => ?_
      rcases w with w | ⟨j, d, q, e1, e2⟩
      · rcases w with w | w
        · exact .inl (.inr (.inl w))
        · exact .inl (.inr (.inr w))
      · rcases ix_set e1 with ⟨rfl, z, _⟩ | ⟨nj, e1⟩
        · rw [ea] at e2; cases e2; exact .inl (.inl rfl)
        · exact .inr ⟨j, d, q, e1, e2⟩
    · exact hq.elim
  · exact h.elim
theorem qe_lcO (i : Nat) (hc : X.calm = true) (hN : X.N.Nodup) (ok : BlkOk X.N X.env.scope scope own) (hg : ∀ c, QG (blkX X scope c) tg sl g) (ht : ∀ c, QCs (blkX X scope c) ifs tt) (he : ∀ c, QE (blkX X scope c) elt te)
    (hs : ∀ i ∈ sl, i ∈ own.map (·.2) := by decide) (hNx : X.N[i]? = some x := by rfl) (hv : Vis X.env.scope x := by first | exact Or.inl rfl | exact Or.inr (Or.inl rfl) | exact Or.inr (Or.inr rfl)) (hd : (x == ("__debug__" : Str)) = false := by decide)
    (hcd : (x == ("__classdict__" : Str)) = false := by decide) (hf : ∀ y, foldedSetIterable (.Name x npos) X.env y = pure y := by intro _; rfl) {vs : List Nat} (hvs : vs = own.map (·.2) := by rfl) : QE X (.ListComp elt [⟨tg, .Name x npos, ifs, 0⟩] scope pos) (qLcO i g tt te vs) := by
  subst hvs
  obtain ⟨g1, p2, q2⟩ := QG.all (X := blkX X scope) (K := X.K) (fun _ => rfl) hg
  obtain ⟨t1, p3, q3⟩ := QCs.all (X := blkX X scope) (K := X.K) (fun _ => rfl) ht
  obtain ⟨e1, p4, q4⟩ := QE.all (X := blkX X scope) (K := X.K) (fun _ => rfl) he
  exact ⟨_, pe_lc (pos := pos) hc hN (pi_seq (pe_var (pos := npos) hNx hv hd hcd)) ok (fun s H C cl fp => p2 (s, H, C, cl, fp)) (fun s H C cl fp => p3 (s, H, C, cl, fp)) (fun s H C cl fp => p4 (s, H, C, cl, fp)) hf, rz_lcO q2 q3 q4 hs⟩
end
/-- max(xs) of numbers, max(a, b) of two texts or two numbers -/
def gMax3 (ps : List PV) (Q : R → Prop) : Prop := match ps with
  | [.int i, .int j] => Q (.pv (.int (if j > i then j else i)))
  | ps => gMax2 ps Q
theorem call_maxP3 {X : Cx} (hc : X.calm = true) : CallP X (.builtin "max") gMax3 := by
  obtain ⟨r2, a2, b2⟩ := call_maxP2 hc
  refine ⟨_, CallR.or (call_max2 hc) a2, fun H W ps xs Q F m l g f => ?_⟩
  unfold gMax3 at g
  split at g
  · obtain ⟨x, y, rfl, h1, h2⟩ := lks2 l
    cases (show x = _ from h1)
    cases (show y = _ from h2)
    exact .inl ⟨_, _, rfl, fin1 f (p := .int _) rfl g⟩
  · exact .inr (b2 H W _ xs Q F m l g f)
end Px
namespace Px
open PySem L2 PyProof.Rows
/-! ### xs.insert(i, y), i not below 0 -/
section
variable {X : Cx}
def gInsert (p : PV) (ps : List PV) (Q : PV → PV → Prop) : Prop := match p, ps with
  | .lst xs, [.int i, q] => (0 ≤ i ∧ i < 1000000 ∧ small (xs.length + 1)) ∧ Q .non (.lst (xs.take i.toNat ++ q :: xs.drop i.toNat))
  | _, _ => False
theorem gInsert_inv {p : PV} {ps : List PV} {Q : PV → PV → Prop} (g : gInsert p ps Q) : ∃ xs i q, p = .lst xs ∧ ps = [.int i, q] ∧ 0 ≤ i ∧ i < 1000000 ∧ small (xs.length + 1) ∧ Q .non (.lst (xs.take i.toNat ++ q :: xs.drop i.toNat)) := by
  unfold gInsert at g
  split at g
  · exact ⟨_, _, _, rfl, rfl, g.1.1, g.1.2.1, g.1.2.2, g.2⟩
  · exact g.elim
theorem m_insert : MtP X "list" "list.insert" gInsert := by
  refine ⟨_, mt_insert, fun H W p a o ps xs Q F m wa e w i g f => ?_⟩
  obtain ⟨qs, k, q, rfl, rfl, h0, h1, sm, g⟩ := gInsert_inv g
  obtain ⟨vs, rfl, w⟩ := w.lst
  obtain ⟨v, r, rfl, i1, i2⟩ := i
  obtain ⟨u, rfl, i3⟩ := Iss.one i2
  cases (show v = .int k from i1)
  have sm' := small_lt sm
  rw [w.length] at sm'
  refine ⟨a, vs, k, u, rfl, rfl, e, sm', h0, by omega, ?_⟩
  rw [List.append_assoc]
  exact f .non (.lst (vs.take k.toNat ++ u :: vs.drop k.toNat)) .non (.lst (qs.take k.toNat ++ q :: qs.drop k.toNat)) (Iss.append (w.take _) (Iss.cons i3 (w.drop _))) rfl g
end
end Px
set_option maxHeartbeats 4000000
namespace Lw
open PySem L2 PyProof.Rows Px
def topS (i : Nat) : Stmt := PySem.Challenge.pw_exactkinds_k12_order_of_values.main.body.getD i (.Pass ⟨0, 0, 0, 0⟩)
abbrev s_put : Stmt := topS 1
abbrev s_fitted : Stmt := topS 2
abbrev s_constructor_of : Stmt := topS 4
abbrev s_constructors_of : Stmt := topS 5
abbrev s_index_of : Stmt := topS 7
abbrev s_size : Stmt := topS 8
abbrev s_place_of : Stmt := topS 9
abbrev s_before : Stmt := topS 10
abbrev s_shares : Stmt := topS 11
abbrev s_raw_of : Stmt := topS 12
abbrev s_comes_behind : Stmt := topS 13
abbrev s_values_of : Stmt := topS 14
abbrev s__law_state : Stmt := topS 16
abbrev s__law_draw : Stmt := topS 17
abbrev s__law_pick : Stmt := topS 18
abbrev s__law_shape : Stmt := topS 19
abbrev s__law_table : Stmt := topS 20
abbrev s__law_constructors : Stmt := topS 21
abbrev s__law_fit : Stmt := topS 22
abbrev s__law_put : Stmt := topS 23
abbrev s__law_index : Stmt := topS 24
abbrev s__law_size : Stmt := topS 25
abbrev s__law_before : Stmt := topS 26
abbrev s__law_raw : Stmt := topS 27
abbrev s_law : Stmt := topS 28
/-- what the top leaves -/
structure Txt (K : PySem.W.Frag) (mg : Str → Option Value) : Prop where
  d_put : IsDef K mg "put" s_put
  d_fitted : IsDef K mg "fitted" s_fitted
  d_constructor_of : IsDef K mg "constructor_of" s_constructor_of
  d_constructors_of : IsDef K mg "constructors_of" s_constructors_of
  d_index_of : IsDef K mg "index_of" s_index_of
  d_size : IsDef K mg "size" s_size
  d_place_of : IsDef K mg "place_of" s_place_of
  d_before : IsDef K mg "before" s_before
  d_shares : IsDef K mg "shares" s_shares
  d_raw_of : IsDef K mg "raw_of" s_raw_of
  d_comes_behind : IsDef K mg "comes_behind" s_comes_behind
  d_values_of : IsDef K mg "values_of" s_values_of
  d__law_state : IsDef K mg "_law_state" s__law_state
  d__law_draw : IsDef K mg "_law_draw" s__law_draw
  d__law_pick : IsDef K mg "_law_pick" s__law_pick
  d__law_shape : IsDef K mg "_law_shape" s__law_shape
  d__law_table : IsDef K mg "_law_table" s__law_table
  d__law_constructors : IsDef K mg "_law_constructors" s__law_constructors
  d__law_fit : IsDef K mg "_law_fit" s__law_fit
  d__law_put : IsDef K mg "_law_put" s__law_put
  d__law_index : IsDef K mg "_law_index" s__law_index
  d__law_size : IsDef K mg "_law_size" s__law_size
  d__law_before : IsDef K mg "_law_before" s__law_before
  d__law_raw : IsDef K mg "_law_raw" s__law_raw
  d_law : IsDef K mg "law" s_law
  z_isinstance : mg "isinstance" = none
  z_str : mg "str" = none
  z_tuple : mg "tuple" = none
  z_list : mg "list" = none
  z_zip : mg "zip" = none
  z_sum : mg "sum" = none
  z_range : mg "range" = none
  z_len : mg "len" = none
  z_int : mg "int" = none
  z_abs : mg "abs" = none
  z_bool : mg "bool" = none
/-! put(term, assignment) -/
abbrev N_put : List Str := ["term", "assignment", "part"]
theorem sc_put : FnScope N_put ["term", "assignment"] (defScope s_put) := ⟨rfl, rfl, rfl, by decide +kernel, rfl, by decide +kernel, by decide +kernel⟩
def rd_put (q_put : FS) : QTS := (qSeq (qIf (qTru (qCB gIsiT (qCons (qVar 0) (qCons (qK (.ty "str")) qNil)))) (qRet (qGet2 (qVar 1) (qVar 0) (qVar 0))) qNext)
  (qRet (qOp2 gAdd (qTup (qCons (qOp2 gIx (qVar 0) (qK (.int 0))) qNil)) (qCB gTuple (qCons (qLc (qIt (qSl gSl (qVar 0) (qPart (qK (.int 1))) qNo)) (qgN 2) qYes (qCall q_put (qCons (qVar 2) (qCons (qVar 1) qNil))) [2]) qNil)))))
theorem dv_put {P : Program} {w : World} {K : PySem.W.Frag} {mg : Str → Option Value} {base : Heap} {k : Nat} {q_put : FS} (T : Txt K mg) (h_put : Has P w K mg base "put" k ["term", "assignment"] q_put) (S : FS) (lp : S.io.length = 2)
    (rd : ∀ pvs : List PV, pvs.length = S.io.length → S.pre pvs → rd_put q_put (endsOf S pvs) (mk S.io pvs ++ uns 1)) : Has P w K mg base "put" (k + 1) ["term", "assignment"] S := by
  obtain ⟨f, fd, F, m⟩ := T.d_put.ex
  refine ⟨f, fd, fn_p F sc_put lp (t := rd_put q_put) (fun cdv A outer s H E hr => ?_) rd, m, F.kp, F.binds (ps := ["term", "assignment"]) fun _ _ _ _ _ _ us hl => match us, hl with | [_, _], _ => rfl, F.at⟩
  exact (qss_cons (qs_if (qc_tru (qe_callB call_isiPT T.z_isinstance (qa_cons (qv 0) (qa_cons (qe_ty T.z_str) qa_nil)))) (qss_one (qs_ret (qe_get2 (room65 hr) (qv 1) (qv 0) (qv 0)))) qss_nil)
  (qss_one (qs_ret (qe_op op_addP (qe_tup (qa_cons (qe_ix ix_P (qv 0) qe_int) qa_nil)) (qe_callTy call_tupleP T.z_tuple (qa_cons (qe_lc rfl sc_put.nd (blkOk_by (N := N_put) (sc := defScope s_put) (own := [("part", 2)]) (by decide +kernel)) (qi_seq (qe_slice sl_seq (qv 0) (qo_some qe_int) qo_none)) (fun _ => (qg_name 2 sc_put.nd)) (fun _ => qcs_nil) (fun _ => (qe_callH h_put hr (qa_cons (qv 2) (qa_cons (qv 1) qa_nil))))) qa_nil))))))

/-! fitted(patterns, terms)   owned: found, waiting -/
abbrev N_fitted : List Str := ["patterns", "terms", "found", "waiting", "pattern", "term"]
theorem sc_fitted : FnScope N_fitted ["patterns", "terms"] (defScope s_fitted) := ⟨rfl, rfl, rfl, by decide +kernel, rfl, by decide +kernel, by decide +kernel⟩
def rd_fitted : QTS := (qSeq (qOwn 2 qDict0)
  (qSeq (qOwn 3 (qLZ (qCons (qVar 0) (qCons (qVar 1) qNil))))
  (qSeq (qWhile (qTru (qVar 3)) (qSeq (qAsg (qMut "list" 3 gPop qNil) (qgT 2 (qgCons (qgN 4) (qgCons (qgN 5) qgNil))))
  (qIf (qTru (qCB gIsiT (qCons (qVar 4) (qCons (qK (.ty "str")) qNil)))) (qSeq (qIf (qB (qOp2 gNe (qGet2 (qVar 2) (qVar 4) (qVar 5)) (qVar 5))) (qRet (qK .non)) qNext)
  (qSetIx 2 (qVar 5) (qVar 4))) (qIf (qOr (qTru (qCB gIsiT (qCons (qVar 5) (qCons (qK (.ty "str")) qNil)))) (qB (qOp2 gNe (qOp2 gIx (qVar 4) (qK (.int 0))) (qOp2 gIx (qVar 5) (qK (.int 0)))))) (qRet (qK .non)) (qDrop (qMut "list" 3 gExtend (qCons (qLZ (qCons (qSl gSl (qVar 4) (qPart (qK (.int 1))) qNo) (qCons (qSl gSl (qVar 5) (qPart (qK (.int 1))) qNo) qNil))) qNil)))))))
  (qRet (qVar 2)))))
theorem dv_fitted {P : Program} {w : World} {K : PySem.W.Frag} {mg : Str → Option Value} {base : Heap} {k : Nat} (T : Txt K mg) (S : FS) (lp : S.io.length = 2)
    (rd : ∀ pvs : List PV, pvs.length = S.io.length → S.pre pvs → rd_fitted (endsOf S pvs) (mk S.io pvs ++ uns 4)) : Has P w K mg base "fitted" (k + 1) ["patterns", "terms"] S := by
  obtain ⟨f, fd, F, m⟩ := T.d_fitted.ex
  refine ⟨f, fd, fn_p F sc_fitted lp (t := rd_fitted) (fun cdv A outer s H E hr => ?_) rd, m, F.kp, F.binds (ps := ["patterns", "terms"]) fun _ _ _ _ _ _ us hl => match us, hl with | [_, _], _ => rfl, F.at⟩
  exact (qss_cons (qs_own 2 sc_fitted.nd qe_dict0)
  (qss_cons (qs_own 3 sc_fitted.nd (qe_lz T.z_list T.z_zip (qa_cons (qv 0) (qa_cons (qv 1) qa_nil))))
  (qss_cons (qs_while PassesOwn.never (qc_tru (qv 3)) (qss_cons (qs_asg (qe_mut0 3 m_pop PySem.F.plainAttrs_list PySem.F.slot_list_pop PySem.F.type_list_pop) (qg_tup rfl (qgs_cons (qg_name 4 sc_fitted.nd) (qgs_cons (qg_name 5 sc_fitted.nd) qgs_nil))))
  (qss_one (qs_if (qc_tru (qe_callB call_isiPT T.z_isinstance (qa_cons (qv 4) (qa_cons (qe_ty T.z_str) qa_nil)))) (qss_cons (qs_if (qc_cmp (op_neP (room64 hr)) (qe_get2 (room65 hr) (qv 2) (qv 4) (qv 5)) (qv 5)) (qss_one (qs_ret qe_non)) qss_nil)
  (qss_one (qs_setIx (room65 hr) 2 (qv 5) (qv 4)))) (qss_one (qs_if (qw_or (qc_tru (qe_callB call_isiPT T.z_isinstance (qa_cons (qv 5) (qa_cons (qe_ty T.z_str) qa_nil)))) (qw_or1 (qc_cmp (op_neP (room64 hr)) (qe_ix ix_P (qv 4) qe_int) (qe_ix ix_P (qv 5) qe_int)))).qc (qss_one (qs_ret qe_non)) (qss_one (qs_expr (qe_mut 3 m_extend PySem.F.plainAttrs_list PySem.F.slot_list_extend PySem.F.type_list_extend (qa_cons (qe_lz T.z_list T.z_zip (qa_cons (qe_slice sl_seq (qv 4) (qo_some qe_int) qo_none) (qa_cons (qe_slice sl_seq (qv 5) (qo_some qe_int) qo_none) qa_nil))) qa_nil))))))))))
  (qss_one (qs_ret (qv 2))))))

/-! constructor_of(table, word) -/
abbrev N_constructor_of : List Str := ["table", "word", "one"]
theorem sc_constructor_of : FnScope N_constructor_of ["table", "word"] (defScope s_constructor_of) := ⟨rfl, rfl, rfl, by decide +kernel, rfl, by decide +kernel, by decide +kernel⟩
def rd_constructor_of : QTS := (qSeq (qFor (qIt (qOp2 gIx (qVar 0) (qK (.int 3)))) (qgN 2) (qIf (qB (qOp2 gEq (qOp2 gIx (qVar 2) (qK (.int 0))) (qVar 1))) (qRet (qVar 2)) qNext))
  (qRet (qK .non)))
theorem dv_constructor_of {P : Program} {w : World} {K : PySem.W.Frag} {mg : Str → Option Value} {base : Heap} {k : Nat} (T : Txt K mg) (S : FS) (lp : S.io.length = 2)
    (rd : ∀ pvs : List PV, pvs.length = S.io.length → S.pre pvs → rd_constructor_of (endsOf S pvs) (mk S.io pvs ++ uns 1)) : Has P w K mg base "constructor_of" (k + 1) ["table", "word"] S := by
  obtain ⟨f, fd, F, m⟩ := T.d_constructor_of.ex
  refine ⟨f, fd, fn_p F sc_constructor_of lp (t := rd_constructor_of) (fun cdv A outer s H E hr => ?_) rd, m, F.kp, F.binds (ps := ["table", "word"]) fun _ _ _ _ _ _ us hl => match us, hl with | [_, _], _ => rfl, F.at⟩
  exact (qss_cons (qs_for PassesOwn.never rfl (qi_seq (qe_ix ix_P (qv 0) qe_int)) (qg_name 2 sc_constructor_of.nd) (qss_one (qs_if (qc_cmp (op_eqP (room64 hr)) (qe_ix ix_P (qv 2) qe_int) (qv 1)) (qss_one (qs_ret (qv 2))) qss_nil)))
  (qss_one (qs_ret qe_non)))

/-! constructors_of(table, family) -/
abbrev N_constructors_of : List Str := ["table", "family", "one"]
theorem sc_constructors_of : FnScope N_constructors_of ["table", "family"] (defScope s_constructors_of) := ⟨rfl, rfl, rfl, by decide +kernel, rfl, by decide +kernel, by decide +kernel⟩
def rd_constructors_of : QTS := (qRet (qCB gTuple (qCons (qLc (qIt (qOp2 gIx (qVar 0) (qK (.int 3)))) (qgN 2) (qB (qOp2 gEq (qOp2 gIx (qVar 2) (qK (.int 2))) (qVar 1))) (qVar 2) [2]) qNil)))
theorem dv_constructors_of {P : Program} {w : World} {K : PySem.W.Frag} {mg : Str → Option Value} {base : Heap} {k : Nat} (T : Txt K mg) (S : FS) (lp : S.io.length = 2)
    (rd : ∀ pvs : List PV, pvs.length = S.io.length → S.pre pvs → rd_constructors_of (endsOf S pvs) (mk S.io pvs ++ uns 1)) : Has P w K mg base "constructors_of" (k + 1) ["table", "family"] S := by
  obtain ⟨f, fd, F, m⟩ := T.d_constructors_of.ex
  refine ⟨f, fd, fn_p F sc_constructors_of lp (t := rd_constructors_of) (fun cdv A outer s H E hr => ?_) rd, m, F.kp, F.binds (ps := ["table", "family"]) fun _ _ _ _ _ _ us hl => match us, hl with | [_, _], _ => rfl, F.at⟩
  exact (qss_one (qs_ret (qe_callTy call_tupleP T.z_tuple (qa_cons (qe_lc rfl sc_constructors_of.nd (blkOk_by (N := N_constructors_of) (sc := defScope s_constructors_of) (own := [("one", 2)]) (by decide +kernel)) (qi_seq (qe_ix ix_P (qv 0) qe_int)) (fun _ => (qg_name 2 sc_constructors_of.nd)) (fun _ => (qcs_one (qc_cmp (op_eqP (room64 hr)) (qe_ix ix_P (qv 2) qe_int) (qv 1)))) (fun _ => (qv 2))) qa_nil))))

/-! index_of(table, value) -/
abbrev N_index_of : List Str := ["table", "value", "constructor", "found", "trees", "part", "pair"]
theorem sc_index_of : FnScope N_index_of ["table", "value"] (defScope s_index_of) := ⟨rfl, rfl, rfl, by decide +kernel, rfl, by decide +kernel, by decide +kernel⟩
def rd_index_of (q_constructor_of q_index_of q_fitted q_put : FS) : QTS := (qSeq (qSet 2 (qCall q_constructor_of (qCons (qVar 0) (qCons (qOp2 gIx (qVar 1) (qK (.int 0))) qNil))))
  (qSeq (qSet 3 (qLc (qIt (qSl gSl (qVar 1) (qPart (qK (.int 1))) qNo)) (qgN 5) qYes (qCall q_index_of (qCons (qVar 0) (qCons (qVar 5) qNil))) [5]))
  (qSeq (qIf (qOr (qB (qOp2 gIn (qK .non) (qVar 3))) (qB (qOp2 gNe (qLc (qIt (qVar 3)) (qgN 6) qYes (qOp2 gIx (qVar 6) (qK (.int 0))) [6]) (qLc (qIt (qOp2 gIx (qVar 2) (qK (.int 1)))) (qgN 5) qYes (qOp2 gIx (qVar 5) (qK (.int 0))) [5])))) (qRet (qK .non)) qNext)
  (qSeq (qSet 4 (qCall q_fitted (qCons (qLc (qIt (qOp2 gIx (qVar 2) (qK (.int 1)))) (qgN 5) qYes (qOp2 gIx (qVar 5) (qK (.int 1))) [5]) (qCons (qLc (qIt (qVar 3)) (qgN 6) qYes (qOp2 gIx (qVar 6) (qK (.int 1))) [6]) qNil))))
  (qSeq (qIf (qB (qOp2 gIs (qVar 4) (qK .non))) (qRet (qK .non)) qNext)
  (qRet (qTup (qCons (qOp2 gIx (qVar 2) (qK (.int 2))) (qCons (qCall q_put (qCons (qOp2 gIx (qVar 2) (qK (.int 3))) (qCons (qVar 4) qNil))) qNil)))))))))
theorem dv_index_of {P : Program} {w : World} {K : PySem.W.Frag} {mg : Str → Option Value} {base : Heap} {k : Nat} {q_constructor_of q_index_of q_fitted q_put : FS} (T : Txt K mg) (h_constructor_of : Has P w K mg base "constructor_of" k ["table", "word"] q_constructor_of) (h_index_of : Has P w K mg base "index_of" k ["table", "value"] q_index_of) (h_fitted : Has P w K mg base "fitted" k ["patterns", "terms"] q_fitted) (h_put : Has P w K mg base "put" k ["term", "assignment"] q_put) (S : FS) (lp : S.io.length = 2)
    (rd : ∀ pvs : List PV, pvs.length = S.io.length → S.pre pvs → rd_index_of q_constructor_of q_index_of q_fitted q_put (endsOf S pvs) (mk S.io pvs ++ uns 5)) : Has P w K mg base "index_of" (k + 1) ["table", "value"] S := by
  obtain ⟨f, fd, F, m⟩ := T.d_index_of.ex
  refine ⟨f, fd, fn_p F sc_index_of lp (t := rd_index_of q_constructor_of q_index_of q_fitted q_put) (fun cdv A outer s H E hr => ?_) rd, m, F.kp, F.binds (ps := ["table", "value"]) fun _ _ _ _ _ _ us hl => match us, hl with | [_, _], _ => rfl, F.at⟩
  exact (qss_cons (qs_set 2 sc_index_of.nd (qe_callH h_constructor_of hr (qa_cons (qv 0) (qa_cons (qe_ix ix_P (qv 1) qe_int) qa_nil))))
  (qss_cons (qs_setLc 3 rfl sc_index_of.nd (sw_true rfl rfl rfl (by decide +kernel)) (blkOk_by (N := N_index_of) (sc := defScope s_index_of) (own := [("part", 5)]) (by decide +kernel)) (qi_seq (qe_slice sl_seq (qv 1) (qo_some qe_int) qo_none)) (fun _ => (qg_name 5 sc_index_of.nd)) (fun _ => qcs_nil) (fun _ => (qe_callH h_index_of hr (qa_cons (qv 0) (qa_cons (qv 5) qa_nil)))))
  (qss_cons (qs_if (qw_or (qc_cmp (op_inP (room65 hr)) qe_non (qv 3)) (qw_or1 (qc_cmp (op_neP (room64 hr)) (qe_lc rfl sc_index_of.nd (blkOk_by (N := N_index_of) (sc := defScope s_index_of) (own := [("pair", 6)]) (by decide +kernel)) (qi_seq (qv 3)) (fun _ => (qg_name 6 sc_index_of.nd)) (fun _ => qcs_nil) (fun _ => (qe_ix ix_P (qv 6) qe_int))) (qe_lc rfl sc_index_of.nd (blkOk_by (N := N_index_of) (sc := defScope s_index_of) (own := [("part", 5)]) (by decide +kernel)) (qi_seq (qe_ix ix_P (qv 2) qe_int)) (fun _ => (qg_name 5 sc_index_of.nd)) (fun _ => qcs_nil) (fun _ => (qe_ix ix_P (qv 5) qe_int)))))).qc (qss_one (qs_ret qe_non)) qss_nil)
  (qss_cons (qs_set 4 sc_index_of.nd (qe_callH h_fitted hr (qa_cons (qe_lc rfl sc_index_of.nd (blkOk_by (N := N_index_of) (sc := defScope s_index_of) (own := [("part", 5)]) (by decide +kernel)) (qi_seq (qe_ix ix_P (qv 2) qe_int)) (fun _ => (qg_name 5 sc_index_of.nd)) (fun _ => qcs_nil) (fun _ => (qe_ix ix_P (qv 5) qe_int))) (qa_cons (qe_lc rfl sc_index_of.nd (blkOk_by (N := N_index_of) (sc := defScope s_index_of) (own := [("pair", 6)]) (by decide +kernel)) (qi_seq (qv 3)) (fun _ => (qg_name 6 sc_index_of.nd)) (fun _ => qcs_nil) (fun _ => (qe_ix ix_P (qv 6) qe_int))) qa_nil))))
  (qss_cons (qs_if (qc_cmp op_isP (qv 4) qe_non) (qss_one (qs_ret qe_non)) qss_nil)
  (qss_one (qs_ret (qe_tup (qa_cons (qe_ix ix_P (qv 2) qe_int) (qa_cons (qe_callH h_put hr (qa_cons (qe_ix ix_P (qv 2) qe_int) (qa_cons (qv 4) qa_nil))) qa_nil))))))))))

/-! size(value) -/
abbrev N_size : List Str := ["value", "part"]
theorem sc_size : FnScope N_size ["value"] (defScope s_size) := ⟨rfl, rfl, rfl, by decide +kernel, rfl, by decide +kernel, by decide +kernel⟩
def rd_size (q_size : FS) : QTS := (qRet (qOp2 gAdd (qK (.int 1)) (qCB gSum (qCons (qLc (qIt (qSl gSl (qVar 0) (qPart (qK (.int 1))) qNo)) (qgN 1) qYes (qCall q_size (qCons (qVar 1) qNil)) [1]) qNil))))
theorem dv_size {P : Program} {w : World} {K : PySem.W.Frag} {mg : Str → Option Value} {base : Heap} {k : Nat} {q_size : FS} (T : Txt K mg) (h_size : Has P w K mg base "size" k ["value"] q_size) (S : FS) (lp : S.io.length = 1)
    (rd : ∀ pvs : List PV, pvs.length = S.io.length → S.pre pvs → rd_size q_size (endsOf S pvs) (mk S.io pvs ++ uns 1)) : Has P w K mg base "size" (k + 1) ["value"] S := by
  obtain ⟨f, fd, F, m⟩ := T.d_size.ex
  refine ⟨f, fd, fn_p F sc_size lp (t := rd_size q_size) (fun cdv A outer s H E hr => ?_) rd, m, F.kp, F.binds (ps := ["value"]) fun _ _ _ _ _ _ us hl => match us, hl with | [_], _ => rfl, F.at⟩
  exact (qss_one (qs_ret (qe_op op_addP qe_int (qe_callB (call_sumP rfl) T.z_sum (qa_cons (qe_lc rfl sc_size.nd (blkOk_by (N := N_size) (sc := defScope s_size) (own := [("part", 1)]) (by decide +kernel)) (qi_seq (qe_slice sl_seq (qv 0) (qo_some qe_int) qo_none)) (fun _ => (qg_name 1 sc_size.nd)) (fun _ => qcs_nil) (fun _ => (qe_callH h_size hr (qa_cons (qv 1) qa_nil)))) qa_nil)))))

/-! place_of(table, word) -/
abbrev N_place_of : List Str := ["table", "word", "one"]
theorem sc_place_of : FnScope N_place_of ["table", "word"] (defScope s_place_of) := ⟨rfl, rfl, rfl, by decide +kernel, rfl, by decide +kernel, by decide +kernel⟩
def rd_place_of : QTS := (qRet (qMeth "list" gIndex (qLc (qIt (qOp2 gIx (qVar 0) (qK (.int 3)))) (qgN 2) qYes (qOp2 gIx (qVar 2) (qK (.int 0))) [2]) (qCons (qVar 1) qNil)))
theorem dv_place_of {P : Program} {w : World} {K : PySem.W.Frag} {mg : Str → Option Value} {base : Heap} {k : Nat} (T : Txt K mg) (S : FS) (lp : S.io.length = 2)
    (rd : ∀ pvs : List PV, pvs.length = S.io.length → S.pre pvs → rd_place_of (endsOf S pvs) (mk S.io pvs ++ uns 1)) : Has P w K mg base "place_of" (k + 1) ["table", "word"] S := by
  obtain ⟨f, fd, F, m⟩ := T.d_place_of.ex
  refine ⟨f, fd, fn_p F sc_place_of lp (t := rd_place_of) (fun cdv A outer s H E hr => ?_) rd, m, F.kp, F.binds (ps := ["table", "word"]) fun _ _ _ _ _ _ us hl => match us, hl with | [_, _], _ => rfl, F.at⟩
  exact (qss_one (qs_ret (qe_meth (me_index (room65 hr)) PySem.F.plainAttrs_list PySem.F.slot_list_index PySem.F.type_list_index (qe_lc rfl sc_place_of.nd (blkOk_by (N := N_place_of) (sc := defScope s_place_of) (own := [("one", 2)]) (by decide +kernel)) (qi_seq (qe_ix ix_P (qv 0) qe_int)) (fun _ => (qg_name 2 sc_place_of.nd)) (fun _ => qcs_nil) (fun _ => (qe_ix ix_P (qv 2) qe_int))) (qa_cons (qv 1) qa_nil))))

/-! before(table, one, other) -/
abbrev N_before : List Str := ["table", "one", "other", "part", "second"]
theorem sc_before : FnScope N_before ["table", "one", "other"] (defScope s_before) := ⟨rfl, rfl, rfl, by decide +kernel, rfl, by decide +kernel, by decide +kernel⟩
def rd_before (q_size q_place_of q_before : FS) : QTS := (qSeq (qIf (qB (qOp2 gNe (qCall q_size (qCons (qVar 1) qNil)) (qCall q_size (qCons (qVar 2) qNil)))) (qRet (qOp2 gLt (qCall q_size (qCons (qVar 1) qNil)) (qCall q_size (qCons (qVar 2) qNil)))) qNext)
  (qSeq (qIf (qB (qOp2 gNe (qOp2 gIx (qVar 1) (qK (.int 0))) (qOp2 gIx (qVar 2) (qK (.int 0))))) (qRet (qOp2 gLt (qCall q_place_of (qCons (qVar 0) (qCons (qOp2 gIx (qVar 1) (qK (.int 0))) qNil))) (qCall q_place_of (qCons (qVar 0) (qCons (qOp2 gIx (qVar 2) (qK (.int 0))) qNil))))) qNext)
  (qSeq (qFor (qZipI (qCons (qSl gSl (qVar 1) (qPart (qK (.int 1))) qNo) (qCons (qSl gSl (qVar 2) (qPart (qK (.int 1))) qNo) qNil))) (qgT 2 (qgCons (qgN 3) (qgCons (qgN 4) qgNil))) (qIf (qB (qOp2 gNe (qVar 3) (qVar 4))) (qRet (qCall q_before (qCons (qVar 0) (qCons (qVar 3) (qCons (qVar 4) qNil))))) qNext))
  (qRet (qK (.bl false))))))
theorem dv_before {P : Program} {w : World} {K : PySem.W.Frag} {mg : Str → Option Value} {base : Heap} {k : Nat} {q_size q_place_of q_before : FS} (T : Txt K mg) (h_size : Has P w K mg base "size" k ["value"] q_size) (h_place_of : Has P w K mg base "place_of" k ["table", "word"] q_place_of) (h_before : Has P w K mg base "before" k ["table", "one", "other"] q_before) (S : FS) (lp : S.io.length = 3)
    (rd : ∀ pvs : List PV, pvs.length = S.io.length → S.pre pvs → rd_before q_size q_place_of q_before (endsOf S pvs) (mk S.io pvs ++ uns 2)) : Has P w K mg base "before" (k + 1) ["table", "one", "other"] S := by
  obtain ⟨f, fd, F, m⟩ := T.d_before.ex
  refine ⟨f, fd, fn_p F sc_before lp (t := rd_before q_size q_place_of q_before) (fun cdv A outer s H E hr => ?_) rd, m, F.kp, F.binds (ps := ["table", "one", "other"]) fun _ _ _ _ _ _ us hl => match us, hl with | [_, _, _], _ => rfl, F.at⟩
  exact (qss_cons (qs_if (qc_cmp (op_neP (room64 hr)) (qe_callH h_size hr (qa_cons (qv 1) qa_nil)) (qe_callH h_size hr (qa_cons (qv 2) qa_nil))) (qss_one (qs_ret (qe_cmp op_ltP (qe_callH h_size hr (qa_cons (qv 1) qa_nil)) (qe_callH h_size hr (qa_cons (qv 2) qa_nil))))) qss_nil)
  (qss_cons (qs_if (qc_cmp (op_neP (room64 hr)) (qe_ix ix_P (qv 1) qe_int) (qe_ix ix_P (qv 2) qe_int)) (qss_one (qs_ret (qe_cmp op_ltP (qe_callH h_place_of hr (qa_cons (qv 0) (qa_cons (qe_ix ix_P (qv 1) qe_int) qa_nil))) (qe_callH h_place_of hr (qa_cons (qv 0) (qa_cons (qe_ix ix_P (qv 2) qe_int) qa_nil)))))) qss_nil)
  (qss_cons (qs_for PassesOwn.never rfl (qi_zip T.z_zip (qa_cons (qe_slice sl_seq (qv 1) (qo_some qe_int) qo_none) (qa_cons (qe_slice sl_seq (qv 2) (qo_some qe_int) qo_none) qa_nil))) (qg_tup rfl (qgs_cons (qg_name 3 sc_before.nd) (qgs_cons (qg_name 4 sc_before.nd) qgs_nil))) (qss_one (qs_if (qc_cmp (op_neP (room64 hr)) (qv 3) (qv 4)) (qss_one (qs_ret (qe_callH h_before hr (qa_cons (qv 0) (qa_cons (qv 3) (qa_cons (qv 4) qa_nil)))))) qss_nil)))
  (qss_one (qs_ret qe_bl)))))

/-! shares(total, many)   owned: found -/
abbrev N_shares : List Str := ["total", "many", "found", "first", "rest"]
theorem sc_shares : FnScope N_shares ["total", "many"] (defScope s_shares) := ⟨rfl, rfl, rfl, by decide +kernel, rfl, by decide +kernel, by decide +kernel⟩
def rd_shares (q_shares : FS) : QTS := (qSeq (qIf (qB (qOp2 gEq (qVar 1) (qK (.int 0)))) (qRet (qIfE (qB (qOp2 gEq (qVar 0) (qK (.int 0)))) (qLst (qCons (qTup qNil) qNil)) (qLst qNil))) qNext)
  (qSeq (qOwn 2 (qLst qNil))
  (qSeq (qFor (qRng2 (qCons (qK (.int 1)) (qCons (qOp2 gAdd (qOp2 gSub (qVar 0) (qVar 1)) (qK (.int 2))) qNil))) (qgN 3) (qDrop (qMut "list" 2 gExtend (qCons (qLc (qIt (qCall q_shares (qCons (qOp2 gSub (qVar 0) (qVar 3)) (qCons (qOp2 gSub (qVar 1) (qK (.int 1))) qNil)))) (qgN 4) qYes (qOp2 gAdd (qTup (qCons (qVar 3) qNil)) (qVar 4)) [4]) qNil))))
  (qRet (qVar 2)))))
theorem dv_shares {P : Program} {w : World} {K : PySem.W.Frag} {mg : Str → Option Value} {base : Heap} {k : Nat} {q_shares : FS} (T : Txt K mg) (h_shares : Has P w K mg base "shares" k ["total", "many"] q_shares) (S : FS) (lp : S.io.length = 2)
    (rd : ∀ pvs : List PV, pvs.length = S.io.length → S.pre pvs → rd_shares q_shares (endsOf S pvs) (mk S.io pvs ++ uns 3)) : Has P w K mg base "shares" (k + 1) ["total", "many"] S := by
  obtain ⟨f, fd, F, m⟩ := T.d_shares.ex
  refine ⟨f, fd, fn_p F sc_shares lp (t := rd_shares q_shares) (fun cdv A outer s H E hr => ?_) rd, m, F.kp, F.binds (ps := ["total", "many"]) fun _ _ _ _ _ _ us hl => match us, hl with | [_, _], _ => rfl, F.at⟩
  exact (qss_cons (qs_if (qc_cmp (op_eqP (room64 hr)) (qv 1) qe_int) (qss_one (qs_ret (qe_ifExp (qc_cmp (op_eqP (room64 hr)) (qv 0) qe_int) (qe_lst (qa_cons (qe_tup qa_nil) qa_nil)) (qe_lst qa_nil)))) qss_nil)
  (qss_cons (qs_own 2 sc_shares.nd (qe_lst qa_nil))
  (qss_cons (qs_for PassesOwn.never rfl (qi_range2 T.z_range (qa_cons qe_int (qa_cons (qe_op op_addP (qe_op op_subP (qv 0) (qv 1)) qe_int) qa_nil))) (qg_name 3 sc_shares.nd) (qss_one (qs_expr (qe_mut 2 m_extend PySem.F.plainAttrs_list PySem.F.slot_list_extend PySem.F.type_list_extend (qa_cons (qe_lc rfl sc_shares.nd (blkOk_by (N := N_shares) (sc := defScope s_shares) (own := [("rest", 4)]) (by decide +kernel)) (qi_seq (qe_callH h_shares hr (qa_cons (qe_op op_subP (qv 0) (qv 3)) (qa_cons (qe_op op_subP (qv 1) qe_int) qa_nil)))) (fun _ => (qg_name 4 sc_shares.nd)) (fun _ => qcs_nil) (fun _ => (qe_op op_addP (qe_tup (qa_cons (qv 3) qa_nil)) (qv 4)))) qa_nil)))))
  (qss_one (qs_ret (qv 2))))))

/-! raw_of(table, family, total)   owned: found -/
abbrev N_raw_of : List Str := ["table", "family", "total", "found", "constructor", "share", "rows", "part", "size_of_part", "row", "value"]
theorem sc_raw_of : FnScope N_raw_of ["table", "family", "total"] (defScope s_raw_of) := ⟨rfl, rfl, rfl, by decide +kernel, rfl, by decide +kernel, by decide +kernel⟩
def rd_raw_of (q_constructors_of q_shares q_raw_of : FS) : QTS := (qSeq (qOwn 3 (qLst qNil))
  (qSeq (qFor (qIt (qCall q_constructors_of (qCons (qVar 0) (qCons (qVar 1) qNil)))) (qgN 4) (qFor (qIt (qCall q_shares (qCons (qOp2 gSub (qVar 2) (qK (.int 1))) (qCons (qCB gLen (qCons (qOp2 gIx (qVar 4) (qK (.int 1))) qNil)) qNil)))) (qgN 5) (qSeq (qSet 6 (qLst (qCons (qTup (qCons (qOp2 gIx (qVar 4) (qK (.int 0))) qNil)) qNil)))
  (qSeq (qFor (qZipI (qCons (qOp2 gIx (qVar 4) (qK (.int 1))) (qCons (qVar 5) qNil))) (qgT 2 (qgCons (qgN 7) (qgCons (qgN 8) qgNil))) (qSet 6 (qLc2 (qIt (qVar 6)) (qgN 9) qYes (qIt (qCall q_raw_of (qCons (qVar 0) (qCons (qOp2 gIx (qVar 7) (qK (.int 0))) (qCons (qVar 8) qNil))))) (qgN 10) qYes (qOp2 gAdd (qVar 9) (qTup (qCons (qVar 10) qNil))) [9, 10] [10])))
  (qDrop (qMut "list" 3 gExtend (qCons (qVar 6) qNil)))))))
  (qRet (qVar 3))))
theorem dv_raw_of {P : Program} {w : World} {K : PySem.W.Frag} {mg : Str → Option Value} {base : Heap} {k : Nat} {q_constructors_of q_shares q_raw_of : FS} (T : Txt K mg) (h_constructors_of : Has P w K mg base "constructors_of" k ["table", "family"] q_constructors_of) (h_shares : Has P w K mg base "shares" k ["total", "many"] q_shares) (h_raw_of : Has P w K mg base "raw_of" k ["table", "family", "total"] q_raw_of) (S : FS) (lp : S.io.length = 3)
    (rd : ∀ pvs : List PV, pvs.length = S.io.length → S.pre pvs → rd_raw_of q_constructors_of q_shares q_raw_of (endsOf S pvs) (mk S.io pvs ++ uns 8)) : Has P w K mg base "raw_of" (k + 1) ["table", "family", "total"] S := by
  obtain ⟨f, fd, F, m⟩ := T.d_raw_of.ex
  refine ⟨f, fd, fn_p F sc_raw_of lp (t := rd_raw_of q_constructors_of q_shares q_raw_of) (fun cdv A outer s H E hr => ?_) rd, m, F.kp, F.binds (ps := ["table", "family", "total"]) fun _ _ _ _ _ _ us hl => match us, hl with | [_, _, _], _ => rfl, F.at⟩
  exact (qss_cons (qs_own 3 sc_raw_of.nd (qe_lst qa_nil))
  (qss_cons (qs_for PassesOwn.never rfl (qi_seq (qe_callH h_constructors_of hr (qa_cons (qv 0) (qa_cons (qv 1) qa_nil)))) (qg_name 4 sc_raw_of.nd) (qss_one (qs_for PassesOwn.never rfl (qi_seq (qe_callH h_shares hr (qa_cons (qe_op op_subP (qv 2) qe_int) (qa_cons (qe_callB call_lenP T.z_len (qa_cons (qe_ix ix_P (qv 4) qe_int) qa_nil)) qa_nil)))) (qg_name 5 sc_raw_of.nd) (qss_cons (qs_set 6 sc_raw_of.nd (qe_lst (qa_cons (qe_tup (qa_cons (qe_ix ix_P (qv 4) qe_int) qa_nil)) qa_nil)))
  (qss_cons (qs_for PassesOwn.never rfl (qi_zip T.z_zip (qa_cons (qe_ix ix_P (qv 4) qe_int) (qa_cons (qv 5) qa_nil))) (qg_tup rfl (qgs_cons (qg_name 7 sc_raw_of.nd) (qgs_cons (qg_name 8 sc_raw_of.nd) qgs_nil))) (qss_one (qs_setLc2 6 rfl sc_raw_of.nd (sw_true rfl rfl rfl (by decide +kernel)) (blkOk_by (N := N_raw_of) (sc := defScope s_raw_of) (own := [("row", 9), ("value", 10)]) (by decide +kernel)) (qi_seq (qv 6)) (fun _ => (qg_name 9 sc_raw_of.nd)) (fun _ => qcs_nil) (fun _ => (qi0_seq (qe_callH h_raw_of hr (qa_cons (qv 0) (qa_cons (qe_ix ix_P (qv 7) qe_int) (qa_cons (qv 8) qa_nil)))))) (fun _ => (qg_name 10 sc_raw_of.nd)) (fun _ => qcs_nil) (fun _ => (qe_op op_addP (qv 9) (qe_tup (qa_cons (qv 10) qa_nil)))))))
  (qss_one (qs_expr (qe_mut 3 m_extend PySem.F.plainAttrs_list PySem.F.slot_list_extend PySem.F.type_list_extend (qa_cons (qv 6) qa_nil)))))))))
  (qss_one (qs_ret (qv 3)))))

/-! comes_behind(table, value, row) -/
abbrev N_comes_behind : List Str := ["table", "value", "row", "place"]
theorem sc_comes_behind : FnScope N_comes_behind ["table", "value", "row"] (defScope s_comes_behind) := ⟨rfl, rfl, rfl, by decide +kernel, rfl, by decide +kernel, by decide +kernel⟩
def rd_comes_behind (q_before : FS) : QTS := (qSeq (qSet 3 (qK (.int 0)))
  (qSeq (qWhile (qAnd (qB (qOp2 gLt (qVar 3) (qCB gLen (qCons (qVar 2) qNil)))) (qTru (qCall q_before (qCons (qVar 0) (qCons (qOp2 gIx (qVar 2) (qVar 3)) (qCons (qVar 1) qNil)))))) (qAug 3 (fun i j => i + j) (qK (.int 1))))
  (qRet (qVar 3))))
theorem dv_comes_behind {P : Program} {w : World} {K : PySem.W.Frag} {mg : Str → Option Value} {base : Heap} {k : Nat} {q_before : FS} (T : Txt K mg) (h_before : Has P w K mg base "before" k ["table", "one", "other"] q_before) (S : FS) (lp : S.io.length = 3)
    (rd : ∀ pvs : List PV, pvs.length = S.io.length → S.pre pvs → rd_comes_behind q_before (endsOf S pvs) (mk S.io pvs ++ uns 1)) : Has P w K mg base "comes_behind" (k + 1) ["table", "value", "row"] S := by
  obtain ⟨f, fd, F, m⟩ := T.d_comes_behind.ex
  refine ⟨f, fd, fn_p F sc_comes_behind lp (t := rd_comes_behind q_before) (fun cdv A outer s H E hr => ?_) rd, m, F.kp, F.binds (ps := ["table", "value", "row"]) fun _ _ _ _ _ _ us hl => match us, hl with | [_, _, _], _ => rfl, F.at⟩
  exact (qss_cons (qs_set 3 sc_comes_behind.nd qe_int)
  (qss_cons (qs_while PassesOwn.never (qw_and (qc_cmp op_ltP (qv 3) (qe_callB call_lenP T.z_len (qa_cons (qv 2) qa_nil))) (qw_and1 (qc_tru (qe_callH h_before hr (qa_cons (qv 0) (qa_cons (qe_ix ix_P (qv 2) (qv 3)) (qa_cons (qv 1) qa_nil))))))).qc (qss_one (qs_aug 3 sc_comes_behind.nd ip_add qe_int)))
  (qss_one (qs_ret (qv 3)))))

/-! values_of(table, total)   owned: found -/
abbrev N_values_of : List Str := ["table", "total", "found", "family", "value"]
theorem sc_values_of : FnScope N_values_of ["table", "total"] (defScope s_values_of) := ⟨rfl, rfl, rfl, by decide +kernel, rfl, by decide +kernel, by decide +kernel⟩
def rd_values_of (q_raw_of q_index_of q_comes_behind : FS) : QTS := (qSeq (qOwn 2 (qLst qNil))
  (qSeq (qFor (qIt (qOp2 gIx (qVar 0) (qK (.int 2)))) (qgN 3) (qFor (qIt (qCall q_raw_of (qCons (qVar 0) (qCons (qVar 3) (qCons (qVar 1) qNil))))) (qgN 4) (qIf (qB (qOp2 gIsNot (qCall q_index_of (qCons (qVar 0) (qCons (qVar 4) qNil))) (qK .non))) (qDrop (qMut "list" 2 gInsert (qCons (qCallB q_comes_behind (qCons (qVar 0) (qCons (qVar 4) (qCons (qVar 2) qNil)))) (qCons (qVar 4) qNil)))) qNext)))
  (qRet (qVar 2))))
theorem dv_values_of {P : Program} {w : World} {K : PySem.W.Frag} {mg : Str → Option Value} {base : Heap} {k : Nat} {q_raw_of q_index_of q_comes_behind : FS} (T : Txt K mg) (h_raw_of : Has P w K mg base "raw_of" k ["table", "family", "total"] q_raw_of) (h_index_of : Has P w K mg base "index_of" k ["table", "value"] q_index_of) (h_comes_behind : Has P w K mg base "comes_behind" k ["table", "value", "row"] q_comes_behind) (S : FS) (lp : S.io.length = 2)
    (rd : ∀ pvs : List PV, pvs.length = S.io.length → S.pre pvs → rd_values_of q_raw_of q_index_of q_comes_behind (endsOf S pvs) (mk S.io pvs ++ uns 3)) : Has P w K mg base "values_of" (k + 1) ["table", "total"] S := by
  obtain ⟨f, fd, F, m⟩ := T.d_values_of.ex
  refine ⟨f, fd, fn_p F sc_values_of lp (t := rd_values_of q_raw_of q_index_of q_comes_behind) (fun cdv A outer s H E hr => ?_) rd, m, F.kp, F.binds (ps := ["table", "total"]) fun _ _ _ _ _ _ us hl => match us, hl with | [_, _], _ => rfl, F.at⟩
  exact (qss_cons (qs_own 2 sc_values_of.nd (qe_lst qa_nil))
  (qss_cons (qs_for PassesOwn.never rfl (qi_seq (qe_ix ix_P (qv 0) qe_int)) (qg_name 3 sc_values_of.nd) (qss_one (qs_for PassesOwn.never rfl (qi_seq (qe_callH h_raw_of hr (qa_cons (qv 0) (qa_cons (qv 3) (qa_cons (qv 1) qa_nil))))) (qg_name 4 sc_values_of.nd) (qss_one (qs_if (qc_cmp op_isNotP (qe_callH h_index_of hr (qa_cons (qv 0) (qa_cons (qv 4) qa_nil))) qe_non) (qss_one (qs_expr (qe_mut 2 m_insert PySem.F.plainAttrs_list PySem.F.slot_list_insert PySem.F.type_list_insert (qa_cons (qe_callHB h_comes_behind hr (qa_cons (qv 0) (qa_cons (qv 4) (qa_cons (qv 2) qa_nil)))) (qa_cons (qv 4) qa_nil))))) qss_nil)))))
  (qss_one (qs_ret (qv 2)))))

/-! _law_state(script) -/
abbrev N__law_state : List Str := ["script", "seed", "cell"]
theorem sc__law_state : FnScope N__law_state ["script"] (defScope s__law_state) := ⟨rfl, rfl, rfl, by decide +kernel, rfl, by decide +kernel, by decide +kernel⟩
def rd__law_state : QTS := (qSeq (qSet 1 (qK (.int 7)))
  (qSeq (qFor (qIt (qVar 0)) (qgN 2) (qSet 1 (qOp2 gMod (qCB gIntC (qCons (qOp2 gAdd (qOp2 gMul (qVar 1) (qK (.int 31))) (qVar 2)) qNil)) (qK (.int 1000003)))))
  (qRet (qLst (qCons (qLc (qIt (qVar 0)) (qgN 2) qYes (qCB gAbs (qCons (qCB gIntC (qCons (qVar 2) qNil)) qNil)) [2]) (qCons (qOp2 gAdd (qVar 1) (qK (.int 1))) qNil))))))
theorem dv__law_state {P : Program} {w : World} {K : PySem.W.Frag} {mg : Str → Option Value} {base : Heap} {k : Nat} (T : Txt K mg) (S : FS) (lp : S.io.length = 1)
    (rd : ∀ pvs : List PV, pvs.length = S.io.length → S.pre pvs → rd__law_state (endsOf S pvs) (mk S.io pvs ++ uns 2)) : Has P w K mg base "_law_state" (k + 1) ["script"] S := by
  obtain ⟨f, fd, F, m⟩ := T.d__law_state.ex
  refine ⟨f, fd, fn_p F sc__law_state lp (t := rd__law_state) (fun cdv A outer s H E hr => ?_) rd, m, F.kp, F.binds (ps := ["script"]) fun _ _ _ _ _ _ us hl => match us, hl with | [_], _ => rfl, F.at⟩
  exact (qss_cons (qs_set 1 sc__law_state.nd qe_int)
  (qss_cons (qs_for PassesOwn.never rfl (qi_seq (qv 0)) (qg_name 2 sc__law_state.nd) (qss_one (qs_set 1 sc__law_state.nd (qe_op op_modP (qe_callTy call_intP T.z_int (qa_cons (qe_op op_addP (qe_op op_mulP (qv 1) qe_int) (qv 2)) qa_nil)) qe_int))))
  (qss_one (qs_ret (qe_lst (qa_cons (qe_lc rfl sc__law_state.nd (blkOk_by (N := N__law_state) (sc := defScope s__law_state) (own := [("cell", 2)]) (by decide +kernel)) (qi_seq (qv 0)) (fun _ => (qg_name 2 sc__law_state.nd)) (fun _ => qcs_nil) (fun _ => (qe_callB call_absP T.z_abs (qa_cons (qe_callTy call_intP T.z_int (qa_cons (qv 2) qa_nil)) qa_nil)))) (qa_cons (qe_op op_addP (qv 1) qe_int) qa_nil)))))))

/-! _law_draw(state, many)   owned: cells, state -/
abbrev N__law_draw : List Str := ["state", "many", "cells", "value", "mixed"]
theorem sc__law_draw : FnScope N__law_draw ["state", "many"] (defScope s__law_draw) := ⟨rfl, rfl, rfl, by decide +kernel, rfl, by decide +kernel, by decide +kernel⟩
def rd__law_draw : QTS := (qTake 0 2
  (qSeq (qWhile (qAnd (qB (qOp2 gGt (qCB gLen (qCons (qVar 2) qNil)) (qK (.int 0)))) (qB (qOp2 gEq (qOp2 gIx (qVar 2) (qK (.int 0))) (qK (.int 0))))) (qDrop (qMut "list" 2 gPop0 (qCons (qK (.int 0)) qNil))))
  (qSeq (qIf (qB (qOp2 gGt (qCB gLen (qCons (qVar 2) qNil)) (qK (.int 0)))) (qSeq (qSet 3 (qOp2 gIx (qVar 2) (qK (.int 0))))
  (qSeq (qSetIx 2 (qOp2 gDiv (qVar 3) (qVar 1)) (qK (.int 0)))
  (qRet (qOp2 gMod (qCB gIntC (qCons (qVar 3) qNil)) (qVar 1))))) qNext)
  (qSeq (qSet 4 (qOp2 gMod (qCB gIntC (qCons (qOp2 gAdd (qOp2 gMul (qOp2 gIxN (qVar 0) (qK (.int 1))) (qK (.int 48271))) (qK (.int 12345))) qNil)) (qK (.int 2147483647))))
  (qSeq (qSetSeed 0 (qVar 4))
  (qRet (qOp2 gMod (qCB gIntC (qCons (qOp2 gDiv (qVar 4) (qK (.int 64))) qNil)) (qVar 1))))))))
theorem dv__law_draw {P : Program} {w : World} {K : PySem.W.Frag} {mg : Str → Option Value} {base : Heap} {k : Nat} (T : Txt K mg) (S : FS) (lp : S.io.length = 2)
    (rd : ∀ pvs : List PV, pvs.length = S.io.length → S.pre pvs → rd__law_draw (endsOf S pvs) (mk S.io pvs ++ uns 3)) : Has P w K mg base "_law_draw" (k + 1) ["state", "many"] S := by
  obtain ⟨f, fd, F, m⟩ := T.d__law_draw.ex
  refine ⟨f, fd, fn_p F sc__law_draw lp (t := rd__law_draw) (fun cdv A outer s H E hr => ?_) rd, m, F.kp, F.binds (ps := ["state", "many"]) fun _ _ _ _ _ _ us hl => match us, hl with | [_, _], _ => rfl, F.at⟩
  exact (qss_take 0 2 sc__law_draw.nd
  (qss_cons (qs_while PassesOwn.never (qw_and (qc_cmp op_gtP (qe_callB call_lenP T.z_len (qa_cons (qv 2) qa_nil)) qe_int) (qw_and1 (qc_cmp (op_eqP (room64 hr)) (qe_ix ix_P (qv 2) qe_int) qe_int))).qc (qss_one (qs_expr (qe_mut 2 m_pop0 PySem.F.plainAttrs_list PySem.F.slot_list_pop PySem.F.type_list_pop (qa_cons qe_int qa_nil)))))
  (qss_cons (qs_if (qc_cmp op_gtP (qe_callB call_lenP T.z_len (qa_cons (qv 2) qa_nil)) qe_int) (qss_cons (qs_set 3 sc__law_draw.nd (qe_ix ix_P (qv 2) qe_int))
  (qss_cons (qs_setIx (room65 hr) 2 (qe_op op_divP (qv 3) (qv 1)) qe_int)
  (qss_one (qs_ret (qe_op op_modP (qe_callTy call_intP T.z_int (qa_cons (qv 3) qa_nil)) (qv 1)))))) qss_nil)
  (qss_cons (qs_set 4 sc__law_draw.nd (qe_op op_modP (qe_callTy call_intP T.z_int (qa_cons (qe_op op_addP (qe_op op_mulP (qe_ix ix_N (qv 0) qe_int) qe_int) qe_int) qa_nil)) qe_int))
  (qss_cons (qs_setSeed 0 (qv 4))
  (qss_one (qs_ret (qe_op op_modP (qe_callTy call_intP T.z_int (qa_cons (qe_op op_divP (qv 4) qe_int) qa_nil)) (qv 1)))))))))

/-! _law_pick(state, row)   owned: state -/
abbrev N__law_pick : List Str := ["state", "row"]
theorem sc__law_pick : FnScope N__law_pick ["state", "row"] (defScope s__law_pick) := ⟨rfl, rfl, rfl, by decide +kernel, rfl, by decide +kernel, by decide +kernel⟩
def rd__law_pick (q__law_draw : FS) : QTS := (qRet (qOp2 gIx (qVar 1) (qCall q__law_draw (qCons (qVar 0) (qCons (qCB gLen (qCons (qVar 1) qNil)) qNil)))))
theorem dv__law_pick {P : Program} {w : World} {K : PySem.W.Frag} {mg : Str → Option Value} {base : Heap} {k : Nat} {q__law_draw : FS} (T : Txt K mg) (h__law_draw : Has P w K mg base "_law_draw" k ["state", "many"] q__law_draw) (S : FS) (lp : S.io.length = 2)
    (rd : ∀ pvs : List PV, pvs.length = S.io.length → S.pre pvs → rd__law_pick q__law_draw (endsOf S pvs) (mk S.io pvs ++ uns 0)) : Has P w K mg base "_law_pick" (k + 1) ["state", "row"] S := by
  obtain ⟨f, fd, F, m⟩ := T.d__law_pick.ex
  refine ⟨f, fd, fn_p F sc__law_pick lp (t := rd__law_pick q__law_draw) (fun cdv A outer s H E hr => ?_) rd, m, F.kp, F.binds (ps := ["state", "row"]) fun _ _ _ _ _ _ us hl => match us, hl with | [_, _], _ => rfl, F.at⟩
  exact (qss_one (qs_ret (qe_ix ix_P (qv 1) (qe_callH h__law_draw hr (qa_cons (qv 0) (qa_cons (qe_callB call_lenP T.z_len (qa_cons (qv 1) qa_nil)) qa_nil))))))

/-! _law_shape(kind, own, other, third) -/
abbrev N__law_shape : List Str := ["kind", "own", "other", "third", "zero", "next_n", "grown", "pair"]
theorem sc__law_shape : FnScope N__law_shape ["kind", "own", "other", "third"] (defScope s__law_shape) := ⟨rfl, rfl, rfl, by decide +kernel, rfl, by decide +kernel, by decide +kernel⟩
def rd__law_shape : QTS := (qSeq (qAsg (qTup (qCons (qTup (qCons (qK (.str (Str.ofString "z"))) qNil)) (qCons (qTup (qCons (qK (.str (Str.ofString "s"))) (qCons (qK (.str (Str.ofString "n"))) qNil))) qNil))) (qgT 2 (qgCons (qgN 4) (qgCons (qgN 5) qgNil))))
  (qSeq (qSet 6 (qTup (qCons (qTup (qCons (qVar 2) (qCons (qK (.str (Str.ofString "n"))) qNil))) qNil)))
  (qSeq (qIf (qB (qOp2 gEq (qVar 0) (qK (.int 0)))) (qRet (qLst (qCons (qTup (qCons (qTup qNil) (qCons (qVar 4) qNil))) (qCons (qTup (qCons (qTup (qCons (qTup (qCons (qVar 1) (qCons (qK (.str (Str.ofString "n"))) qNil))) qNil)) (qCons (qVar 5) qNil))) qNil)))) qNext)
  (qSeq (qIf (qB (qOp2 gEq (qVar 0) (qK (.int 1)))) (qRet (qLst (qCons (qTup (qCons (qTup qNil) (qCons (qVar 4) qNil))) qNil))) qNext)
  (qSeq (qIf (qB (qOp2 gEq (qVar 0) (qK (.int 2)))) (qRet (qLst (qCons (qTup (qCons (qVar 6) (qCons (qVar 5) qNil))) qNil))) qNext)
  (qSeq (qIf (qB (qOp2 gEq (qVar 0) (qK (.int 3)))) (qRet (qLst (qCons (qTup (qCons (qVar 6) (qCons (qVar 5) qNil))) (qCons (qTup (qCons (qTup (qCons (qTup (qCons (qVar 1) (qCons (qK (.str (Str.ofString "n"))) qNil))) qNil)) (qCons (qVar 5) qNil))) qNil)))) qNext)
  (qSeq (qIf (qB (qOp2 gEq (qVar 0) (qK (.int 4)))) (qRet (qLst (qCons (qTup (qCons (qTup qNil) (qCons (qVar 4) qNil))) (qCons (qTup (qCons (qTup (qCons (qTup (qCons (qVar 2) (qCons (qVar 4) qNil))) (qCons (qTup (qCons (qVar 1) (qCons (qK (.str (Str.ofString "n"))) qNil))) qNil))) (qCons (qVar 5) qNil))) qNil)))) qNext)
  (qSeq (qIf (qB (qOp2 gEq (qVar 0) (qK (.int 5)))) (qRet (qLst (qCons (qTup (qCons (qTup qNil) (qCons (qVar 4) qNil))) (qCons (qTup (qCons (qVar 6) (qCons (qVar 5) qNil))) qNil)))) qNext)
  (qSeq (qIf (qB (qOp2 gEq (qVar 0) (qK (.int 6)))) (qRet (qLst (qCons (qTup (qCons (qTup (qCons (qTup (qCons (qVar 2) (qCons (qVar 5) qNil))) qNil)) (qCons (qK (.str (Str.ofString "n"))) qNil))) qNil))) qNext)
  (qSeq (qIf (qB (qOp2 gEq (qVar 0) (qK (.int 7)))) (qRet (qLst (qCons (qTup (qCons (qTup (qCons (qTup (qCons (qVar 2) (qCons (qK (.str (Str.ofString "n"))) qNil))) (qCons (qTup (qCons (qVar 3) (qCons (qK (.str (Str.ofString "n"))) qNil))) qNil))) (qCons (qVar 5) qNil))) qNil))) qNext)
  (qSeq (qIf (qB (qOp2 gEq (qVar 0) (qK (.int 8)))) (qRet (qLst (qCons (qTup (qCons (qTup (qCons (qTup (qCons (qVar 2) (qCons (qK (.str (Str.ofString "n"))) qNil))) (qCons (qTup (qCons (qVar 3) (qCons (qK (.str (Str.ofString "n"))) qNil))) qNil))) (qCons (qVar 4) qNil))) qNil))) qNext)
  (qSeq (qIf (qB (qOp2 gEq (qVar 0) (qK (.int 9)))) (qRet (qLst (qCons (qTup (qCons (qTup (qCons (qTup (qCons (qVar 1) (qCons (qK (.str (Str.ofString "n"))) qNil))) qNil)) (qCons (qVar 5) qNil))) qNil))) qNext)
  (qSeq (qIf (qB (qOp2 gEq (qVar 0) (qK (.int 10)))) (qRet (qLst (qCons (qTup (qCons (qTup qNil) (qCons (qVar 4) qNil))) (qCons (qTup (qCons (qVar 6) (qCons (qVar 5) qNil))) (qCons (qTup (qCons (qTup (qCons (qTup (qCons (qVar 3) (qCons (qK (.str (Str.ofString "n"))) qNil))) qNil)) (qCons (qVar 5) qNil))) qNil))))) qNext)
  (qSeq (qIf (qB (qOp2 gEq (qVar 0) (qK (.int 11)))) (qSeq (qSet 7 (qTup (qCons (qK (.str (Str.ofString "p"))) (qCons (qK (.str (Str.ofString "n"))) (qCons (qK (.str (Str.ofString "m"))) qNil)))))
  (qRet (qLst (qCons (qTup (qCons (qTup qNil) (qCons (qVar 4) qNil))) (qCons (qTup (qCons (qTup (qCons (qTup (qCons (qVar 1) (qCons (qK (.str (Str.ofString "n"))) qNil))) (qCons (qTup (qCons (qVar 2) (qCons (qK (.str (Str.ofString "m"))) qNil))) qNil))) (qCons (qVar 7) qNil))) (qCons (qTup (qCons (qTup (qCons (qTup (qCons (qVar 1) (qCons (qVar 7) qNil))) qNil)) (qCons (qK (.str (Str.ofString "n"))) qNil))) qNil)))))) qNext)
  (qSeq (qIf (qB (qOp2 gEq (qVar 0) (qK (.int 12)))) (qRet (qLst (qCons (qTup (qCons (qTup qNil) (qCons (qVar 4) qNil))) (qCons (qTup (qCons (qTup (qCons (qTup (qCons (qVar 1) (qCons (qK (.str (Str.ofString "n"))) qNil))) qNil)) (qCons (qVar 5) qNil))) (qCons (qTup (qCons (qTup (qCons (qTup (qCons (qVar 1) (qCons (qVar 5) qNil))) qNil)) (qCons (qK (.str (Str.ofString "n"))) qNil))) qNil))))) qNext)
  (qSeq (qIf (qB (qOp2 gEq (qVar 0) (qK (.int 13)))) (qRet (qLst (qCons (qTup (qCons (qTup qNil) (qCons (qTup (qCons (qK (.str (Str.ofString "o"))) qNil)) qNil))) (qCons (qTup (qCons (qVar 6) (qCons (qVar 5) qNil))) qNil)))) qNext)
  (qRet (qLst (qCons (qTup (qCons (qTup qNil) (qCons (qVar 4) qNil))) (qCons (qTup (qCons (qTup (qCons (qTup (qCons (qVar 1) (qCons (qK (.str (Str.ofString "n"))) qNil))) (qCons (qTup (qCons (qVar 2) (qCons (qK (.str (Str.ofString "m"))) qNil))) qNil))) (qCons (qVar 5) qNil))) qNil))))))))))))))))))))
theorem dv__law_shape {P : Program} {w : World} {K : PySem.W.Frag} {mg : Str → Option Value} {base : Heap} {k : Nat} (T : Txt K mg) (S : FS) (lp : S.io.length = 4)
    (rd : ∀ pvs : List PV, pvs.length = S.io.length → S.pre pvs → rd__law_shape (endsOf S pvs) (mk S.io pvs ++ uns 4)) : Has P w K mg base "_law_shape" (k + 1) ["kind", "own", "other", "third"] S := by
  obtain ⟨f, fd, F, m⟩ := T.d__law_shape.ex
  refine ⟨f, fd, fn_p F sc__law_shape lp (t := rd__law_shape) (fun cdv A outer s H E hr => ?_) rd, m, F.kp, F.binds (ps := ["kind", "own", "other", "third"]) fun _ _ _ _ _ _ us hl => match us, hl with | [_, _, _, _], _ => rfl, F.at⟩
  exact (qss_cons (qs_asg (qe_tup (qa_cons (qe_tup (qa_cons qe_str qa_nil)) (qa_cons (qe_tup (qa_cons qe_str (qa_cons qe_str qa_nil))) qa_nil))) (qg_tup rfl (qgs_cons (qg_name 4 sc__law_shape.nd) (qgs_cons (qg_name 5 sc__law_shape.nd) qgs_nil))))
  (qss_cons (qs_set 6 sc__law_shape.nd (qe_tup (qa_cons (qe_tup (qa_cons (qv 2) (qa_cons qe_str qa_nil))) qa_nil)))
  (qss_cons (qs_if (qc_cmp (op_eqP (room64 hr)) (qv 0) qe_int) (qss_one (qs_ret (qe_lst (qa_cons (qe_tup (qa_cons (qe_tup qa_nil) (qa_cons (qv 4) qa_nil))) (qa_cons (qe_tup (qa_cons (qe_tup (qa_cons (qe_tup (qa_cons (qv 1) (qa_cons qe_str qa_nil))) qa_nil)) (qa_cons (qv 5) qa_nil))) qa_nil))))) qss_nil)
  (qss_cons (qs_if (qc_cmp (op_eqP (room64 hr)) (qv 0) qe_int) (qss_one (qs_ret (qe_lst (qa_cons (qe_tup (qa_cons (qe_tup qa_nil) (qa_cons (qv 4) qa_nil))) qa_nil)))) qss_nil)
  (qss_cons (qs_if (qc_cmp (op_eqP (room64 hr)) (qv 0) qe_int) (qss_one (qs_ret (qe_lst (qa_cons (qe_tup (qa_cons (qv 6) (qa_cons (qv 5) qa_nil))) qa_nil)))) qss_nil)
  (qss_cons (qs_if (qc_cmp (op_eqP (room64 hr)) (qv 0) qe_int) (qss_one (qs_ret (qe_lst (qa_cons (qe_tup (qa_cons (qv 6) (qa_cons (qv 5) qa_nil))) (qa_cons (qe_tup (qa_cons (qe_tup (qa_cons (qe_tup (qa_cons (qv 1) (qa_cons qe_str qa_nil))) qa_nil)) (qa_cons (qv 5) qa_nil))) qa_nil))))) qss_nil)
  (qss_cons (qs_if (qc_cmp (op_eqP (room64 hr)) (qv 0) qe_int) (qss_one (qs_ret (qe_lst (qa_cons (qe_tup (qa_cons (qe_tup qa_nil) (qa_cons (qv 4) qa_nil))) (qa_cons (qe_tup (qa_cons (qe_tup (qa_cons (qe_tup (qa_cons (qv 2) (qa_cons (qv 4) qa_nil))) (qa_cons (qe_tup (qa_cons (qv 1) (qa_cons qe_str qa_nil))) qa_nil))) (qa_cons (qv 5) qa_nil))) qa_nil))))) qss_nil)
  (qss_cons (qs_if (qc_cmp (op_eqP (room64 hr)) (qv 0) qe_int) (qss_one (qs_ret (qe_lst (qa_cons (qe_tup (qa_cons (qe_tup qa_nil) (qa_cons (qv 4) qa_nil))) (qa_cons (qe_tup (qa_cons (qv 6) (qa_cons (qv 5) qa_nil))) qa_nil))))) qss_nil)
  (qss_cons (qs_if (qc_cmp (op_eqP (room64 hr)) (qv 0) qe_int) (qss_one (qs_ret (qe_lst (qa_cons (qe_tup (qa_cons (qe_tup (qa_cons (qe_tup (qa_cons (qv 2) (qa_cons (qv 5) qa_nil))) qa_nil)) (qa_cons qe_str qa_nil))) qa_nil)))) qss_nil)
  (qss_cons (qs_if (qc_cmp (op_eqP (room64 hr)) (qv 0) qe_int) (qss_one (qs_ret (qe_lst (qa_cons (qe_tup (qa_cons (qe_tup (qa_cons (qe_tup (qa_cons (qv 2) (qa_cons qe_str qa_nil))) (qa_cons (qe_tup (qa_cons (qv 3) (qa_cons qe_str qa_nil))) qa_nil))) (qa_cons (qv 5) qa_nil))) qa_nil)))) qss_nil)
  (qss_cons (qs_if (qc_cmp (op_eqP (room64 hr)) (qv 0) qe_int) (qss_one (qs_ret (qe_lst (qa_cons (qe_tup (qa_cons (qe_tup (qa_cons (qe_tup (qa_cons (qv 2) (qa_cons qe_str qa_nil))) (qa_cons (qe_tup (qa_cons (qv 3) (qa_cons qe_str qa_nil))) qa_nil))) (qa_cons (qv 4) qa_nil))) qa_nil)))) qss_nil)
  (qss_cons (qs_if (qc_cmp (op_eqP (room64 hr)) (qv 0) qe_int) (qss_one (qs_ret (qe_lst (qa_cons (qe_tup (qa_cons (qe_tup (qa_cons (qe_tup (qa_cons (qv 1) (qa_cons qe_str qa_nil))) qa_nil)) (qa_cons (qv 5) qa_nil))) qa_nil)))) qss_nil)
  (qss_cons (qs_if (qc_cmp (op_eqP (room64 hr)) (qv 0) qe_int) (qss_one (qs_ret (qe_lst (qa_cons (qe_tup (qa_cons (qe_tup qa_nil) (qa_cons (qv 4) qa_nil))) (qa_cons (qe_tup (qa_cons (qv 6) (qa_cons (qv 5) qa_nil))) (qa_cons (qe_tup (qa_cons (qe_tup (qa_cons (qe_tup (qa_cons (qv 3) (qa_cons qe_str qa_nil))) qa_nil)) (qa_cons (qv 5) qa_nil))) qa_nil)))))) qss_nil)
  (qss_cons (qs_if (qc_cmp (op_eqP (room64 hr)) (qv 0) qe_int) (qss_cons (qs_set 7 sc__law_shape.nd (qe_tup (qa_cons qe_str (qa_cons qe_str (qa_cons qe_str qa_nil)))))
  (qss_one (qs_ret (qe_lst (qa_cons (qe_tup (qa_cons (qe_tup qa_nil) (qa_cons (qv 4) qa_nil))) (qa_cons (qe_tup (qa_cons (qe_tup (qa_cons (qe_tup (qa_cons (qv 1) (qa_cons qe_str qa_nil))) (qa_cons (qe_tup (qa_cons (qv 2) (qa_cons qe_str qa_nil))) qa_nil))) (qa_cons (qv 7) qa_nil))) (qa_cons (qe_tup (qa_cons (qe_tup (qa_cons (qe_tup (qa_cons (qv 1) (qa_cons (qv 7) qa_nil))) qa_nil)) (qa_cons qe_str qa_nil))) qa_nil))))))) qss_nil)
  (qss_cons (qs_if (qc_cmp (op_eqP (room64 hr)) (qv 0) qe_int) (qss_one (qs_ret (qe_lst (qa_cons (qe_tup (qa_cons (qe_tup qa_nil) (qa_cons (qv 4) qa_nil))) (qa_cons (qe_tup (qa_cons (qe_tup (qa_cons (qe_tup (qa_cons (qv 1) (qa_cons qe_str qa_nil))) qa_nil)) (qa_cons (qv 5) qa_nil))) (qa_cons (qe_tup (qa_cons (qe_tup (qa_cons (qe_tup (qa_cons (qv 1) (qa_cons (qv 5) qa_nil))) qa_nil)) (qa_cons qe_str qa_nil))) qa_nil)))))) qss_nil)
  (qss_cons (qs_if (qc_cmp (op_eqP (room64 hr)) (qv 0) qe_int) (qss_one (qs_ret (qe_lst (qa_cons (qe_tup (qa_cons (qe_tup qa_nil) (qa_cons (qe_tup (qa_cons qe_str qa_nil)) qa_nil))) (qa_cons (qe_tup (qa_cons (qv 6) (qa_cons (qv 5) qa_nil))) qa_nil))))) qss_nil)
  (qss_one (qs_ret (qe_lst (qa_cons (qe_tup (qa_cons (qe_tup qa_nil) (qa_cons (qv 4) qa_nil))) (qa_cons (qe_tup (qa_cons (qe_tup (qa_cons (qe_tup (qa_cons (qv 1) (qa_cons qe_str qa_nil))) (qa_cons (qe_tup (qa_cons (qv 2) (qa_cons qe_str qa_nil))) qa_nil))) (qa_cons (qv 5) qa_nil))) qa_nil)))))))))))))))))))))

/-! _law_table(state)   owned: constructors, state -/
abbrev N__law_table : List Str := ["state", "makers", "families", "constructors", "own", "kind", "parts", "index"]
theorem sc__law_table : FnScope N__law_table ["state"] (defScope s__law_table) := ⟨rfl, rfl, rfl, by decide +kernel, rfl, by decide +kernel, by decide +kernel⟩
def rd__law_table (q__law_draw q__law_shape q__law_pick : FS) : QTS := (qSeq (qSet 1 (qSl gSl (qTup (qCons (qTup (qCons (qK (.str (Str.ofString "z"))) (qCons (qK (.int 0)) qNil))) (qCons (qTup (qCons (qK (.str (Str.ofString "s"))) (qCons (qK (.int 1)) qNil))) (qCons (qTup (qCons (qK (.str (Str.ofString "p"))) (qCons (qK (.int 2)) qNil))) (qCons (qTup (qCons (qK (.str (Str.ofString "o"))) (qCons (qK (.int 0)) qNil))) qNil))))) qNo (qPart (qOp2 gIx (qLst (qCons (qK (.int 2)) (qCons (qK (.int 2)) (qCons (qK (.int 4)) qNil)))) (qCall q__law_draw (qCons (qVar 0) (qCons (qK (.int 3)) qNil)))))))
  (qSeq (qSet 2 (qSl gSl (qLst (qCons (qK (.str (Str.ofString "Fa"))) (qCons (qK (.str (Str.ofString "Fb"))) (qCons (qK (.str (Str.ofString "Fc"))) (qCons (qK (.str (Str.ofString "Fd"))) qNil))))) qNo (qPart (qOp2 gAdd (qK (.int 2)) (qCall q__law_draw (qCons (qVar 0) (qCons (qK (.int 3)) qNil)))))))
  (qSeq (qOwn 3 (qLst qNil))
  (qSeq (qFor (qIt (qVar 2)) (qgN 4) (qSeq (qSet 5 (qCall q__law_draw (qCons (qVar 0) (qCons (qK (.int 15)) qNil))))
  (qSeq (qIf (qAnd (qB (qOp2 gLt (qCB gLen (qCons (qVar 1) qNil)) (qK (.int 4)))) (qB (qOp2 gIn (qVar 5) (qTup (qCons (qK (.int 11)) (qCons (qK (.int 13)) qNil)))))) (qSet 5 (qK (.int 0))) qNext)
  (qFor (qIt (qCall q__law_shape (qCons (qVar 5) (qCons (qVar 4) (qCons (qCall q__law_pick (qCons (qVar 0) (qCons (qVar 2) qNil))) (qCons (qCall q__law_pick (qCons (qVar 0) (qCons (qVar 2) qNil))) qNil)))))) (qgT 2 (qgCons (qgN 6) (qgCons (qgN 7) qgNil))) (qDrop (qMut "list" 3 gAppend (qCons (qTup (qCons (qOp2 gAdd (qK (.str (Str.ofString "K"))) (qCB gStr (qCons (qCB gLen (qCons (qVar 3) qNil)) qNil))) (qCons (qVar 6) (qCons (qVar 4) (qCons (qVar 7) qNil))))) qNil)))))))
  (qRet (qTup (qCons (qK (.str (Str.ofString "table"))) (qCons (qVar 1) (qCons (qCB gTuple (qCons (qVar 2) qNil)) (qCons (qCB gTuple (qCons (qVar 3) qNil)) qNil))))))))))
theorem dv__law_table {P : Program} {w : World} {K : PySem.W.Frag} {mg : Str → Option Value} {base : Heap} {k : Nat} {q__law_draw q__law_shape q__law_pick : FS} (T : Txt K mg) (h__law_draw : Has P w K mg base "_law_draw" k ["state", "many"] q__law_draw) (h__law_shape : Has P w K mg base "_law_shape" k ["kind", "own", "other", "third"] q__law_shape) (h__law_pick : Has P w K mg base "_law_pick" k ["state", "row"] q__law_pick) (S : FS) (lp : S.io.length = 1)
    (rd : ∀ pvs : List PV, pvs.length = S.io.length → S.pre pvs → rd__law_table q__law_draw q__law_shape q__law_pick (endsOf S pvs) (mk S.io pvs ++ uns 7)) : Has P w K mg base "_law_table" (k + 1) ["state"] S := by
  obtain ⟨f, fd, F, m⟩ := T.d__law_table.ex
  refine ⟨f, fd, fn_p F sc__law_table lp (t := rd__law_table q__law_draw q__law_shape q__law_pick) (fun cdv A outer s H E hr => ?_) rd, m, F.kp, F.binds (ps := ["state"]) fun _ _ _ _ _ _ us hl => match us, hl with | [_], _ => rfl, F.at⟩
  exact (qss_cons (qs_set 1 sc__law_table.nd (qe_slice sl_seq (qe_tup (qa_cons (qe_tup (qa_cons qe_str (qa_cons qe_int qa_nil))) (qa_cons (qe_tup (qa_cons qe_str (qa_cons qe_int qa_nil))) (qa_cons (qe_tup (qa_cons qe_str (qa_cons qe_int qa_nil))) (qa_cons (qe_tup (qa_cons qe_str (qa_cons qe_int qa_nil))) qa_nil))))) qo_none (qo_some (qe_ix ix_P (qe_lst (qa_cons qe_int (qa_cons qe_int (qa_cons qe_int qa_nil)))) (qe_callH h__law_draw hr (qa_cons (qv 0) (qa_cons qe_int qa_nil)))))))
  (qss_cons (qs_set 2 sc__law_table.nd (qe_slice sl_seq (qe_lst (qa_cons qe_str (qa_cons qe_str (qa_cons qe_str (qa_cons qe_str qa_nil))))) qo_none (qo_some (qe_op op_addP qe_int (qe_callH h__law_draw hr (qa_cons (qv 0) (qa_cons qe_int qa_nil)))))))
  (qss_cons (qs_own 3 sc__law_table.nd (qe_lst qa_nil))
  (qss_cons (qs_for PassesOwn.never rfl (qi_seq (qv 2)) (qg_name 4 sc__law_table.nd) (qss_cons (qs_set 5 sc__law_table.nd (qe_callH h__law_draw hr (qa_cons (qv 0) (qa_cons qe_int qa_nil))))
  (qss_cons (qs_if (qw_and (qc_cmp op_ltP (qe_callB call_lenP T.z_len (qa_cons (qv 1) qa_nil)) qe_int) (qw_and1 (qc_cmp (op_inP (room65 hr)) (qv 5) (qe_tup (qa_cons qe_int (qa_cons qe_int qa_nil)))))).qc (qss_one (qs_set 5 sc__law_table.nd qe_int)) qss_nil)
  (qss_one (qs_for PassesOwn.never rfl (qi_seq (qe_callH h__law_shape hr (qa_cons (qv 5) (qa_cons (qv 4) (qa_cons (qe_callH h__law_pick hr (qa_cons (qv 0) (qa_cons (qv 2) qa_nil))) (qa_cons (qe_callH h__law_pick hr (qa_cons (qv 0) (qa_cons (qv 2) qa_nil))) qa_nil)))))) (qg_tup rfl (qgs_cons (qg_name 6 sc__law_table.nd) (qgs_cons (qg_name 7 sc__law_table.nd) qgs_nil))) (qss_one (qs_expr (qe_mut 3 m_append PySem.F.plainAttrs_list PySem.F.slot_list_append PySem.F.type_list_append (qa_cons (qe_tup (qa_cons (qe_op op_addP qe_str (qe_callTy call_strP T.z_str (qa_cons (qe_callB call_lenP T.z_len (qa_cons (qv 3) qa_nil)) qa_nil))) (qa_cons (qv 6) (qa_cons (qv 4) (qa_cons (qv 7) qa_nil))))) qa_nil)))))))))
  (qss_one (qs_ret (qe_tup (qa_cons qe_str (qa_cons (qv 1) (qa_cons (qe_callTy call_tupleP T.z_tuple (qa_cons (qv 2) qa_nil)) (qa_cons (qe_callTy call_tupleP T.z_tuple (qa_cons (qv 3) qa_nil)) qa_nil)))))))))))

/-! _law_constructors(table, family) -/
abbrev N__law_constructors : List Str := ["table", "family", "row"]
theorem sc__law_constructors : FnScope N__law_constructors ["table", "family"] (defScope s__law_constructors) := ⟨rfl, rfl, rfl, by decide +kernel, rfl, by decide +kernel, by decide +kernel⟩
def rd__law_constructors : QTS := (qRet (qLc (qIt (qOp2 gIx (qVar 0) (qK (.int 3)))) (qgN 2) (qB (qOp2 gEq (qOp2 gIx (qVar 2) (qK (.int 2))) (qVar 1))) (qVar 2) [2]))
theorem dv__law_constructors {P : Program} {w : World} {K : PySem.W.Frag} {mg : Str → Option Value} {base : Heap} {k : Nat} (T : Txt K mg) (S : FS) (lp : S.io.length = 2)
    (rd : ∀ pvs : List PV, pvs.length = S.io.length → S.pre pvs → rd__law_constructors (endsOf S pvs) (mk S.io pvs ++ uns 1)) : Has P w K mg base "_law_constructors" (k + 1) ["table", "family"] S := by
  obtain ⟨f, fd, F, m⟩ := T.d__law_constructors.ex
  refine ⟨f, fd, fn_p F sc__law_constructors lp (t := rd__law_constructors) (fun cdv A outer s H E hr => ?_) rd, m, F.kp, F.binds (ps := ["table", "family"]) fun _ _ _ _ _ _ us hl => match us, hl with | [_, _], _ => rfl, F.at⟩
  exact (qss_one (qs_ret (qe_lc rfl sc__law_constructors.nd (blkOk_by (N := N__law_constructors) (sc := defScope s__law_constructors) (own := [("row", 2)]) (by decide +kernel)) (qi_seq (qe_ix ix_P (qv 0) qe_int)) (fun _ => (qg_name 2 sc__law_constructors.nd)) (fun _ => (qcs_one (qc_cmp (op_eqP (room64 hr)) (qe_ix ix_P (qv 2) qe_int) (qv 1)))) (fun _ => (qv 2)))))

/-! _law_fit(patterns, trees)   owned: found, pairs -/
abbrev N__law_fit : List Str := ["patterns", "trees", "found", "pairs", "pattern", "tree", "k"]
theorem sc__law_fit : FnScope N__law_fit ["patterns", "trees"] (defScope s__law_fit) := ⟨rfl, rfl, rfl, by decide +kernel, rfl, by decide +kernel, by decide +kernel⟩
def rd__law_fit : QTS := (qSeq (qOwn 2 qDict0)
  (qSeq (qOwn 3 (qLc (qRng1 (qCons (qCB gLen (qCons (qVar 0) qNil)) qNil)) (qgN 6) qYes (qTup (qCons (qOp2 gIx (qVar 0) (qVar 6)) (qCons (qOp2 gIx (qVar 1) (qVar 6)) qNil))) [6]))
  (qSeq (qWhile (qB (qOp2 gGt (qCB gLen (qCons (qVar 3) qNil)) (qK (.int 0)))) (qSeq (qAsg (qMut "list" 3 gPop qNil) (qgT 2 (qgCons (qgN 4) (qgCons (qgN 5) qgNil))))
  (qIf (qTru (qCB gIsiT (qCons (qVar 4) (qCons (qK (.ty "str")) qNil)))) (qSeq (qIf (qAnd (qB (qOp2 gIn (qVar 4) (qVar 2))) (qB (qOp2 gNe (qOp2 gIx (qVar 2) (qVar 4)) (qVar 5)))) (qRet (qK .non)) qNext)
  (qSetIx 2 (qVar 5) (qVar 4))) (qIf (qB (qOp2 gNe (qOp2 gIx (qVar 4) (qK (.int 0))) (qOp2 gIx (qVar 5) (qK (.int 0))))) (qRet (qK .non)) (qOwn 3 (qOp2 gAdd (qVar 3) (qLc (qRng2 (qCons (qK (.int 1)) (qCons (qCB gLen (qCons (qVar 4) qNil)) qNil))) (qgN 6) qYes (qTup (qCons (qOp2 gIx (qVar 4) (qVar 6)) (qCons (qOp2 gIx (qVar 5) (qVar 6)) qNil))) [6])))))))
  (qRet (qVar 2)))))
theorem dv__law_fit {P : Program} {w : World} {K : PySem.W.Frag} {mg : Str → Option Value} {base : Heap} {k : Nat} (T : Txt K mg) (S : FS) (lp : S.io.length = 2)
    (rd : ∀ pvs : List PV, pvs.length = S.io.length → S.pre pvs → rd__law_fit (endsOf S pvs) (mk S.io pvs ++ uns 5)) : Has P w K mg base "_law_fit" (k + 1) ["patterns", "trees"] S := by
  obtain ⟨f, fd, F, m⟩ := T.d__law_fit.ex
  refine ⟨f, fd, fn_p F sc__law_fit lp (t := rd__law_fit) (fun cdv A outer s H E hr => ?_) rd, m, F.kp, F.binds (ps := ["patterns", "trees"]) fun _ _ _ _ _ _ us hl => match us, hl with | [_, _], _ => rfl, F.at⟩
  exact (qss_cons (qs_own 2 sc__law_fit.nd qe_dict0)
  (qss_cons (qs_ownLc 3 rfl sc__law_fit.nd (sw_true rfl rfl rfl (by decide +kernel)) (blkOk_by (N := N__law_fit) (sc := defScope s__law_fit) (own := [("k", 6)]) (by decide +kernel)) (qi_range1 T.z_range (qa_cons (qe_callB call_lenP T.z_len (qa_cons (qv 0) qa_nil)) qa_nil)) (fun _ => (qg_name 6 sc__law_fit.nd)) (fun _ => qcs_nil) (fun _ => (qe_tup (qa_cons (qe_ix ix_P (qv 0) (qv 6)) (qa_cons (qe_ix ix_P (qv 1) (qv 6)) qa_nil)))))
  (qss_cons (qs_while PassesOwn.never (qc_cmp op_gtP (qe_callB call_lenP T.z_len (qa_cons (qv 3) qa_nil)) qe_int) (qss_cons (qs_asg (qe_mut0 3 m_pop PySem.F.plainAttrs_list PySem.F.slot_list_pop PySem.F.type_list_pop) (qg_tup rfl (qgs_cons (qg_name 4 sc__law_fit.nd) (qgs_cons (qg_name 5 sc__law_fit.nd) qgs_nil))))
  (qss_one (qs_if (qc_tru (qe_callB call_isiPT T.z_isinstance (qa_cons (qv 4) (qa_cons (qe_ty T.z_str) qa_nil)))) (qss_cons (qs_if (qw_and (qc_cmp (op_inP (room65 hr)) (qv 4) (qv 2)) (qw_and1 (qc_cmp (op_neP (room64 hr)) (qe_ix ix_P (qv 2) (qv 4)) (qv 5)))).qc (qss_one (qs_ret qe_non)) qss_nil)
  (qss_one (qs_setIx (room65 hr) 2 (qv 5) (qv 4)))) (qss_one (qs_if (qc_cmp (op_neP (room64 hr)) (qe_ix ix_P (qv 4) qe_int) (qe_ix ix_P (qv 5) qe_int)) (qss_one (qs_ret qe_non)) (qss_one (qs_own 3 sc__law_fit.nd (qe_op op_addP (qv 3) (qe_lc rfl sc__law_fit.nd (blkOk_by (N := N__law_fit) (sc := defScope s__law_fit) (own := [("k", 6)]) (by decide +kernel)) (qi_range2 T.z_range (qa_cons qe_int (qa_cons (qe_callB call_lenP T.z_len (qa_cons (qv 4) qa_nil)) qa_nil))) (fun _ => (qg_name 6 sc__law_fit.nd)) (fun _ => qcs_nil) (fun _ => (qe_tup (qa_cons (qe_ix ix_P (qv 4) (qv 6)) (qa_cons (qe_ix ix_P (qv 5) (qv 6)) qa_nil))))))))))))))
  (qss_one (qs_ret (qv 2))))))

/-! _law_put(term, trees) -/
abbrev N__law_put : List Str := ["term", "trees", "part"]
theorem sc__law_put : FnScope N__law_put ["term", "trees"] (defScope s__law_put) := ⟨rfl, rfl, rfl, by decide +kernel, rfl, by decide +kernel, by decide +kernel⟩
def rd__law_put (q__law_put : FS) : QTS := (qSeq (qIf (qTru (qCB gIsiT (qCons (qVar 0) (qCons (qK (.ty "str")) qNil)))) (qRet (qOp2 gIx (qVar 1) (qVar 0))) qNext)
  (qRet (qOp2 gAdd (qTup (qCons (qOp2 gIx (qVar 0) (qK (.int 0))) qNil)) (qCB gTuple (qCons (qLc (qIt (qSl gSl (qVar 0) (qPart (qK (.int 1))) qNo)) (qgN 2) qYes (qCall q__law_put (qCons (qVar 2) (qCons (qVar 1) qNil))) [2]) qNil)))))
theorem dv__law_put {P : Program} {w : World} {K : PySem.W.Frag} {mg : Str → Option Value} {base : Heap} {k : Nat} {q__law_put : FS} (T : Txt K mg) (h__law_put : Has P w K mg base "_law_put" k ["term", "trees"] q__law_put) (S : FS) (lp : S.io.length = 2)
    (rd : ∀ pvs : List PV, pvs.length = S.io.length → S.pre pvs → rd__law_put q__law_put (endsOf S pvs) (mk S.io pvs ++ uns 1)) : Has P w K mg base "_law_put" (k + 1) ["term", "trees"] S := by
  obtain ⟨f, fd, F, m⟩ := T.d__law_put.ex
  refine ⟨f, fd, fn_p F sc__law_put lp (t := rd__law_put q__law_put) (fun cdv A outer s H E hr => ?_) rd, m, F.kp, F.binds (ps := ["term", "trees"]) fun _ _ _ _ _ _ us hl => match us, hl with | [_, _], _ => rfl, F.at⟩
  exact (qss_cons (qs_if (qc_tru (qe_callB call_isiPT T.z_isinstance (qa_cons (qv 0) (qa_cons (qe_ty T.z_str) qa_nil)))) (qss_one (qs_ret (qe_ix ix_P (qv 1) (qv 0)))) qss_nil)
  (qss_one (qs_ret (qe_op op_addP (qe_tup (qa_cons (qe_ix ix_P (qv 0) qe_int) qa_nil)) (qe_callTy call_tupleP T.z_tuple (qa_cons (qe_lc rfl sc__law_put.nd (blkOk_by (N := N__law_put) (sc := defScope s__law_put) (own := [("part", 2)]) (by decide +kernel)) (qi_seq (qe_slice sl_seq (qv 0) (qo_some qe_int) qo_none)) (fun _ => (qg_name 2 sc__law_put.nd)) (fun _ => qcs_nil) (fun _ => (qe_callH h__law_put hr (qa_cons (qv 2) (qa_cons (qv 1) qa_nil))))) qa_nil))))))

/-! _law_index(table, value) -/
abbrev N__law_index : List Str := ["table", "value", "row", "found", "trees", "one", "part", "pair"]
theorem sc__law_index : FnScope N__law_index ["table", "value"] (defScope s__law_index) := ⟨rfl, rfl, rfl, by decide +kernel, rfl, by decide +kernel, by decide +kernel⟩
def rd__law_index (q__law_index q__law_fit q__law_put : FS) : QTS := (qSeq (qSet 2 (qOp2 gIx (qLc (qIt (qOp2 gIx (qVar 0) (qK (.int 3)))) (qgN 5) (qB (qOp2 gEq (qOp2 gIx (qVar 5) (qK (.int 0))) (qOp2 gIx (qVar 1) (qK (.int 0))))) (qVar 5) [5]) (qK (.int 0))))
  (qSeq (qSet 3 (qLc (qIt (qSl gSl (qVar 1) (qPart (qK (.int 1))) qNo)) (qgN 6) qYes (qCall q__law_index (qCons (qVar 0) (qCons (qVar 6) qNil))) [6]))
  (qSeq (qIf (qOr (qB (qOp2 gIn (qK .non) (qVar 3))) (qB (qOp2 gNe (qLc (qIt (qVar 3)) (qgN 7) qYes (qOp2 gIx (qVar 7) (qK (.int 0))) [7]) (qLc (qIt (qOp2 gIx (qVar 2) (qK (.int 1)))) (qgN 7) qYes (qOp2 gIx (qVar 7) (qK (.int 0))) [7])))) (qRet (qK .non)) qNext)
  (qSeq (qSet 4 (qCall q__law_fit (qCons (qLc (qIt (qOp2 gIx (qVar 2) (qK (.int 1)))) (qgN 7) qYes (qOp2 gIx (qVar 7) (qK (.int 1))) [7]) (qCons (qLc (qIt (qVar 3)) (qgN 7) qYes (qOp2 gIx (qVar 7) (qK (.int 1))) [7]) qNil))))
  (qSeq (qIf (qB (qOp2 gIs (qVar 4) (qK .non))) (qRet (qK .non)) qNext)
  (qRet (qTup (qCons (qOp2 gIx (qVar 2) (qK (.int 2))) (qCons (qCall q__law_put (qCons (qOp2 gIx (qVar 2) (qK (.int 3))) (qCons (qVar 4) qNil))) qNil)))))))))
theorem dv__law_index {P : Program} {w : World} {K : PySem.W.Frag} {mg : Str → Option Value} {base : Heap} {k : Nat} {q__law_index q__law_fit q__law_put : FS} (T : Txt K mg) (h__law_index : Has P w K mg base "_law_index" k ["table", "value"] q__law_index) (h__law_fit : Has P w K mg base "_law_fit" k ["patterns", "trees"] q__law_fit) (h__law_put : Has P w K mg base "_law_put" k ["term", "trees"] q__law_put) (S : FS) (lp : S.io.length = 2)
    (rd : ∀ pvs : List PV, pvs.length = S.io.length → S.pre pvs → rd__law_index q__law_index q__law_fit q__law_put (endsOf S pvs) (mk S.io pvs ++ uns 6)) : Has P w K mg base "_law_index" (k + 1) ["table", "value"] S := by
  obtain ⟨f, fd, F, m⟩ := T.d__law_index.ex
  refine ⟨f, fd, fn_p F sc__law_index lp (t := rd__law_index q__law_index q__law_fit q__law_put) (fun cdv A outer s H E hr => ?_) rd, m, F.kp, F.binds (ps := ["table", "value"]) fun _ _ _ _ _ _ us hl => match us, hl with | [_, _], _ => rfl, F.at⟩
  exact (qss_cons (qs_set 2 sc__law_index.nd (qe_ix ix_P (qe_lc rfl sc__law_index.nd (blkOk_by (N := N__law_index) (sc := defScope s__law_index) (own := [("one", 5)]) (by decide +kernel)) (qi_seq (qe_ix ix_P (qv 0) qe_int)) (fun _ => (qg_name 5 sc__law_index.nd)) (fun _ => (qcs_one (qc_cmp (op_eqP (room64 hr)) (qe_ix ix_P (qv 5) qe_int) (qe_ix ix_P (qv 1) qe_int)))) (fun _ => (qv 5))) qe_int))
  (qss_cons (qs_setLc 3 rfl sc__law_index.nd (sw_true rfl rfl rfl (by decide +kernel)) (blkOk_by (N := N__law_index) (sc := defScope s__law_index) (own := [("part", 6)]) (by decide +kernel)) (qi_seq (qe_slice sl_seq (qv 1) (qo_some qe_int) qo_none)) (fun _ => (qg_name 6 sc__law_index.nd)) (fun _ => qcs_nil) (fun _ => (qe_callH h__law_index hr (qa_cons (qv 0) (qa_cons (qv 6) qa_nil)))))
  (qss_cons (qs_if (qw_or (qc_cmp (op_inP (room65 hr)) qe_non (qv 3)) (qw_or1 (qc_cmp (op_neP (room64 hr)) (qe_lc rfl sc__law_index.nd (blkOk_by (N := N__law_index) (sc := defScope s__law_index) (own := [("pair", 7)]) (by decide +kernel)) (qi_seq (qv 3)) (fun _ => (qg_name 7 sc__law_index.nd)) (fun _ => qcs_nil) (fun _ => (qe_ix ix_P (qv 7) qe_int))) (qe_lc rfl sc__law_index.nd (blkOk_by (N := N__law_index) (sc := defScope s__law_index) (own := [("pair", 7)]) (by decide +kernel)) (qi_seq (qe_ix ix_P (qv 2) qe_int)) (fun _ => (qg_name 7 sc__law_index.nd)) (fun _ => qcs_nil) (fun _ => (qe_ix ix_P (qv 7) qe_int)))))).qc (qss_one (qs_ret qe_non)) qss_nil)
  (qss_cons (qs_set 4 sc__law_index.nd (qe_callH h__law_fit hr (qa_cons (qe_lc rfl sc__law_index.nd (blkOk_by (N := N__law_index) (sc := defScope s__law_index) (own := [("pair", 7)]) (by decide +kernel)) (qi_seq (qe_ix ix_P (qv 2) qe_int)) (fun _ => (qg_name 7 sc__law_index.nd)) (fun _ => qcs_nil) (fun _ => (qe_ix ix_P (qv 7) qe_int))) (qa_cons (qe_lc rfl sc__law_index.nd (blkOk_by (N := N__law_index) (sc := defScope s__law_index) (own := [("pair", 7)]) (by decide +kernel)) (qi_seq (qv 3)) (fun _ => (qg_name 7 sc__law_index.nd)) (fun _ => qcs_nil) (fun _ => (qe_ix ix_P (qv 7) qe_int))) qa_nil))))
  (qss_cons (qs_if (qc_cmp op_isP (qv 4) qe_non) (qss_one (qs_ret qe_non)) qss_nil)
  (qss_one (qs_ret (qe_tup (qa_cons (qe_ix ix_P (qv 2) qe_int) (qa_cons (qe_callH h__law_put hr (qa_cons (qe_ix ix_P (qv 2) qe_int) (qa_cons (qv 4) qa_nil))) qa_nil))))))))))

/-! _law_size(value) -/
abbrev N__law_size : List Str := ["value", "part"]
theorem sc__law_size : FnScope N__law_size ["value"] (defScope s__law_size) := ⟨rfl, rfl, rfl, by decide +kernel, rfl, by decide +kernel, by decide +kernel⟩
def rd__law_size (q__law_size : FS) : QTS := (qRet (qOp2 gAdd (qK (.int 1)) (qCB gSum (qCons (qLc (qIt (qSl gSl (qVar 0) (qPart (qK (.int 1))) qNo)) (qgN 1) qYes (qCall q__law_size (qCons (qVar 1) qNil)) [1]) qNil))))
theorem dv__law_size {P : Program} {w : World} {K : PySem.W.Frag} {mg : Str → Option Value} {base : Heap} {k : Nat} {q__law_size : FS} (T : Txt K mg) (h__law_size : Has P w K mg base "_law_size" k ["value"] q__law_size) (S : FS) (lp : S.io.length = 1)
    (rd : ∀ pvs : List PV, pvs.length = S.io.length → S.pre pvs → rd__law_size q__law_size (endsOf S pvs) (mk S.io pvs ++ uns 1)) : Has P w K mg base "_law_size" (k + 1) ["value"] S := by
  obtain ⟨f, fd, F, m⟩ := T.d__law_size.ex
  refine ⟨f, fd, fn_p F sc__law_size lp (t := rd__law_size q__law_size) (fun cdv A outer s H E hr => ?_) rd, m, F.kp, F.binds (ps := ["value"]) fun _ _ _ _ _ _ us hl => match us, hl with | [_], _ => rfl, F.at⟩
  exact (qss_one (qs_ret (qe_op op_addP qe_int (qe_callB (call_sumP rfl) T.z_sum (qa_cons (qe_lc rfl sc__law_size.nd (blkOk_by (N := N__law_size) (sc := defScope s__law_size) (own := [("part", 1)]) (by decide +kernel)) (qi_seq (qe_slice sl_seq (qv 0) (qo_some qe_int) qo_none)) (fun _ => (qg_name 1 sc__law_size.nd)) (fun _ => qcs_nil) (fun _ => (qe_callH h__law_size hr (qa_cons (qv 1) qa_nil)))) qa_nil)))))

/-! _law_before(table, one, other) -/
abbrev N__law_before : List Str := ["table", "one", "other", "words", "k", "row"]
theorem sc__law_before : FnScope N__law_before ["table", "one", "other"] (defScope s__law_before) := ⟨rfl, rfl, rfl, by decide +kernel, rfl, by decide +kernel, by decide +kernel⟩
def rd__law_before (q__law_size q__law_before : FS) : QTS := (qSeq (qIf (qB (qOp2 gNe (qCall q__law_size (qCons (qVar 1) qNil)) (qCall q__law_size (qCons (qVar 2) qNil)))) (qRet (qOp2 gLt (qCall q__law_size (qCons (qVar 1) qNil)) (qCall q__law_size (qCons (qVar 2) qNil)))) qNext)
  (qSeq (qSet 3 (qLc (qIt (qOp2 gIx (qVar 0) (qK (.int 3)))) (qgN 5) qYes (qOp2 gIx (qVar 5) (qK (.int 0))) [5]))
  (qSeq (qIf (qB (qOp2 gNe (qOp2 gIx (qVar 1) (qK (.int 0))) (qOp2 gIx (qVar 2) (qK (.int 0))))) (qRet (qOp2 gLt (qMeth "list" gIndex (qVar 3) (qCons (qOp2 gIx (qVar 1) (qK (.int 0))) qNil)) (qMeth "list" gIndex (qVar 3) (qCons (qOp2 gIx (qVar 2) (qK (.int 0))) qNil)))) qNext)
  (qSeq (qFor (qRng2 (qCons (qK (.int 1)) (qCons (qCB gLen (qCons (qVar 1) qNil)) qNil))) (qgN 4) (qIf (qB (qOp2 gNe (qOp2 gIx (qVar 1) (qVar 4)) (qOp2 gIx (qVar 2) (qVar 4)))) (qRet (qCall q__law_before (qCons (qVar 0) (qCons (qOp2 gIx (qVar 1) (qVar 4)) (qCons (qOp2 gIx (qVar 2) (qVar 4)) qNil))))) qNext))
  (qRet (qK (.bl false)))))))
theorem dv__law_before {P : Program} {w : World} {K : PySem.W.Frag} {mg : Str → Option Value} {base : Heap} {k : Nat} {q__law_size q__law_before : FS} (T : Txt K mg) (h__law_size : Has P w K mg base "_law_size" k ["value"] q__law_size) (h__law_before : Has P w K mg base "_law_before" k ["table", "one", "other"] q__law_before) (S : FS) (lp : S.io.length = 3)
    (rd : ∀ pvs : List PV, pvs.length = S.io.length → S.pre pvs → rd__law_before q__law_size q__law_before (endsOf S pvs) (mk S.io pvs ++ uns 3)) : Has P w K mg base "_law_before" (k + 1) ["table", "one", "other"] S := by
  obtain ⟨f, fd, F, m⟩ := T.d__law_before.ex
  refine ⟨f, fd, fn_p F sc__law_before lp (t := rd__law_before q__law_size q__law_before) (fun cdv A outer s H E hr => ?_) rd, m, F.kp, F.binds (ps := ["table", "one", "other"]) fun _ _ _ _ _ _ us hl => match us, hl with | [_, _, _], _ => rfl, F.at⟩
  exact (qss_cons (qs_if (qc_cmp (op_neP (room64 hr)) (qe_callH h__law_size hr (qa_cons (qv 1) qa_nil)) (qe_callH h__law_size hr (qa_cons (qv 2) qa_nil))) (qss_one (qs_ret (qe_cmp op_ltP (qe_callH h__law_size hr (qa_cons (qv 1) qa_nil)) (qe_callH h__law_size hr (qa_cons (qv 2) qa_nil))))) qss_nil)
  (qss_cons (qs_setLc 3 rfl sc__law_before.nd (sw_true rfl rfl rfl (by decide +kernel)) (blkOk_by (N := N__law_before) (sc := defScope s__law_before) (own := [("row", 5)]) (by decide +kernel)) (qi_seq (qe_ix ix_P (qv 0) qe_int)) (fun _ => (qg_name 5 sc__law_before.nd)) (fun _ => qcs_nil) (fun _ => (qe_ix ix_P (qv 5) qe_int)))
  (qss_cons (qs_if (qc_cmp (op_neP (room64 hr)) (qe_ix ix_P (qv 1) qe_int) (qe_ix ix_P (qv 2) qe_int)) (qss_one (qs_ret (qe_cmp op_ltP (qe_meth (me_index (room65 hr)) PySem.F.plainAttrs_list PySem.F.slot_list_index PySem.F.type_list_index (qv 3) (qa_cons (qe_ix ix_P (qv 1) qe_int) qa_nil)) (qe_meth (me_index (room65 hr)) PySem.F.plainAttrs_list PySem.F.slot_list_index PySem.F.type_list_index (qv 3) (qa_cons (qe_ix ix_P (qv 2) qe_int) qa_nil))))) qss_nil)
  (qss_cons (qs_for PassesOwn.never rfl (qi_range2 T.z_range (qa_cons qe_int (qa_cons (qe_callB call_lenP T.z_len (qa_cons (qv 1) qa_nil)) qa_nil))) (qg_name 4 sc__law_before.nd) (qss_one (qs_if (qc_cmp (op_neP (room64 hr)) (qe_ix ix_P (qv 1) (qv 4)) (qe_ix ix_P (qv 2) (qv 4))) (qss_one (qs_ret (qe_callH h__law_before hr (qa_cons (qv 0) (qa_cons (qe_ix ix_P (qv 1) (qv 4)) (qa_cons (qe_ix ix_P (qv 2) (qv 4)) qa_nil)))))) qss_nil)))
  (qss_one (qs_ret qe_bl))))))

/-! _law_raw(table, family, many) -/
abbrev N__law_raw : List Str := ["table", "family", "many", "rows", "row", "rests", "part", "longer", "value", "left", "size_v", "one"]
theorem sc__law_raw : FnScope N__law_raw ["table", "family", "many"] (defScope s__law_raw) := ⟨rfl, rfl, rfl, by decide +kernel, rfl, by decide +kernel, by decide +kernel⟩
def rd__law_raw (q__law_constructors q__law_raw : FS) : QTS := (qSeq (qSet 3 (qLst qNil))
  (qSeq (qFor (qIt (qCall q__law_constructors (qCons (qVar 0) (qCons (qVar 1) qNil)))) (qgN 4) (qSeq (qSet 5 (qLst (qCons (qTup (qCons (qTup (qCons (qOp2 gIx (qVar 4) (qK (.int 0))) qNil)) (qCons (qOp2 gSub (qVar 2) (qK (.int 1))) qNil))) qNil)))
  (qSeq (qFor (qIt (qOp2 gIx (qVar 4) (qK (.int 1)))) (qgN 6) (qSeq (qSet 7 (qLst qNil))
  (qSeq (qFor (qIt (qVar 5)) (qgT 2 (qgCons (qgN 8) (qgCons (qgN 9) qgNil))) (qFor (qRng2 (qCons (qK (.int 1)) (qCons (qOp2 gAdd (qVar 9) (qK (.int 1))) qNil))) (qgN 10) (qSet 7 (qOp2 gAdd (qVar 7) (qLc (qIt (qCall q__law_raw (qCons (qVar 0) (qCons (qOp2 gIx (qVar 6) (qK (.int 0))) (qCons (qVar 10) qNil))))) (qgN 11) qYes (qTup (qCons (qOp2 gAdd (qVar 8) (qTup (qCons (qVar 11) qNil))) (qCons (qOp2 gSub (qVar 9) (qVar 10)) qNil))) [11])))))
  (qSet 5 (qVar 7)))))
  (qSet 3 (qOp2 gAdd (qVar 3) (qLc (qIt (qVar 5)) (qgT 2 (qgCons (qgN 8) (qgCons (qgN 9) qgNil))) (qB (qOp2 gEq (qVar 9) (qK (.int 0)))) (qVar 8) [8, 9]))))))
  (qRet (qVar 3))))
theorem dv__law_raw {P : Program} {w : World} {K : PySem.W.Frag} {mg : Str → Option Value} {base : Heap} {k : Nat} {q__law_constructors q__law_raw : FS} (T : Txt K mg) (h__law_constructors : Has P w K mg base "_law_constructors" k ["table", "family"] q__law_constructors) (h__law_raw : Has P w K mg base "_law_raw" k ["table", "family", "many"] q__law_raw) (S : FS) (lp : S.io.length = 3)
    (rd : ∀ pvs : List PV, pvs.length = S.io.length → S.pre pvs → rd__law_raw q__law_constructors q__law_raw (endsOf S pvs) (mk S.io pvs ++ uns 9)) : Has P w K mg base "_law_raw" (k + 1) ["table", "family", "many"] S := by
  obtain ⟨f, fd, F, m⟩ := T.d__law_raw.ex
  refine ⟨f, fd, fn_p F sc__law_raw lp (t := rd__law_raw q__law_constructors q__law_raw) (fun cdv A outer s H E hr => ?_) rd, m, F.kp, F.binds (ps := ["table", "family", "many"]) fun _ _ _ _ _ _ us hl => match us, hl with | [_, _, _], _ => rfl, F.at⟩
  exact (qss_cons (qs_set 3 sc__law_raw.nd (qe_lst qa_nil))
  (qss_cons (qs_for PassesOwn.never rfl (qi_seq (qe_callH h__law_constructors hr (qa_cons (qv 0) (qa_cons (qv 1) qa_nil)))) (qg_name 4 sc__law_raw.nd) (qss_cons (qs_set 5 sc__law_raw.nd (qe_lst (qa_cons (qe_tup (qa_cons (qe_tup (qa_cons (qe_ix ix_P (qv 4) qe_int) qa_nil)) (qa_cons (qe_op op_subP (qv 2) qe_int) qa_nil))) qa_nil)))
  (qss_cons (qs_for PassesOwn.never rfl (qi_seq (qe_ix ix_P (qv 4) qe_int)) (qg_name 6 sc__law_raw.nd) (qss_cons (qs_set 7 sc__law_raw.nd (qe_lst qa_nil))
  (qss_cons (qs_for PassesOwn.never rfl (qi_seq (qv 5)) (qg_tup rfl (qgs_cons (qg_name 8 sc__law_raw.nd) (qgs_cons (qg_name 9 sc__law_raw.nd) qgs_nil))) (qss_one (qs_for PassesOwn.never rfl (qi_range2 T.z_range (qa_cons qe_int (qa_cons (qe_op op_addP (qv 9) qe_int) qa_nil))) (qg_name 10 sc__law_raw.nd) (qss_one (qs_set 7 sc__law_raw.nd (qe_op op_addP (qv 7) (qe_lc rfl sc__law_raw.nd (blkOk_by (N := N__law_raw) (sc := defScope s__law_raw) (own := [("one", 11)]) (by decide +kernel)) (qi_seq (qe_callH h__law_raw hr (qa_cons (qv 0) (qa_cons (qe_ix ix_P (qv 6) qe_int) (qa_cons (qv 10) qa_nil))))) (fun _ => (qg_name 11 sc__law_raw.nd)) (fun _ => qcs_nil) (fun _ => (qe_tup (qa_cons (qe_op op_addP (qv 8) (qe_tup (qa_cons (qv 11) qa_nil))) (qa_cons (qe_op op_subP (qv 9) (qv 10)) qa_nil)))))))))))
  (qss_one (qs_set 5 sc__law_raw.nd (qv 7))))))
  (qss_one (qs_set 3 sc__law_raw.nd (qe_op op_addP (qv 3) (qe_lc rfl sc__law_raw.nd (blkOk_by (N := N__law_raw) (sc := defScope s__law_raw) (own := [("value", 8), ("left", 9)]) (by decide +kernel)) (qi_seq (qv 5)) (fun _ => (qg_tup rfl (qgs_cons (qg_name 8 sc__law_raw.nd) (qgs_cons (qg_name 9 sc__law_raw.nd) qgs_nil)))) (fun _ => (qcs_one (qc_cmp (op_eqP (room64 hr)) (qv 9) qe_int))) (fun _ => (qv 8)))))))))
  (qss_one (qs_ret (qv 3)))))

/-! law(script)   owned: due, known, state -/
abbrev N_law : List Str := ["script", "state", "table", "words", "rows", "many", "due", "family", "value", "place", "known", "turn", "row", "one", "other", "flag", "k", "part"]
theorem sc_law : FnScope N_law ["script"] (defScope s_law) := ⟨rfl, rfl, rfl, by decide +kernel, rfl, by decide +kernel, by decide +kernel⟩
def rd_law (q__law_state q__law_table q__law_draw q__law_raw q__law_index q__law_before q_values_of q__law_pick q_before : FS) : QTS := (qSeq (qSet 2 (qCall q__law_table (qCons (qVar 1) qNil)))
  (qSeq (qSet 3 (qLst (qCons (qK (.str (Str.ofString "Q3"))) (qCons (qK (.str (Str.ofString "B1"))) (qCons (qK (.str (Str.ofString "Z9"))) (qCons (qK (.str (Str.ofString "A2"))) (qCons (qK (.str (Str.ofString "M0"))) (qCons (qK (.str (Str.ofString "C5"))) (qCons (qK (.str (Str.ofString "Y4"))) (qCons (qK (.str (Str.ofString "D8"))) qNil))))))))))
  (qSeq (qSet 4 (qSl gSl (qOp2 gIx (qVar 2) (qK (.int 3))) qNo (qPart (qK (.int 8)))))
  (qSeq (qSet 2 (qOp2 gAdd (qSl gSl (qVar 2) qNo (qPart (qK (.int 3)))) (qTup (qCons (qCB gTuple (qCons (qLc (qRng1 (qCons (qCB gLen (qCons (qVar 4) qNil)) qNil)) (qgN 16) qYes (qOp2 gAdd (qTup (qCons (qOp2 gIx (qVar 3) (qVar 16)) qNil)) (qSl gSl (qOp2 gIx (qVar 4) (qVar 16)) (qPart (qK (.int 1))) qNo)) [16]) qNil)) qNil))))
  (qSeq (qSet 5 (qOp2 gAdd (qK (.int 1)) (qCall q__law_draw (qCons (qVar 1) (qCons (qK (.int 4)) qNil)))))
  (qSeq (qOwn 6 (qLst qNil))
  (qSeq (qFor (qIt (qOp2 gIx (qVar 2) (qK (.int 2)))) (qgN 7) (qFor (qIt (qCall q__law_raw (qCons (qVar 2) (qCons (qVar 7) (qCons (qVar 5) qNil))))) (qgN 8) (qIf (qB (qOp2 gIsNot (qCall q__law_index (qCons (qVar 2) (qCons (qVar 8) qNil))) (qK .non))) (qSeq (qSet 9 (qCB gLen (qCons (qLcO 6 (qgN 13) (qTru (qCall q__law_before (qCons (qVar 2) (qCons (qVar 13) (qCons (qVar 8) qNil))))) (qVar 13) [13]) qNil)))
  (qDrop (qMut "list" 6 gInsert (qCons (qVar 9) (qCons (qVar 8) qNil))))) qNext)))
  (qSeq (qIf (qB (qOp2 gNe (qCall q_values_of (qCons (qVar 2) (qCons (qVar 5) qNil))) (qVar 6))) (qRet (qK (.bl false))) qNext)
  (qSeq (qOwn 10 (qLst qNil))
  (qSeq (qFor (qRng1 (qCons (qK (.int 8)) qNil)) (qgN 11) (qSeq (qSet 12 (qCall q__law_pick (qCons (qVar 1) (qCons (qOp2 gIx (qVar 2) (qK (.int 3))) qNil))))
  (qIf (qOr (qB (qOp2 gGt (qCB gLen (qCons (qVar 10) qNil)) (qK (.int 0)))) (qB (qOp2 gEq (qCB gLen (qCons (qOp2 gIx (qVar 12) (qK (.int 1))) qNil)) (qK (.int 0))))) (qDrop (qMut "list" 10 gAppend (qCons (qOp2 gAdd (qTup (qCons (qOp2 gIx (qVar 12) (qK (.int 0))) qNil)) (qCB gTuple (qCons (qLc (qIt (qOp2 gIx (qVar 12) (qK (.int 1)))) (qgN 17) qYes (qCallB q__law_pick (qCons (qVar 1) (qCons (qVar 10) qNil))) [17]) qNil))) qNil))) qNext)))
  (qFrz 10 (qSeq (qFor (qIt (qVar 10)) (qgN 13) (qFor (qIt (qVar 10)) (qgN 14) (qSeq (qSet 15 (qCall q_before (qCons (qVar 2) (qCons (qVar 13) (qCons (qVar 14) qNil)))))
  (qIf (qOr (qNot (qTru (qCB gIsiT (qCons (qVar 15) (qCons (qK (.ty "bool")) qNil))))) (qB (qOp2 gNe (qVar 15) (qCall q__law_before (qCons (qVar 2) (qCons (qVar 13) (qCons (qVar 14) qNil))))))) (qRet (qK (.bl false))) qNext))))
  (qRet (qK (.bl true)))))))))))))))
def rd_law1 (q__law_state q__law_table q__law_draw q__law_raw q__law_index q__law_before q_values_of q__law_pick q_before : FS) : QTS := (qOwn 1 (qCall q__law_state (qCons (qVar 0) qNil)))
theorem dv_law {P : Program} {w : World} {K : PySem.W.Frag} {mg : Str → Option Value} {base : Heap} {k : Nat} {q__law_state q__law_table q__law_draw q__law_raw q__law_index q__law_before q_values_of q__law_pick q_before : FS} (h__law_state : Has P w K mg base "_law_state" k ["script"] q__law_state) (h__law_table : Has P w K mg base "_law_table" k ["state"] q__law_table) (h__law_draw : Has P w K mg base "_law_draw" k ["state", "many"] q__law_draw) (h__law_raw : Has P w K mg base "_law_raw" k ["table", "family", "many"] q__law_raw) (h__law_index : Has P w K mg base "_law_index" k ["table", "value"] q__law_index) (h__law_before : Has P w K mg base "_law_before" k ["table", "one", "other"] q__law_before) (h_values_of : Has P w K mg base "values_of" k ["table", "total"] q_values_of) (h__law_pick : Has P w K mg base "_law_pick" k ["state", "row"] q__law_pick) (h_before : Has P w K mg base "before" k ["table", "one", "other"] q_before) (T : Txt K mg)
    (rd : ∀ ns : List Int, ns.length ≤ 63 → rd_law1 q__law_state q__law_table q__law_draw q__law_raw q__law_index q__law_before q_values_of q__law_pick q_before (stEnds 1 (rd_law q__law_state q__law_table q__law_draw q__law_raw q__law_index q__law_before q_values_of q__law_pick q_before)) (.val (.scr ns) :: uns 17)) : HasL P w K mg base "law" (k + 1) ["script"] := by
  obtain ⟨f, fd, F, m⟩ := T.d_law.ex
  refine ⟨f, fd, fn_law F sc_law rfl 1 rfl (t1 := rd_law1 q__law_state q__law_table q__law_draw q__law_raw q__law_index q__law_before q_values_of q__law_pick q_before) (t2 := rd_law q__law_state q__law_table q__law_draw q__law_raw q__law_index q__law_before q_values_of q__law_pick q_before) (fun cdv A outer s H E hr => ⟨?_, ?_⟩) rd, m, F.kp, F.binds (ps := ["script"]) fun _ _ _ _ _ _ us hl => match us, hl with | [_], _ => rfl, F.at⟩
  · exact (qs_own 1 sc_law.nd (qe_callH h__law_state hr (qa_cons (qv 0) qa_nil)))
  · exact (qss_cons (qs_set 2 sc_law.nd (qe_callH h__law_table hr (qa_cons (qv 1) qa_nil)))
  (qss_cons (qs_set 3 sc_law.nd (qe_lst (qa_cons qe_str (qa_cons qe_str (qa_cons qe_str (qa_cons qe_str (qa_cons qe_str (qa_cons qe_str (qa_cons qe_str (qa_cons qe_str qa_nil))))))))))
  (qss_cons (qs_set 4 sc_law.nd (qe_slice sl_seq (qe_ix ix_P (qv 2) qe_int) qo_none (qo_some qe_int)))
  (qss_cons (qs_set 2 sc_law.nd (qe_op op_addP (qe_slice sl_seq (qv 2) qo_none (qo_some qe_int)) (qe_tup (qa_cons (qe_callTy call_tupleP T.z_tuple (qa_cons (qe_lc rfl sc_law.nd (blkOk_by (N := N_law) (sc := defScope s_law) (own := [("k", 16)]) (by decide +kernel)) (qi_range1 T.z_range (qa_cons (qe_callB call_lenP T.z_len (qa_cons (qv 4) qa_nil)) qa_nil)) (fun _ => (qg_name 16 sc_law.nd)) (fun _ => qcs_nil) (fun _ => (qe_op op_addP (qe_tup (qa_cons (qe_ix ix_P (qv 3) (qv 16)) qa_nil)) (qe_slice sl_seq (qe_ix ix_P (qv 4) (qv 16)) (qo_some qe_int) qo_none)))) qa_nil)) qa_nil))))
  (qss_cons (qs_set 5 sc_law.nd (qe_op op_addP qe_int (qe_callH h__law_draw hr (qa_cons (qv 1) (qa_cons qe_int qa_nil)))))
  (qss_cons (qs_own 6 sc_law.nd (qe_lst qa_nil))
  (qss_cons (qs_for PassesOwn.never rfl (qi_seq (qe_ix ix_P (qv 2) qe_int)) (qg_name 7 sc_law.nd) (qss_one (qs_for PassesOwn.never rfl (qi_seq (qe_callH h__law_raw hr (qa_cons (qv 2) (qa_cons (qv 7) (qa_cons (qv 5) qa_nil))))) (qg_name 8 sc_law.nd) (qss_one (qs_if (qc_cmp op_isNotP (qe_callH h__law_index hr (qa_cons (qv 2) (qa_cons (qv 8) qa_nil))) qe_non) (qss_cons (qs_set 9 sc_law.nd (qe_callB call_lenP T.z_len (qa_cons (qe_lcO 6 rfl sc_law.nd (blkOk_by (N := N_law) (sc := defScope s_law) (own := [("one", 13)]) (by decide +kernel)) (fun _ => (qg_name 13 sc_law.nd)) (fun _ => (qcs_one (qc_tru (qe_callH h__law_before hr (qa_cons (qv 2) (qa_cons (qv 13) (qa_cons (qv 8) qa_nil))))))) (fun _ => (qv 13))) qa_nil)))
  (qss_one (qs_expr (qe_mut 6 m_insert PySem.F.plainAttrs_list PySem.F.slot_list_insert PySem.F.type_list_insert (qa_cons (qv 9) (qa_cons (qv 8) qa_nil)))))) qss_nil)))))
  (qss_cons (qs_if (qc_cmp (op_neP (room64 hr)) (qe_callH h_values_of hr (qa_cons (qv 2) (qa_cons (qv 5) qa_nil))) (qv 6)) (qss_one (qs_ret qe_bl)) qss_nil)
  (qss_cons (qs_own 10 sc_law.nd (qe_lst qa_nil))
  (qss_cons (qs_for PassesOwn.never rfl (qi_range1 T.z_range (qa_cons qe_int qa_nil)) (qg_name 11 sc_law.nd) (qss_cons (qs_set 12 sc_law.nd (qe_callH h__law_pick hr (qa_cons (qv 1) (qa_cons (qe_ix ix_P (qv 2) qe_int) qa_nil))))
  (qss_one (qs_if (qw_or (qc_cmp op_gtP (qe_callB call_lenP T.z_len (qa_cons (qv 10) qa_nil)) qe_int) (qw_or1 (qc_cmp (op_eqP (room64 hr)) (qe_callB call_lenP T.z_len (qa_cons (qe_ix ix_P (qv 12) qe_int) qa_nil)) qe_int))).qc (qss_one (qs_expr (qe_mut 10 m_append PySem.F.plainAttrs_list PySem.F.slot_list_append PySem.F.type_list_append (qa_cons (qe_op op_addP (qe_tup (qa_cons (qe_ix ix_P (qv 12) qe_int) qa_nil)) (qe_callTy call_tupleP T.z_tuple (qa_cons (qe_lc rfl sc_law.nd (blkOk_by (N := N_law) (sc := defScope s_law) (own := [("part", 17)]) (by decide +kernel)) (qi_seq (qe_ix ix_P (qv 12) qe_int)) (fun _ => (qg_name 17 sc_law.nd)) (fun _ => qcs_nil) (fun _ => (qe_callHB h__law_pick hr (qa_cons (qv 1) (qa_cons (qv 10) qa_nil))))) qa_nil))) qa_nil)))) qss_nil))))
  (qss_frz 10 (qss_cons (qs_for PassesOwn.never rfl (qi_seq (qv 10)) (qg_name 13 sc_law.nd) (qss_one (qs_for PassesOwn.never rfl (qi_seq (qv 10)) (qg_name 14 sc_law.nd) (qss_cons (qs_set 15 sc_law.nd (qe_callH h_before hr (qa_cons (qv 2) (qa_cons (qv 13) (qa_cons (qv 14) qa_nil)))))
  (qss_one (qs_if (qw_or (qc_not (qc_tru (qe_callB call_isiPT T.z_isinstance (qa_cons (qv 15) (qa_cons (qe_ty T.z_bool) qa_nil))))) (qw_or1 (qc_cmp (op_neP (room64 hr)) (qv 15) (qe_callH h__law_before hr (qa_cons (qv 2) (qa_cons (qv 13) (qa_cons (qv 14) qa_nil))))))).qc (qss_one (qs_ret qe_bl)) qss_nil))))))
  (qss_one (qs_ret qe_bl))))))))))))))

end Lw
set_option maxHeartbeats 4000000
namespace Lw
open PySem L2 PyProof.Rows Px
local macro_rules | `(tactic| walk_at "px") => `(tactic| simp -dsimp only [qVar, qK, qNil, qCons, qTup, qLst, vals, looks, R.look, R.wk, qCB, qB, qOp2, qTru, truG, qAnd, qOr, qNot, qAndV, qOrV, qNotV, qIfE, qNo, qPart, qSl, gSl, qIt, qRng1, qRng2, qgN, qgNil, qgCons, qgT, notIo_zero, notIo_succ, notIo_nil', slOk_un, slOk_val, slOk_own, slOk_pl, slOk_pd, notIos_nil, notIos_cons, qYes, qLc, qNext, qSeq, qBreak, qCont, qFrz, frz, qDrop, retG, qRet, qRetN, qIf, qSet, qOwn, qAsg, qFor, qMut, ownTy, gAppend, gExtend, gPop, isOwn, qSetIx, qCall, splitArgs, putOuts, setOwn, finOk, endsOf, mk, outsOf, uns,
  gAdd, gInt, gInt0, gEq, gNe, gIn, gNotIn, gIs, gIsNot, Px.isNon, gIx, getP, gLen, gAbs, gIntC, gSum, gMax, gMax2, gMax3, gMinT, gAll, gAny, gList, gTuple, gIsi, qNeg, qDict0, wipeE, lcGo_nil, br_t, br_f, atI_0, atI_1, atI_2, atI_3, ixN_0, ixN_1, ixN_2, ixN_3, List.length_map, List.length_set, cut_from1, isTy, tyN, gIsiT, asTys, gListD, keyP, isDic, qGet1, qGet2, qLZ, gZip, qPairs, mergeP, qDisp, gDictC, gStr, qChain, qPar, qAug, qMeth, tyIs, gIndex, qLcK, qDc, qDcK, dicAt, qForK, qZipI, qCallB, qCallF, splitB, qTake, tkEnds, tkRt, tkBack, Px.isN, isNst, gIxN, gPop0, gInsert, qSetSeed, qStep, qPar3, qLcO, lcoK, stEnds, stGo, immS, Px.imm, endsLaw, Option.isSome_some, Option.isSome_none, isEmp_concat, List.getLast?_concat, List.dropLast_concat, List.isEmpty_nil, gEqX, gNeX, List.any_cons, List.any_nil, tyOk_str, tyOk_tuple, tyOk_int, tyOk_bool, tyOk_list, tyOk_dict, Option.map_some, Option.map_none,
  eqOk_str, eqOk_int, eqOk_bl, eqOk_non, eqOkW_str, eqOkW_int, eqOkW_bl, eqOkW_non, gEqW, gNeW, qVals, ownDic, qLc2, gLtX, gGtX, gSortX, peq_str, peq_int, peq_bl, List.getElem?_cons_zero, List.getElem?_cons_succ, List.getElem?_nil, List.set_cons_zero, List.set_cons_succ, List.zipWith_cons_cons, List.zipWith_nil_left, List.replicate_succ, List.replicate_zero, List.cons_append, List.nil_append, List.length_cons, List.length_nil, List.map_cons, List.map_nil, ↓reduceIte, Bool.false_eq_true, and_true, true_and, Bool.not_true, Bool.not_false, Nat.reduceAdd, Nat.reduceLT, Nat.reduceLeDiff, Nat.zero_lt_succ, Nat.lt_add_one, ne_eq, not_true_eq_false, not_false_eq_true, String.reduceEq, String.reduceBEq, Bool.or_false, Bool.false_or, Bool.or_true, Bool.true_or, Bool.and_false, Bool.and_true, Bool.false_and, Bool.true_and, reduceCtorEq])
mutual
/-- data that isinstance may be asked of -/
def good : PV → Bool
  | .tup ps => goods ps
  | .lst ps => goods ps
  | .scr _ => false
  | .nst _ _ _ => false
  | .ty _ => false
  | .non => true
  | .bl _ => true
  | .int _ => true
  | .str _ => true
  | .dic _ _ => true
def goods : List PV → Bool
  | [] => true
  | p :: ps => good p && goods ps
end
mutual
/-- how many places data has -/
def psz : PV → Nat
  | .tup ps => pszs ps + 1
  | .lst ps => pszs ps + 1
  | .scr _ => 1
  | .nst _ _ _ => 1
  | .ty _ => 1
  | .non => 1
  | .bl _ => 1
  | .int _ => 1
  | .str _ => 1
  | .dic _ _ => 1
def pszs : List PV → Nat
  | [] => 0
  | p :: ps => psz p + pszs ps
end
theorem psz_pos (p : PV) : 0 < psz p := by cases p <;> simp [psz]
theorem pszs_append : ∀ ps qs : List PV, pszs (ps ++ qs) = pszs ps + pszs qs
  | [], qs => by simp [pszs]
  | p :: ps, qs => by simp [pszs, pszs_append ps qs]; omega
theorem goods_append : ∀ ps qs : List PV, goods (ps ++ qs) = (goods ps && goods qs)
  | [], qs => by simp [goods]
  | p :: ps, qs => by simp [goods, goods_append ps qs, Bool.and_assoc]
theorem good_ty {p : PV} (h : good p = true) : tyN p ≠ "" := by cases p <;> first | (simp [good] at h; done) | simp [tyN]
mutual
/-- the shape of a term -/
def tsh : PV → Bool
  | .str _ => true
  | .tup [] => false
  | .tup (p :: ps) => (match p with
    | .str _ => true
    | _ => false) && tshs ps
  | .lst _ => false
  | .scr _ => false
  | .nst _ _ _ => false
  | .ty _ => false
  | .non => false
  | .bl _ => false
  | .int _ => false
  | .dic _ _ => false
def tshs : List PV → Bool
  | [] => true
  | p :: ps => tsh p && tshs ps
end
theorem tsh_cases {p : PV} (h : tsh p = true) : (∃ s, p = .str s) ∨ ∃ v ps, p = .tup (.str v :: ps) ∧ tshs ps = true := by
  cases p with
  | str s => exact .inl ⟨s, rfl⟩
  | tup ps =>
    cases ps with
    | nil => simp [tsh] at h
    | cons q ps =>
      cases q with
      | str v => exact .inr ⟨v, ps, rfl, by rw [tsh] at h; simpa using h⟩
      | _ => simp [tsh] at h
  | _ => simp [tsh] at h
theorem tshs_mem {ps : List PV} (h : tshs ps = true) : ∀ p ∈ ps, tsh p = true := by
  induction ps with
  | nil => intro p hp; cases hp
  | cons q ps ih =>
    rw [tshs, Bool.and_eq_true] at h
    intro p hp
    rcases List.mem_cons.mp hp with rfl | hp
    · exact h.1
    · exact ih h.2 p hp
theorem dep_mem {ps : List PV} : ∀ p ∈ ps, dep p ≤ deps ps := by
  induction ps with
  | nil => intro p hp; cases hp
  | cons q ps ih =>
    intro p hp
    rw [deps]
    rcases List.mem_cons.mp hp with rfl | hp
    · omega
    · have := ih p hp; omega
theorem psz_mem {ps : List PV} : ∀ p ∈ ps, psz p ≤ pszs ps := by
  induction ps with
  | nil => intro p hp; cases hp
  | cons q ps ih =>
    intro p hp
    rw [pszs]
    rcases List.mem_cons.mp hp with rfl | hp
    · omega
    · have := ih p hp; omega
theorem len_pszs : ∀ xs : List PV, xs.length ≤ pszs xs
  | [] => by simp
  | x :: xs => by have := psz_pos x; have := len_pszs xs; simp only [List.length_cons, pszs]; omega
theorem plains_strs : ∀ ss : List Str, plains (ss.map PV.str) = true
  | [] => rfl
  | s :: ss => by simp [plains, Px.plain, plains_strs ss]
theorem deps_strs : ∀ ss : List Str, deps (ss.map PV.str) = 0
  | [] => rfl
  | s :: ss => by simp [deps, dep, deps_strs ss]
theorem eqOk_strs (ss : List Str) : eqOk (.lst (ss.map PV.str)) := ⟨by rw [Px.plain]; exact plains_strs ss, by rw [dep, deps_strs]; decide⟩
theorem memP_strs (s : Str) : ∀ ss : List Str, memP (.str s) (ss.map PV.str) = ss.contains s
  | [] => rfl
  | t :: ss => by
    have ih := memP_strs s ss
    unfold memP at ih ⊢
    rw [List.map_cons, List.any_cons, ih, peq_str, List.contains_cons, Bool.eq_iff_iff]
    simp only [Bool.or_eq_true, beq_iff_eq]
    constructor
    · rintro (h | h)
      · exact .inl h.symm
      · exact .inr h
    · rintro (h | h)
      · exact .inl h.symm
      · exact .inr h
theorem peqs_strs : ∀ as bs : List Str, peqs (as.map PV.str) (bs.map PV.str) = (as == bs)
  | [], [] => rfl
  | [], _ :: _ => rfl
  | _ :: _, [] => rfl
  | a :: as, b :: bs => by
    rw [List.map_cons, List.map_cons, peqs_cons, peq_str, peqs_strs as bs]
    rfl
mutual
theorem tsh_good : ∀ p : PV, tsh p = true → good p = true
  | .str _, _ => by rw [good]
  | .tup [], h => by simp [tsh] at h
  | .tup (p :: ps), h => by
    cases p with
    | str v =>
      rw [tsh, Bool.true_and] at h
      rw [good, goods, good, tshs_goods ps h]; rfl
    | _ => simp [tsh] at h
  | .lst _, h => by simp [tsh] at h
  | .scr _, h => by simp [tsh] at h
  | .nst _ _ _, h => by simp [tsh] at h
  | .ty _, h => by simp [tsh] at h
  | .non, h => by simp [tsh] at h
  | .bl _, h => by simp [tsh] at h
  | .int _, h => by simp [tsh] at h
  | .dic _ _, h => by simp [tsh] at h
theorem tshs_goods : ∀ ps : List PV, tshs ps = true → goods ps = true
  | [], _ => by rw [goods]
  | p :: ps, h => by
    rw [tshs, Bool.and_eq_true] at h
    rw [goods, tsh_good p h.1, tshs_goods ps h.2]; rfl
end
theorem goods_iff : ∀ ps : List PV, goods ps = true ↔ ∀ p ∈ ps, good p = true
  | [] => by simp [goods]
  | p :: ps => by simp [goods, goods_iff ps]
theorem deps_le {n : Nat} : ∀ ps : List PV, deps ps ≤ n ↔ ∀ p ∈ ps, dep p ≤ n
  | [] => by simp [deps]
  | p :: ps => by
    rw [deps, List.forall_mem_cons, ← deps_le ps]; omega
theorem deps_append (as bs : List PV) : deps (as ++ bs) = max (deps as) (deps bs) := by
  induction as with
  | nil => simp [deps]
  | cons a as ih => rw [List.cons_append, deps, deps, ih]; omega
theorem cut_sub {α : Type} (xs : List α) (lo hi : Option Int) : (cutP xs lo hi).Sublist xs := (List.take_sublist _ _).trans (List.drop_sublist _ _)
theorem pszs_sub {as bs : List PV} (h : as.Sublist bs) : pszs as ≤ pszs bs := by
  induction h with
  | slnil => exact Nat.le_refl _
  | cons a _ ih => rw [pszs]; omega
  | cons_cons a _ ih => rw [pszs, pszs]; omega
theorem deps_sub {as bs : List PV} (h : as.Sublist bs) : deps as ≤ deps bs := (deps_le as).mpr fun p hp => dep_mem p (h.subset hp)
theorem goods_sub {as bs : List PV} (h : as.Sublist bs) (g : goods bs = true) : goods as = true := (goods_iff as).mpr fun p hp => (goods_iff bs).mp g p (h.subset hp)
theorem getLast_split {α : Type} {xs : List α} {x : α} (h : xs.getLast? = some x) : xs = xs.dropLast ++ [x] := by
  have ne : xs ≠ [] := fun e => by rw [e] at h; cases h
  have := List.dropLast_concat_getLast ne
  rw [List.getLast?_eq_some_getLast ne] at h
  cases h
  exact this.symm
def big : Nat → Nat
  | 0 => 2
  | n + 1 => 2 * big n + 2
theorem big_pos : ∀ n : Nat, 2 ≤ big n
  | 0 => by simp [big]
  | n + 1 => by rw [big]; have := big_pos n; omega
theorem pszs_le {n : Nat} : ∀ ps : List PV, (∀ p ∈ ps, psz p ≤ n) → pszs ps ≤ ps.length * n
  | [], _ => by simp [pszs]
  | p :: ps, h => by
    have h1 := h p List.mem_cons_self
    have h2 := pszs_le ps fun q hq => h q (List.mem_cons_of_mem _ hq)
    rw [pszs, List.length_cons, Nat.succ_mul]; omega
theorem tshs_all : ∀ ps : List PV, (∀ p ∈ ps, tsh p = true) → tshs ps = true
  | [], _ => by rw [tshs]
  | p :: ps, h => by
    rw [tshs, h p List.mem_cons_self, tshs_all ps fun q hq => h q (List.mem_cons_of_mem _ hq)]; rfl
theorem big_mono {a b : Nat} (h : a ≤ b) : big a ≤ big b := by
  induction h with
  | refl => exact Nat.le_refl _
  | step _ ih => rw [big]; omega
mutual
theorem tsh_imm : ∀ p : PV, tsh p = true → Px.imm p = true
  | .str _, _ => by rw [Px.imm]
  | .tup [], h => by simp [tsh] at h
  | .tup (p :: ps), h => by
    cases p with
    | str v =>
      rw [tsh, Bool.true_and] at h
      rw [Px.imm, imms, Px.imm, tshs_imms ps h]; rfl
    | _ => simp [tsh] at h
  | .lst _, h => by simp [tsh] at h
  | .scr _, h => by simp [tsh] at h
  | .nst _ _ _, h => by simp [tsh] at h
  | .ty _, h => by simp [tsh] at h
  | .non, h => by simp [tsh] at h
  | .bl _, h => by simp [tsh] at h
  | .int _, h => by simp [tsh] at h
  | .dic _ _, h => by simp [tsh] at h
theorem tshs_imms : ∀ ps : List PV, tshs ps = true → imms ps = true
  | [], _ => by rw [imms]
  | p :: ps, h => by
    rw [tshs, Bool.and_eq_true] at h
    rw [imms, tsh_imm p h.1, tshs_imms ps h.2]; rfl
end
mutual
theorem tsh_plain : ∀ p : PV, tsh p = true → Px.plain p = true
  | .str _, _ => by rw [Px.plain]
  | .tup [], h => by simp [tsh] at h
  | .tup (p :: ps), h => by
    cases p with
    | str v =>
      rw [tsh, Bool.true_and] at h
      rw [Px.plain, plains, Px.plain, tshs_plains ps h]; rfl
    | _ => simp [tsh] at h
  | .lst _, h => by simp [tsh] at h
  | .scr _, h => by simp [tsh] at h
  | .nst _ _ _, h => by simp [tsh] at h
  | .ty _, h => by simp [tsh] at h
  | .non, h => by simp [tsh] at h
  | .bl _, h => by simp [tsh] at h
  | .int _, h => by simp [tsh] at h
  | .dic _ _, h => by simp [tsh] at h
theorem tshs_plains : ∀ ps : List PV, tshs ps = true → plains ps = true
  | [], _ => by rw [plains]
  | p :: ps, h => by
    rw [tshs, Bool.and_eq_true] at h
    rw [plains, tsh_plain p h.1, tshs_plains ps h.2]; rfl
end
theorem tsh_eqOk {p : PV} (h : tsh p = true) (d : dep p ≤ 64) : eqOk p := ⟨tsh_plain p h, d⟩
mutual
/-- == of terms -/
theorem peq_tsh : ∀ p q : PV, tsh p = true → tsh q = true → (peq p q = true ↔ p = q)
  | .str a, q, _, hq => by
    rcases tsh_cases hq with ⟨s, rfl⟩ | ⟨v, qs, rfl, _⟩
    · rw [peq_str]; simp
    · exact ⟨fun h => (by cases h), fun h => (by cases h)⟩
  | .tup [], _, h, _ => by simp [tsh] at h
  | .tup (p :: ps), q, h, hq => by
    cases p with
    | str a =>
      rw [tsh, Bool.true_and] at h
      rcases tsh_cases hq with ⟨s, rfl⟩ | ⟨v, qs, rfl, hqs⟩
      · exact ⟨fun h => (by cases h), fun h => (by cases h)⟩
      · rw [peq_tup, peqs_cons, peq_str, Bool.and_eq_true, beq_iff_eq, peqs_tshs ps qs h hqs]
        constructor
        · rintro ⟨rfl, rfl⟩; rfl
        · intro e; cases e; exact ⟨rfl, rfl⟩
    | _ => simp [tsh] at h
  | .lst _, _, h, _ => by simp [tsh] at h
  | .scr _, _, h, _ => by simp [tsh] at h
  | .nst _ _ _, _, h, _ => by simp [tsh] at h
  | .ty _, _, h, _ => by simp [tsh] at h
  | .non, _, h, _ => by simp [tsh] at h
  | .bl _, _, h, _ => by simp [tsh] at h
  | .int _, _, h, _ => by simp [tsh] at h
  | .dic _ _, _, h, _ => by simp [tsh] at h
theorem peqs_tshs : ∀ ps qs : List PV, tshs ps = true → tshs qs = true → (peqs ps qs = true ↔ ps = qs)
  | [], [], _, _ => ⟨fun _ => rfl, fun _ => rfl⟩
  | [], q :: qs, _, _ => ⟨fun h => (by cases h), fun h => (by cases h)⟩
  | p :: ps, [], _, _ => ⟨fun h => (by cases h), fun h => (by cases h)⟩
  | p :: ps, q :: qs, h, h' => by
    rw [tshs, Bool.and_eq_true] at h h'
    rw [peqs_cons, Bool.and_eq_true, peq_tsh p q h.1 h'.1, peqs_tshs ps qs h.2 h'.2]
    constructor
    · rintro ⟨rfl, rfl⟩; rfl
    · intro e; cases e; exact ⟨rfl, rfl⟩
end
/-! ### dicts with texts for keys -/
abbrev As := List (Str × PV)
def dKs (d : As) : List Key := d.map fun e => Sum.inr e.1
def dPs (d : As) : List PV := d.map (·.2)
def encD (d : As) : PV := .dic (dKs d) (dPs d)
def look : As → Str → Option PV
  | [], _ => none
  | (k, v) :: d, s => if k = s then some v else look d s
theorem getD_enc : ∀ (d : As) (s : Str), getD (dKs d) (dPs d) (.inr s) = look d s
  | [], s => rfl
  | (k, v) :: d, s => by
    show (if (Sum.inr k : Key) = Sum.inr s then some v else getD (dKs d) (dPs d) (.inr s)) = if k = s then some v else look d s
    rw [getD_enc d s]
    by_cases e : k = s
    · rw [if_pos e, if_pos (by rw [e])]
    · rw [if_neg e, if_neg (fun z => e (Sum.inr.inj z))]
def putD (d : As) (s : Str) (v : PV) : As := if (look d s).isSome = true then d.map fun e => if e.1 = s then (e.1, v) else e else d ++ [(s, v)]
theorem hasK_enc : ∀ (d : As) (s : Str), hasK (dKs d) (.inr s) = (look d s).isSome
  | [], s => rfl
  | (k, v) :: d, s => by
    show (decide ((Sum.inr k : Key) = Sum.inr s) || hasK (dKs d) (.inr s)) = (if k = s then some v else look d s).isSome
    rw [hasK_enc d s]
    by_cases e : k = s
    · rw [if_pos e, decide_eq_true (by rw [e])]; rfl
    · rw [if_neg e, decide_eq_false (fun z => e (Sum.inr.inj z))]; rfl
theorem put_enc (d : As) (s : Str) (v : PV) : PV.dic (putKs (dKs d) (.inr s)) (putPs (dKs d) (dPs d) (.inr s) v) = encD (putD d s v) := by
  unfold putKs putPs putD
  rw [hasK_enc]
  by_cases h : (look d s).isSome = true
  · rw [if_pos h, if_pos h, if_pos h]
    clear h
    unfold encD
    congr 1
    · unfold dKs
      rw [List.map_map]
      refine List.map_congr_left fun e _ => ?_
      show _ = Sum.inr (if e.1 = s then (e.1, v) else e).1
      split <;> rfl
    · induction d with
      | nil => rfl
      | cons e d ih =>
        show (if (Sum.inr e.1 : Key) = Sum.inr s then v else e.2) :: _ = (if e.1 = s then (e.1, v) else e).2 :: _
        rw [show List.zipWith (fun k p => if k = Sum.inr s then v else p) (List.map (fun e => Sum.inr e.1) d) (List.map (fun x => x.2) d) = dPs (d.map fun e => if e.1 = s then (e.1, v) else e) from ih]
        congr 1
        by_cases z : e.1 = s
        · rw [if_pos z, if_pos (by rw [z])]
        · rw [if_neg z, if_neg (fun y => z (Sum.inr.inj y))]
  · rw [if_neg h, if_neg h, if_neg h]
    unfold encD dKs dPs
    rw [List.map_append, List.map_append]; rfl
theorem look_put (d : As) (s : Str) (v : PV) (t : Str) : look (putD d s v) t = if s = t then some v else look d t := by
  unfold putD
  by_cases h : (look d s).isSome = true
  · rw [if_pos h]
    induction d with
    | nil => simp [look] at h
    | cons e d ih =>
      obtain ⟨k, w⟩ := e
      rw [List.map_cons]
      by_cases z : k = s
      · subst z
        simp only [if_true, look]
        by_cases y : k = t
        · rw [if_pos y, if_pos y]
        · rw [if_neg y, if_neg y, if_neg y]
          by_cases h2 : (look d k).isSome = true
          · rw [ih h2, if_neg y]
          · have : d.map (fun e => if e.1 = k then (e.1, v) else e) = d := by
              clear ih h
              induction d with
              | nil => rfl
              | cons f d ih2 =>
                have hf : f.1 ≠ k := fun q => h2 (by rw [look.eq_def]; simp only; rw [if_pos q]; rfl)
                have h3 : ¬ (look d k).isSome = true := fun q => h2 (by rw [look.eq_def]; simp only; rw [if_neg hf]; exact q)
                rw [List.map_cons, ih2 h3, if_neg hf]
            rw [this]
      · simp only [if_neg z, look] at h ⊢
        by_cases y : k = t
        · rw [if_pos y, if_pos y, if_neg (fun q => z (by rw [y, q]))]
        · rw [if_neg y, if_neg y, ih h]
  · rw [if_neg h]
    have hn : look d s = none := by cases e : look d s with
      | none => rfl
      | some _ => rw [e] at h; exact absurd rfl h
    clear h
    induction d with
    | nil => rfl
    | cons e d ih =>
      obtain ⟨k, w⟩ := e
      rw [List.cons_append]
      unfold look at hn ⊢
      by_cases z : k = s
      · rw [if_pos z] at hn; cases hn
      · rw [if_neg z] at hn
        by_cases y : k = t
        · rw [if_pos y, if_pos y, if_neg (fun q => z (by rw [y, q]))]
        · rw [if_neg y, if_neg y, ih hn]
theorem putD_keys (d : As) (s : Str) (v : PV) : (putD d s v).map (·.1) = if (look d s).isSome = true then d.map (·.1) else d.map (·.1) ++ [s] := by
  unfold putD
  by_cases h : (look d s).isSome = true
  · rw [if_pos h, if_pos h, List.map_map]
    refine List.map_congr_left fun e _ => ?_
    show (if e.1 = s then (e.1, v) else e).1 = e.1
    split <;> rfl
  · rw [if_neg h, if_neg h, List.map_append]; rfl
theorem look_some_mem : ∀ {d : As} {s : Str} {v : PV}, look d s = some v → (s, v) ∈ d
  | [], _, _, h => by cases h
  | (k, w) :: d, s, v, h => by
    unfold look at h
    split at h
    · rename_i e; cases h; rw [e]; exact List.mem_cons_self
    · exact List.mem_cons_of_mem _ (look_some_mem h)
theorem look_none : ∀ {d : As} {s : Str}, look d s = none ↔ s ∉ d.map (·.1)
  | [], s => by simp [look]
  | (k, w) :: d, s => by
    rw [look, List.map_cons, List.mem_cons]
    by_cases e : k = s
    · rw [if_pos e]; simp [e]
    · rw [if_neg e, look_none (d := d) (s := s)]
      constructor
      · rintro h (z | z)
        · exact e z.symm
        · exact h z
      · exact fun h z => h (.inr z)
theorem putD_nd {d : As} {s : Str} {v : PV} (h : (d.map (·.1)).Nodup) : ((putD d s v).map (·.1)).Nodup := by
  rw [putD_keys]
  split
  · exact h
  · rename_i n
    have hn : s ∉ d.map (·.1) := by
      rw [← look_none]
      cases e : look d s with
      | none => rfl
      | some _ => rw [e] at n; exact absurd rfl n
    refine List.nodup_append.mpr ⟨h, by simp, fun a ha b hb => ?_⟩
    have : b = s := by simpa using hb
    rw [this]
    exact fun z => hn (by rw [← z]; exact ha)
theorem putD_vals {d : As} {s : Str} {v : PV} {C : PV → Prop} (hv : C v) (h : ∀ e ∈ d, C e.2) : ∀ e ∈ putD d s v, C e.2 := by
  intro e he
  unfold putD at he
  split at he
  · obtain ⟨f, hf, rfl⟩ := List.mem_map.mp he
    split
    · exact hv
    · exact h f hf
  · rcases List.mem_append.mp he with he | he
    · exact h e he
    · have : e = (s, v) := by simpa using he
      rw [this]; exact hv
theorem putD_len (d : As) (s : Str) (v : PV) : (putD d s v).length ≤ d.length + 1 := by
  unfold putD
  split
  · simp
  · simp
theorem dKs_len (d : As) : (dKs d).length = d.length := by unfold dKs; rw [List.length_map]
theorem look_mem_of {d : As} {s : Str} {v : PV} (nd : (d.map (·.1)).Nodup) (h : (s, v) ∈ d) : look d s = some v := by
  induction d with
  | nil => cases h
  | cons e d ih =>
    obtain ⟨k, w⟩ := e
    rw [List.map_cons, List.nodup_cons] at nd
    unfold look
    rcases List.mem_cons.mp h with z | z
    · cases z; rw [if_pos rfl]
    · have ne : k ≠ s := fun y => nd.1 (by rw [y]; exact List.mem_map.mpr ⟨_, z, rfl⟩)
      rw [if_neg ne]; exact ih nd.2 z
/-! ### terms with names put -/
mutual
def putT (d : As) : PV → PV
  | .str s => match look d s with
    | some z => z
    | none => .str s
  | .tup [] => .tup []
  | .tup (p :: ps) => .tup (p :: putTs d ps)
  | .lst x => .lst x
  | .scr x => .scr x
  | .nst t c s => .nst t c s
  | .ty x => .ty x
  | .non => .non
  | .bl x => .bl x
  | .int x => .int x
  | .dic x y => .dic x y
def putTs (d : As) : List PV → List PV
  | [] => []
  | p :: ps => putT d p :: putTs d ps
end
theorem putTs_map (d : As) : ∀ ps : List PV, putTs d ps = ps.map (putT d)
  | [] => by rw [putTs]; rfl
  | p :: ps => by rw [putTs, putTs_map d ps]; rfl

end Lw
set_option maxHeartbeats 4000000
namespace Lw
open PySem L2 PyProof.Rows Px
local macro_rules | `(tactic| walk_at "px") => `(tactic| simp -dsimp only [qVar, qK, qNil, qCons, qTup, qLst, vals, looks, R.look, R.wk, qCB, qB, qOp2, qTru, truG, qAnd, qOr, qNot, qAndV, qOrV, qNotV, qIfE, qNo, qPart, qSl, gSl, qIt, qRng1, qRng2, qgN, qgNil, qgCons, qgT, notIo_zero, notIo_succ, notIo_nil', slOk_un, slOk_val, slOk_own, slOk_pl, slOk_pd, notIos_nil, notIos_cons, qYes, qLc, qNext, qSeq, qBreak, qCont, qFrz, frz, qDrop, retG, qRet, qRetN, qIf, qSet, qOwn, qAsg, qFor, qMut, ownTy, gAppend, gExtend, gPop, isOwn, qSetIx, qCall, splitArgs, putOuts, setOwn, finOk, endsOf, mk, outsOf, uns,
  gAdd, gInt, gInt0, gEq, gNe, gIn, gNotIn, gIs, gIsNot, Px.isNon, gIx, getP, gLen, gAbs, gIntC, gSum, gMax, gMax2, gMax3, gMinT, gAll, gAny, gList, gTuple, gIsi, qNeg, qDict0, wipeE, lcGo_nil, br_t, br_f, atI_0, atI_1, atI_2, atI_3, ixN_0, ixN_1, ixN_2, ixN_3, List.length_map, List.length_set, cut_from1, isTy, tyN, gIsiT, asTys, gListD, keyP, isDic, qGet1, qGet2, qLZ, gZip, qPairs, mergeP, qDisp, gDictC, gStr, qChain, qPar, qAug, qMeth, tyIs, gIndex, qLcK, qDc, qDcK, dicAt, qForK, qZipI, qCallB, qCallF, splitB, qTake, tkEnds, tkRt, tkBack, Px.isN, isNst, gIxN, gPop0, gInsert, qSetSeed, qStep, qPar3, qLcO, lcoK, stEnds, stGo, immS, Px.imm, endsLaw, Option.isSome_some, Option.isSome_none, isEmp_concat, List.getLast?_concat, List.dropLast_concat, List.isEmpty_nil, gEqX, gNeX, List.any_cons, List.any_nil, tyOk_str, tyOk_tuple, tyOk_int, tyOk_bool, tyOk_list, tyOk_dict, Option.map_some, Option.map_none,
  eqOk_str, eqOk_int, eqOk_bl, eqOk_non, eqOkW_str, eqOkW_int, eqOkW_bl, eqOkW_non, gEqW, gNeW, qVals, ownDic, qLc2, gLtX, gGtX, gSortX, peq_str, peq_int, peq_bl, List.getElem?_cons_zero, List.getElem?_cons_succ, List.getElem?_nil, List.set_cons_zero, List.set_cons_succ, List.zipWith_cons_cons, List.zipWith_nil_left, List.replicate_succ, List.replicate_zero, List.cons_append, List.nil_append, List.length_cons, List.length_nil, List.map_cons, List.map_nil, ↓reduceIte, Bool.false_eq_true, and_true, true_and, Bool.not_true, Bool.not_false, Nat.reduceAdd, Nat.reduceLT, Nat.reduceLeDiff, Nat.zero_lt_succ, Nat.lt_add_one, ne_eq, not_true_eq_false, not_false_eq_true, String.reduceEq, String.reduceBEq, Bool.or_false, Bool.false_or, Bool.or_true, Bool.true_or, Bool.and_false, Bool.and_true, Bool.false_and, Bool.true_and, reduceCtorEq])
/-! ### draws -/
def NsOk (d : PV) : Prop := ∃ c s, d = .nst false c s
def S_draw : FS := { io := [true, false], pre := fun ps => ∃ d n, ps = [d, .int n] ∧ NsOk d ∧ 0 < n ∧ n < 1000000, post := fun ps r outs => ∃ k d', r = .int k ∧ outs = [d'] ∧ NsOk d' ∧ 0 ≤ k ∧ ∀ d n, ps = [d, .int n] → k < n }
def S_pick : FS := { io := [true, false], pre := fun ps => ∃ d row, ps = [d, row] ∧ isRow row ∧ NsOk d ∧ items row ≠ [] ∧ (items row).length < 1000000, post := fun ps r outs => ∃ d', outs = [d'] ∧ NsOk d' ∧ ∀ d row, ps = [d, row] → r ∈ items row }
theorem draw_i {ρ : En} {j : Nat} {b : Bool} {d : PV} {n : Int} {Q : PK1} {dm : Dum Q} (h : ρ[j]? = some (Sl.own b d)) (hd : NsOk d) (h0 : 0 < n) (h1 : n < 1000000) (k : ∀ m d', NsOk d' → 0 ≤ m → m < n → Q (.pv (.int m)) (setOwn ρ j d')) : callR S_draw [.sl j, .pv (.int n)] ρ Q dm := by
  refine call_1 (j := j) (ps := [d, .int n]) (by simp [S_draw, splitArgs, h]) rfl ⟨d, n, rfl, hd, h0, h1⟩ fun r d' hp => ?_
  obtain ⟨m, d2, rfl, e, hd', m0, m1⟩ := hp
  cases e
  exact k m d' hd' m0 (m1 _ _ rfl)
theorem pick_i {ρ : En} {j : Nat} {b : Bool} {d row : PV} {Q : PK1} {dm : Dum Q} (h : ρ[j]? = some (Sl.own b d)) (hd : NsOk d) (hr : isRow row) (hn : items row ≠ []) (hl : (items row).length < 1000000) (k : ∀ r d', NsOk d' → r ∈ items row → Q (.pv r) (setOwn ρ j d')) : callR S_pick [.sl j, .pv row] ρ Q dm := by
  refine call_1 (j := j) (ps := [d, row]) (by simp [S_pick, splitArgs, h]) rfl ⟨d, row, rfl, hr, hd, hn, hl⟩ fun r d' hp => ?_
  obtain ⟨d2, e, hd', hm⟩ := hp
  cases e
  exact k r d' hd' (hm _ _ rfl)
section
variable {P : Program} {w : World} {K : PySem.W.Frag} {mg : Str → Option Value} {base : Heap}
theorem ok_state (T : Txt K mg) : Has P w K mg base "_law_state" 1 ["script"] sState := by
  refine dv__law_state T sState rfl fun pvs lp pre => ?_
  obtain ⟨ns, rfl, hl⟩ := pre
  unfold rd__law_state sState
  walk_at "px"
  refine for_ind (fun qs ρ => ∃ (s : Int) (sl : Sl) (ms : List Int), Pl sl ∧ qs = ms.map PV.int ∧ ρ = [.val (.scr ns), .val (.int s), sl]) ?_ ?_ _ _ ⟨7, .un, ns, pl_un, rfl, rfl⟩
  · rintro ρ ⟨s, sl, ms, psl, e, rfl⟩
    have fin : ∀ sl : Sl, Pl sl → notIos [.val (.scr ns), .val (.int s), sl] [2] → True := fun _ _ _ => trivial
    rcases psl with rfl | ⟨q, rfl⟩
    all_goals
      walk_at "px"
      refine lcR_i (lc_ind (fun qs acc ρ => ∃ ms done : List Int, (∀ n ∈ done, 0 ≤ n) ∧ qs = ms.map PV.int ∧ acc = done.map PV.int ∧ done.length + ms.length ≤ 63 ∧ ρ = [.val (.scr ns), .val (.int s), .un]) ?_ ?_ _ _ _ ⟨ns, [], (fun n h => by simp at h), rfl, rfl, by simpa using hl, rfl⟩)
      · rintro acc ρ ⟨ms, done, nn, e1, rfl, _, rfl⟩
        walk_at "px"
        exact ⟨small_of (by decide), done, s + 1, rfl, nn⟩
      · rintro p ps acc ρ ⟨ms, done, nn, e1, rfl, hl2, rfl⟩ N ih
        cases ms with
        | nil => cases e1
        | cons m ms =>
          rw [List.map_cons] at e1
          injection e1 with e1 e2
          subst e1 e2
          walk_at "px"
          simp only [List.length_cons] at hl2
          exact ⟨small_of (by omega), ih _ _ ⟨ms, done ++ [if m < 0 then -m else m], fun n hn => by
            rcases List.mem_append.mp hn with hn | hn
            · exact nn n hn
            · have e := List.mem_singleton.mp hn
              subst e
              split <;> omega, rfl, by rw [List.map_append]; rfl, by simp only [List.length_append, List.length_cons, List.length_nil]; omega, rfl⟩⟩
  · rintro p ps ρ ⟨s, sl, ms, psl, e, rfl⟩ N ih
    cases ms with
    | nil => cases e
    | cons m ms =>
      rw [List.map_cons] at e
      injection e with e1 e2
      subst e1 e2
      have hm : ∀ c : Int, CMul c 31 := fun c => cmul_r ⟨by decide, by decide⟩
      have h21 : (0 : Int) < 1000003 := by decide
      rcases psl with rfl | ⟨q, rfl⟩
      all_goals
        walk_at "px"
        exact ⟨hm _, h21, ih _ ⟨_, _, ms, pl_val, rfl, rfl⟩⟩
theorem ok_draw (T : Txt K mg) : Has P w K mg base "_law_draw" 1 ["state", "many"] S_draw := by
  refine dv__law_draw T S_draw rfl fun pvs lp pre => ?_
  obtain ⟨d, n, rfl, ⟨c, s, rfl⟩, h0, h1⟩ := pre
  unfold rd__law_draw S_draw
  have hm2 : ∀ c : Int, CMul c 48271 := fun c => cmul_r ⟨by decide, by decide⟩
  have h22 : (0 : Int) < 2147483647 := by decide
  have h64 : (0 : Int) < 64 := by decide
  have hd64 : ∀ c : Int, CDiv c 64 := fun c => ⟨by decide, by decide⟩
  have hd : ∀ c : Int, CDiv c n := fun c => ⟨h0, by omega⟩
  have told : ∀ (c2 : Nat) (s2 x : Int), ∃ k d', PV.int (x % n) = PV.int k ∧ [PV.nst false c2 s2] = [d'] ∧ NsOk d' ∧ 0 ≤ k ∧ ∀ (d : PV) (m : Int), [PV.nst false c s, PV.int n] = [d, PV.int m] → k < m := fun c2 s2 x =>
    ⟨x % n, _, rfl, rfl, ⟨c2, s2, rfl⟩, Int.emod_nonneg _ (by omega), fun d m e => by
      have e2 : n = m := by injection e with _ e; injection e with e _; injection e
      subst e2
      exact Int.emod_lt_of_pos _ h0⟩
  walk_at "px"
  intro ns nn
  refine while_i (fun m ρ => ∃ ns : List Int, (∀ n ∈ ns, 0 ≤ n) ∧ m = ns.length ∧ ρ = [.own true (.nst true c s), .val (.int n), .own true (.lst (ns.map PV.int)), .un, .un]) _ ⟨ns, nn, rfl, rfl⟩ ?_
  rintro m ρ ⟨ns, nn, rfl, rfl⟩
  cases ns with
  | nil =>
    have hz : decide ((0 : Int) < ((0 : Nat) : Int)) = false := by decide
    walk_at "px"
    rw [hz]
    walk_at "px"
    exact ⟨hm2 _, h22, hd64 _, h0, ⟨[], rfl, fun n h => by simp at h⟩, told _ _ _⟩
  | cons x ns =>
    have nx : 0 ≤ x := nn x List.mem_cons_self
    have n1 : ∀ n ∈ ns, 0 ≤ n := fun n h => nn n (List.mem_cons_of_mem _ h)
    have up : ∀ z : Int, 0 ≤ z → ∃ ns_1 : List Int, PV.int z :: List.map PV.int ns = List.map PV.int ns_1 ∧ ∀ (n : Int), n ∈ ns_1 → 0 ≤ n := fun z hz => ⟨z :: ns, rfl, fun n h => by
      rcases List.mem_cons.mp h with rfl | h
      · exact hz
      · exact n1 n h⟩
    have ux := up x nx
    have ud := up (x / n) (Int.ediv_nonneg nx (by omega))
    walk_at "px"
    exact ⟨fun _ => ⟨fun _ => ⟨ns.length, by omega, ns, n1, rfl, rfl⟩, fun _ => ⟨fun _ => ⟨hd _, h0, ud, told _ _ _⟩, fun _ => ⟨hm2 _, h22, hd64 _, h0, ux, told _ _ _⟩⟩⟩, fun _ => ⟨fun _ => ⟨hd _, h0, ud, told _ _ _⟩, fun _ => ⟨hm2 _, h22, hd64 _, h0, ux, told _ _ _⟩⟩⟩
theorem ok_pick (T : Txt K mg) : Has P w K mg base "_law_pick" 2 ["state", "row"] S_pick := by
  refine dv__law_pick T (ok_draw T) S_pick rfl fun pvs lp pre => ?_
  obtain ⟨d, row, rfl, hr, hd, hne, hl⟩ := pre
  unfold rd__law_pick S_pick
  have h0 : 0 < (items row).length := List.length_pos_iff.mpr hne
  cases row with
  | lst qs =>
    have h0' : 0 < qs.length := h0
    have hl' : qs.length < 1000000 := hl
    walk_at "px"
    refine draw_i rfl hd (by omega) (by omega) fun k d' hd' k0 k1 => ?_
    walk_at "px"
    obtain ⟨x, e, m⟩ := atI_in k0 k1
    rw [e]
    exact ⟨d', rfl, hd', fun d2 row2 e2 => by injection e2 with _ e2; injection e2 with e2 _; subst e2; exact m⟩
  | tup qs =>
    have h0' : 0 < qs.length := h0
    have hl' : qs.length < 1000000 := hl
    walk_at "px"
    refine draw_i rfl hd (by omega) (by omega) fun k d' hd' k0 k1 => ?_
    walk_at "px"
    obtain ⟨x, e, m⟩ := atI_in k0 k1
    rw [e]
    exact ⟨d', rfl, hd', fun d2 row2 e2 => by injection e2 with _ e2; injection e2 with e2 _; subst e2; exact m⟩
  | _ => exact hr.elim
end

end Lw
set_option maxHeartbeats 4000000
namespace Lw
open PySem L2 PyProof.Rows Px
local macro_rules | `(tactic| walk_at "px") => `(tactic| simp -dsimp only [qVar, qK, qNil, qCons, qTup, qLst, vals, looks, R.look, R.wk, qCB, qB, qOp2, qTru, truG, qAnd, qOr, qNot, qAndV, qOrV, qNotV, qIfE, qNo, qPart, qSl, gSl, qIt, qRng1, qRng2, qgN, qgNil, qgCons, qgT, notIo_zero, notIo_succ, notIo_nil', slOk_un, slOk_val, slOk_own, slOk_pl, slOk_pd, notIos_nil, notIos_cons, qYes, qLc, qNext, qSeq, qBreak, qCont, qFrz, frz, qDrop, retG, qRet, qRetN, qIf, qSet, qOwn, qAsg, qFor, qMut, ownTy, gAppend, gExtend, gPop, isOwn, qSetIx, qCall, splitArgs, putOuts, setOwn, finOk, endsOf, mk, outsOf, uns,
  gAdd, gInt, gInt0, gEq, gNe, gIn, gNotIn, gIs, gIsNot, Px.isNon, gIx, getP, gLen, gAbs, gIntC, gSum, gMax, gMax2, gMax3, gMinT, gAll, gAny, gList, gTuple, gIsi, qNeg, qDict0, wipeE, lcGo_nil, br_t, br_f, atI_0, atI_1, atI_2, atI_3, ixN_0, ixN_1, ixN_2, ixN_3, List.length_map, List.length_set, cut_from1, isTy, tyN, gIsiT, asTys, gListD, keyP, isDic, qGet1, qGet2, qLZ, gZip, qPairs, mergeP, qDisp, gDictC, gStr, qChain, qPar, qAug, qMeth, tyIs, gIndex, qLcK, qDc, qDcK, dicAt, qForK, qZipI, qCallB, qCallF, splitB, qTake, tkEnds, tkRt, tkBack, Px.isN, isNst, gIxN, gPop0, gInsert, qSetSeed, qStep, qPar3, qLcO, lcoK, stEnds, stGo, immS, Px.imm, endsLaw, Option.isSome_some, Option.isSome_none, isEmp_concat, List.getLast?_concat, List.dropLast_concat, List.isEmpty_nil, gEqX, gNeX, List.any_cons, List.any_nil, tyOk_str, tyOk_tuple, tyOk_int, tyOk_bool, tyOk_list, tyOk_dict, Option.map_some, Option.map_none,
  eqOk_str, eqOk_int, eqOk_bl, eqOk_non, eqOkW_str, eqOkW_int, eqOkW_bl, eqOkW_non, gEqW, gNeW, qVals, ownDic, qLc2, gLtX, gGtX, gSortX, peq_str, peq_int, peq_bl, List.getElem?_cons_zero, List.getElem?_cons_succ, List.getElem?_nil, List.set_cons_zero, List.set_cons_succ, List.zipWith_cons_cons, List.zipWith_nil_left, List.replicate_succ, List.replicate_zero, List.cons_append, List.nil_append, List.length_cons, List.length_nil, List.map_cons, List.map_nil, ↓reduceIte, Bool.false_eq_true, and_true, true_and, Bool.not_true, Bool.not_false, Nat.reduceAdd, Nat.reduceLT, Nat.reduceLeDiff, Nat.zero_lt_succ, Nat.lt_add_one, ne_eq, not_true_eq_false, not_false_eq_true, String.reduceEq, String.reduceBEq, Bool.or_false, Bool.false_or, Bool.or_true, Bool.true_or, Bool.and_false, Bool.and_true, Bool.false_and, Bool.true_and, reduceCtorEq])
/-! ### arities -/
def arq (w : Str) : Option Nat := if w = Str.ofString "z" then some 0 else if w = Str.ofString "s" then some 1 else if w = Str.ofString "p" then some 2 else if w = Str.ofString "o" then some 0 else none
mutual
/-- names, and makers with their number of parts -/
def okP : PV → Bool
  | .str _ => true
  | .tup [] => false
  | .tup (p :: ps) => (match p with
    | .str w => arq w == some ps.length
    | _ => false) && okPs ps
  | .lst _ => false
  | .scr _ => false
  | .nst _ _ _ => false
  | .ty _ => false
  | .non => false
  | .bl _ => false
  | .int _ => false
  | .dic _ _ => false
def okPs : List PV → Bool
  | [] => true
  | p :: ps => okP p && okPs ps
end
mutual
/-- .. without names -/
def okC : PV → Bool
  | .str _ => false
  | .tup [] => false
  | .tup (p :: ps) => (match p with
    | .str w => arq w == some ps.length
    | _ => false) && okCs ps
  | .lst _ => false
  | .scr _ => false
  | .nst _ _ _ => false
  | .ty _ => false
  | .non => false
  | .bl _ => false
  | .int _ => false
  | .dic _ _ => false
def okCs : List PV → Bool
  | [] => true
  | p :: ps => okC p && okCs ps
end
theorem okP_cases {p : PV} (h : okP p = true) : (∃ s, p = .str s) ∨ ∃ w ps, p = .tup (.str w :: ps) ∧ arq w = some ps.length ∧ okPs ps = true := by
  cases p with
  | str s => exact .inl ⟨s, rfl⟩
  | tup ps =>
    cases ps with
    | nil => simp [okP] at h
    | cons q ps =>
      cases q with
      | str v =>
        rw [okP, Bool.and_eq_true] at h
        exact .inr ⟨v, ps, rfl, by simpa using h.1, h.2⟩
      | _ => simp [okP] at h
  | _ => simp [okP] at h
theorem okC_cases {p : PV} (h : okC p = true) : ∃ w ps, p = .tup (.str w :: ps) ∧ arq w = some ps.length ∧ okCs ps = true := by
  cases p with
  | tup ps =>
    cases ps with
    | nil => simp [okC] at h
    | cons q ps =>
      cases q with
      | str v =>
        rw [okC, Bool.and_eq_true] at h
        exact ⟨v, ps, rfl, by simpa using h.1, h.2⟩
      | _ => simp [okC] at h
  | _ => simp [okC] at h
theorem okC_mk {w : Str} {ps : List PV} (h : arq w = some ps.length) (g : okCs ps = true) : okC (.tup (.str w :: ps)) = true := by
  rw [okC, Bool.and_eq_true]; exact ⟨by simpa using h, g⟩
theorem okCs_iff : ∀ ps : List PV, okCs ps = true ↔ ∀ p ∈ ps, okC p = true
  | [] => by simp [okCs]
  | p :: ps => by simp [okCs, okCs_iff ps]
theorem okPs_iff : ∀ ps : List PV, okPs ps = true ↔ ∀ p ∈ ps, okP p = true
  | [] => by simp [okPs]
  | p :: ps => by simp [okPs, okPs_iff ps]
mutual
theorem okP_tsh : ∀ p : PV, okP p = true → tsh p = true
  | .str _, _ => by rw [tsh]
  | .tup [], h => by simp [okP] at h
  | .tup (p :: ps), h => by
    cases p with
    | str v =>
      rw [okP, Bool.and_eq_true] at h
      rw [tsh, okPs_tshs ps h.2]; rfl
    | _ => simp [okP] at h
  | .lst _, h => by simp [okP] at h
  | .scr _, h => by simp [okP] at h
  | .nst _ _ _, h => by simp [okP] at h
  | .ty _, h => by simp [okP] at h
  | .non, h => by simp [okP] at h
  | .bl _, h => by simp [okP] at h
  | .int _, h => by simp [okP] at h
  | .dic _ _, h => by simp [okP] at h
theorem okPs_tshs : ∀ ps : List PV, okPs ps = true → tshs ps = true
  | [], _ => by rw [tshs]
  | p :: ps, h => by
    rw [okPs, Bool.and_eq_true] at h
    rw [tshs, okP_tsh p h.1, okPs_tshs ps h.2]; rfl
end
mutual
theorem okC_okP : ∀ p : PV, okC p = true → okP p = true
  | .str _, h => by simp [okC] at h
  | .tup [], h => by simp [okC] at h
  | .tup (p :: ps), h => by
    cases p with
    | str v =>
      rw [okC, Bool.and_eq_true] at h
      rw [okP, Bool.and_eq_true]
      exact ⟨h.1, okCs_okPs ps h.2⟩
    | _ => simp [okC] at h
  | .lst _, h => by simp [okC] at h
  | .scr _, h => by simp [okC] at h
  | .nst _ _ _, h => by simp [okC] at h
  | .ty _, h => by simp [okC] at h
  | .non, h => by simp [okC] at h
  | .bl _, h => by simp [okC] at h
  | .int _, h => by simp [okC] at h
  | .dic _ _, h => by simp [okC] at h
theorem okCs_okPs : ∀ ps : List PV, okCs ps = true → okPs ps = true
  | [], _ => by rw [okPs]
  | p :: ps, h => by
    rw [okCs, Bool.and_eq_true] at h
    rw [okPs, okC_okP p h.1, okCs_okPs ps h.2]; rfl
end
theorem okC_tsh {p : PV} (h : okC p = true) : tsh p = true := okP_tsh p (okC_okP p h)
theorem okCs_tshs {ps : List PV} (h : okCs ps = true) : tshs ps = true := okPs_tshs ps (okCs_okPs ps h)
/-! ### what fits, in the programs' order -/
def bindP (s : Str) (t : PV) (d : As) : Option As := match look d s with
  | some z => if peq z t = true then some (putD d s t) else none
  | none => some (putD d s t)
mutual
def fitP : PV → PV → As → Option As
  | .str s, t, d => bindP s t d
  | .tup [], _, _ => none
  | .tup (p :: ps), t, d => match p, t with
    | .str v, .tup (.str w :: qs) => if v = w then fitPs ps qs d else none
    | _, _ => none
  | .lst _, _, _ => none
  | .scr _, _, _ => none
  | .nst _ _ _, _, _ => none
  | .ty _, _, _ => none
  | .non, _, _ => none
  | .bl _, _, _ => none
  | .int _, _, _ => none
  | .dic _ _, _, _ => none
def fitPs : List PV → List PV → As → Option As
  | p :: ps, q :: qs, d => match fitPs ps qs d with
    | some e => fitP p q e
    | none => none
  | [], _, d => some d
  | _ :: _, [], d => some d
end
def fitW : List (PV × PV) → As → Option As
  | [], d => some d
  | x :: W, d => match fitW W d with
    | some e => fitP x.1 x.2 e
    | none => none
theorem fitW_append : ∀ (U W : List (PV × PV)) (d : As), fitW (U ++ W) d = match fitW W d with
    | some e => fitW U e
    | none => none
  | [], W, d => by
    rw [List.nil_append]
    cases fitW W d <;> rfl
  | x :: U, W, d => by
    rw [List.cons_append, fitW, fitW_append U W d]
    cases fitW W d with
    | none => rfl
    | some e => rfl
theorem fitW_zip : ∀ (ps qs : List PV) (d : As), fitW (ps.zip qs) d = fitPs ps qs d
  | [], qs, d => by rw [List.zip_nil_left, fitW, fitPs]
  | p :: ps, [], d => by rw [List.zip_nil_right, fitW, fitPs]
  | p :: ps, q :: qs, d => by rw [List.zip_cons_cons, fitW, fitW_zip ps qs d, fitPs]
theorem fitW_last (W : List (PV × PV)) (p t : PV) (d : As) : fitW (W ++ [(p, t)]) d = match fitP p t d with
    | some e => fitW W e
    | none => none := by
  rw [fitW_append]
  rfl
theorem fitW_step (W : List (PV × PV)) (v : Str) (ps qs : List PV) (d : As) : fitW (W ++ [(.tup (.str v :: ps), .tup (.str v :: qs))]) d = fitW (W ++ ps.zip qs) d := by
  rw [fitW_last, fitW_append, fitW_zip, fitP, if_pos rfl]
def encF : Option As → PV
  | none => .non
  | some d => encD d
def pairP (x : PV × PV) : PV := .tup [x.1, x.2]
theorem zipP_zip : ∀ ps qs : List PV, zipP ps qs = (ps.zip qs).map pairP
  | [], qs => by rw [List.zip_nil_left]; cases qs <;> rfl
  | p :: ps, [] => rfl
  | p :: ps, q :: qs => by rw [List.zip_cons_cons, List.map_cons, zipP, zipP_zip ps qs]; rfl
/-- terms that may be handed in -/
def tmOk (x : PV × PV) : Prop := tsh x.1 = true ∧ tsh x.2 = true ∧ dep x.2 ≤ 64
def pszW : List (PV × PV) → Nat
  | [] => 0
  | x :: W => psz x.1 + pszW W
theorem pszW_append : ∀ U W : List (PV × PV), pszW (U ++ W) = pszW U + pszW W
  | [], W => by simp [pszW]
  | x :: U, W => by simp [pszW, pszW_append U W]; omega
theorem pszW_zip : ∀ ps qs : List PV, pszW (ps.zip qs) ≤ pszs ps
  | [], qs => by rw [List.zip_nil_left]; simp [pszW]
  | p :: ps, [] => by rw [List.zip_nil_right]; simp [pszW]
  | p :: ps, q :: qs => by rw [List.zip_cons_cons, pszW, pszs]; have := pszW_zip ps qs; show psz p + _ ≤ _; omega
theorem len_pszW : ∀ W : List (PV × PV), W.length ≤ pszW W
  | [] => by simp
  | x :: W => by rw [List.length_cons, pszW]; have := psz_pos x.1; have := len_pszW W; omega
theorem zip_tmOk {ps qs : List PV} (h1 : tshs ps = true) (h2 : tshs qs = true) (h3 : deps qs ≤ 64) : ∀ x ∈ ps.zip qs, tmOk x := fun x hx => by
  obtain ⟨a, b⟩ := x
  have := List.of_mem_zip hx
  exact ⟨tshs_mem h1 a this.1, tshs_mem h2 b this.2, by have := dep_mem b this.2; show dep b ≤ 64; omega⟩
/-- .. of the right number of parts -/
def arOk (x : PV × PV) : Prop := okP x.1 = true ∧ okC x.2 = true
theorem zip_arOk {ps qs : List PV} (h1 : okPs ps = true) (h2 : okCs qs = true) : ∀ x ∈ ps.zip qs, arOk x := fun x hx => by
  obtain ⟨a, b⟩ := x
  have := List.of_mem_zip hx
  exact ⟨(okPs_iff ps).mp h1 a this.1, (okCs_iff qs).mp h2 b this.2⟩
/-! ### what a fitting gives -/
mutual
def nmP : PV → List Str
  | .str s => [s]
  | .tup [] => []
  | .tup (_ :: ps) => nmPs ps
  | .lst _ => []
  | .scr _ => []
  | .nst _ _ _ => []
  | .ty _ => []
  | .non => []
  | .bl _ => []
  | .int _ => []
  | .dic _ _ => []
def nmPs : List PV → List Str
  | [] => []
  | p :: ps => nmP p ++ nmPs ps
end
structure DOk (n : Nat) (d : As) : Prop where
  nd : (d.map (·.1)).Nodup
  ok : ∀ e ∈ d, okC e.2 = true ∧ dep e.2 ≤ n
theorem DOk.nil {n : Nat} : DOk n [] := ⟨List.nodup_nil, fun e he => by cases he⟩
theorem look_put_some {d : As} {s x : Str} {t : PV} (h : look d x ≠ none) : look (putD d s t) x ≠ none := by
  rw [look_put]
  split
  · simp
  · exact h
theorem bindP_ok {n : Nat} {s : Str} {t : PV} {d e : As} (h : bindP s t d = some e) (D : DOk n d) (ht : okC t = true) (hd : dep t ≤ n) : DOk n e ∧ (∀ x, look d x ≠ none → look e x ≠ none) ∧ look e s ≠ none ∧ e.length ≤ d.length + 1 := by
  have key : e = putD d s t := by
    unfold bindP at h
    split at h
    · split at h
      · cases h; rfl
      · cases h
    · cases h; rfl
  subst key
  exact ⟨⟨putD_nd D.nd, putD_vals (C := fun v => okC v = true ∧ dep v ≤ n) ⟨ht, hd⟩ D.ok⟩, fun x hx => look_put_some hx, by rw [look_put, if_pos rfl]; simp, putD_len d s t⟩
mutual
theorem fitP_ok {n : Nat} : ∀ (p t : PV) (d e : As), okP p = true → okC t = true → dep t ≤ n → DOk n d → fitP p t d = some e → DOk n e ∧ (∀ x, look d x ≠ none → look e x ≠ none) ∧ (∀ x ∈ nmP p, look e x ≠ none)
  | .str s, t, d, e, hp, ht, hd, D, h => by
    rw [fitP] at h
    obtain ⟨h1, h2, h3, _⟩ := bindP_ok h D ht hd
    exact ⟨h1, h2, fun x hx => by rw [nmP, List.mem_singleton] at hx; rw [hx]; exact h3⟩
  | .tup [], _, _, _, hp, _, _, _, _ => by simp [okP] at hp
  | .tup (p :: ps), t, d, e, hp, ht, hd, D, h => by
    cases p with
    | str v =>
      obtain ⟨w, qs, rfl, a2, o2⟩ := okC_cases ht
      rw [okP, Bool.and_eq_true] at hp
      have a1 : arq v = some ps.length := by simpa using hp.1
      rw [fitP] at h
      split at h
      · rename_i e1
        subst e1
        rw [a1] at a2
        have hl : ps.length = qs.length := Option.some.inj a2
        have hd2 : deps qs ≤ n := by rw [dep, deps] at hd; omega
        obtain ⟨h1, h2, h3⟩ := fitPs_ok ps qs d e hl hp.2 o2 hd2 D h
        exact ⟨h1, h2, fun x hx => h3 x (by rw [nmP] at hx; exact hx)⟩
      · cases h
    | _ => simp [okP] at hp
  | .lst _, _, _, _, hp, _, _, _, _ => by simp [okP] at hp
  | .scr _, _, _, _, hp, _, _, _, _ => by simp [okP] at hp
  | .nst _ _ _, _, _, _, hp, _, _, _, _ => by simp [okP] at hp
  | .ty _, _, _, _, hp, _, _, _, _ => by simp [okP] at hp
  | .non, _, _, _, hp, _, _, _, _ => by simp [okP] at hp
  | .bl _, _, _, _, hp, _, _, _, _ => by simp [okP] at hp
  | .int _, _, _, _, hp, _, _, _, _ => by simp [okP] at hp
  | .dic _ _, _, _, _, hp, _, _, _, _ => by simp [okP] at hp
theorem fitPs_ok {n : Nat} : ∀ (ps qs : List PV) (d e : As), ps.length = qs.length → okPs ps = true → okCs qs = true → deps qs ≤ n → DOk n d → fitPs ps qs d = some e → DOk n e ∧ (∀ x, look d x ≠ none → look e x ≠ none) ∧ (∀ x ∈ nmPs ps, look e x ≠ none)
  | [], qs, d, e, _, _, _, _, D, h => by
    rw [fitPs] at h; cases h
    exact ⟨D, fun x h => h, fun x hx => by rw [nmPs] at hx; cases hx⟩
  | p :: ps, [], d, e, hl, _, _, _, _, _ => by simp at hl
  | p :: ps, q :: qs, d, e, hl, hp, hq, hd, D, h => by
    rw [okPs, Bool.and_eq_true] at hp
    rw [okCs, Bool.and_eq_true] at hq
    rw [deps] at hd
    rw [fitPs] at h
    cases e1 : fitPs ps qs d with
    | none => rw [e1] at h; cases h
    | some f =>
      rw [e1] at h
      obtain ⟨h1, h2, h3⟩ := fitPs_ok ps qs d f (by simpa using hl) hp.2 hq.2 (by omega) D e1
      obtain ⟨g1, g2, g3⟩ := fitP_ok p q f e hp.1 hq.1 (by omega) h1 h
      refine ⟨g1, fun x hx => g2 x (h2 x hx), fun x hx => ?_⟩
      rw [nmPs, List.mem_append] at hx
      rcases hx with hx | hx
      · exact g3 x hx
      · exact g2 x (h3 x hx)
end
mutual
theorem putT_ok {n : Nat} {d : As} (D : DOk n d) : ∀ p : PV, okP p = true → (∀ x ∈ nmP p, look d x ≠ none) → okC (putT d p) = true ∧ dep (putT d p) ≤ dep p + n
  | .str s, _, h => by
    rw [putT]
    cases e : look d s with
    | none => exact absurd e (h s (by rw [nmP]; exact List.mem_cons_self))
    | some z =>
      obtain ⟨h1, h2⟩ := D.ok _ (look_some_mem e)
      exact ⟨h1, by rw [dep]; simpa using h2⟩
  | .tup [], hp, _ => by simp [okP] at hp
  | .tup (p :: ps), hp, h => by
    cases p with
    | str v =>
      rw [okP, Bool.and_eq_true] at hp
      have a1 : arq v = some ps.length := by simpa using hp.1
      obtain ⟨h1, h2, h3⟩ := putTs_ok D ps hp.2 fun x hx => h x (by rw [nmP]; exact hx)
      rw [putT]
      refine ⟨okC_mk (by rw [h3]; exact a1) h1, ?_⟩
      rw [dep, deps, dep, deps, dep]
      omega
    | _ => simp [okP] at hp
  | .lst _, hp, _ => by simp [okP] at hp
  | .scr _, hp, _ => by simp [okP] at hp
  | .nst _ _ _, hp, _ => by simp [okP] at hp
  | .ty _, hp, _ => by simp [okP] at hp
  | .non, hp, _ => by simp [okP] at hp
  | .bl _, hp, _ => by simp [okP] at hp
  | .int _, hp, _ => by simp [okP] at hp
  | .dic _ _, hp, _ => by simp [okP] at hp
theorem putTs_ok {n : Nat} {d : As} (D : DOk n d) : ∀ ps : List PV, okPs ps = true → (∀ x ∈ nmPs ps, look d x ≠ none) → okCs (putTs d ps) = true ∧ deps (putTs d ps) ≤ deps ps + n ∧ (putTs d ps).length = ps.length
  | [], _, _ => by rw [putTs, okCs, deps]; exact ⟨rfl, Nat.zero_le _, rfl⟩
  | p :: ps, hp, h => by
    rw [okPs, Bool.and_eq_true] at hp
    rw [nmPs] at h
    obtain ⟨h1, h2⟩ := putT_ok D p hp.1 fun x hx => h x (List.mem_append_left _ hx)
    obtain ⟨g1, g2, g3⟩ := putTs_ok D ps hp.2 fun x hx => h x (List.mem_append_right _ hx)
    rw [putTs, okCs, deps, deps]
    exact ⟨by rw [h1, g1]; rfl, by omega, by simp [g3]⟩
end

end Lw
set_option maxHeartbeats 4000000
namespace Lw
open PySem L2 PyProof.Rows Px
def S_put (n : Nat) : FS := { io := [false, false], pre := fun ps => ∃ t d, ps = [t, encD d] ∧ tsh t = true ∧ dep t < n ∧ psz t ≤ 100000, post := fun ps r _ => ∀ t d, ps = [t, encD d] → r = putT d t }
theorem S_put_fr (n : Nat) : (S_put n).fr = false := rfl
theorem S_put_io (n : Nat) : (S_put n).io = [false, false] := rfl
local macro_rules | `(tactic| walk_at "px") => `(tactic| simp -dsimp only [qVar, qK, qNil, qCons, qTup, qLst, vals, looks, R.look, R.wk, qCB, qB, qOp2, qTru, truG, qAnd, qOr, qNot, qAndV, qOrV, qNotV, qIfE, qNo, qPart, qSl, gSl, qIt, qRng1, qRng2, qgN, qgNil, qgCons, qgT, notIo_zero, notIo_succ, notIo_nil', slOk_un, slOk_val, slOk_own, slOk_pl, slOk_pd, notIos_nil, notIos_cons, qYes, qLc, qNext, qSeq, qBreak, qCont, qFrz, frz, qDrop, retG, qRet, qRetN, qIf, qSet, qOwn, qAsg, qFor, qMut, ownTy, gAppend, gExtend, gPop, isOwn, qSetIx, qCall, splitArgs, putOuts, setOwn, finOk, endsOf, mk, outsOf, uns,
  gAdd, gInt, gInt0, gEq, gNe, gIn, gNotIn, gIs, gIsNot, Px.isNon, gIx, getP, gLen, gAbs, gIntC, gSum, gMax, gMax2, gMax3, gMinT, gAll, gAny, gList, gTuple, gIsi, qNeg, qDict0, wipeE, lcGo_nil, br_t, br_f, atI_0, atI_1, atI_2, atI_3, ixN_0, ixN_1, ixN_2, ixN_3, List.length_map, List.length_set, cut_from1, isTy, tyN, gIsiT, asTys, gListD, keyP, isDic, qGet1, qGet2, qLZ, gZip, qPairs, mergeP, qDisp, gDictC, gStr, qChain, qPar, qAug, qMeth, tyIs, gIndex, qLcK, qDc, qDcK, dicAt, qForK, qZipI, qCallB, qCallF, splitB, qTake, tkEnds, tkRt, tkBack, Px.isN, isNst, gIxN, gPop0, gInsert, qSetSeed, qStep, qPar3, qLcO, lcoK, stEnds, stGo, immS, Px.imm, endsLaw, Option.isSome_some, Option.isSome_none, isEmp_concat, List.getLast?_concat, List.dropLast_concat, List.isEmpty_nil, gEqX, gNeX, List.any_cons, List.any_nil, tyOk_str, tyOk_tuple, tyOk_int, tyOk_bool, tyOk_list, tyOk_dict, Option.map_some, Option.map_none,
  eqOk_str, eqOk_int, eqOk_bl, eqOk_non, eqOkW_str, eqOkW_int, eqOkW_bl, eqOkW_non, gEqW, gNeW, qVals, ownDic, qLc2, gLtX, gGtX, gSortX, peq_str, peq_int, peq_bl, List.getElem?_cons_zero, List.getElem?_cons_succ, List.getElem?_nil, List.set_cons_zero, List.set_cons_succ, List.zipWith_cons_cons, List.zipWith_nil_left, List.replicate_succ, List.replicate_zero, List.cons_append, List.nil_append, List.length_cons, List.length_nil, List.map_cons, List.map_nil, ↓reduceIte, Bool.false_eq_true, and_true, true_and, Bool.not_true, Bool.not_false, Nat.reduceAdd, Nat.reduceLT, Nat.reduceLeDiff, Nat.zero_lt_succ, Nat.lt_add_one, ne_eq, not_true_eq_false, not_false_eq_true, String.reduceEq, String.reduceBEq, Bool.or_false, Bool.false_or, Bool.or_true, Bool.true_or, Bool.and_false, Bool.and_true, Bool.false_and, Bool.true_and, reduceCtorEq, S_put_fr, S_put_io])
theorem encD_inj {d e : As} (h : encD d = encD e) : d = e := by
  unfold encD at h
  injection h with h1 h2
  unfold dKs at h1
  unfold dPs at h2
  induction d generalizing e with
  | nil => cases e with
    | nil => rfl
    | cons _ _ => simp at h1
  | cons a d ih =>
    cases e with
    | nil => simp at h1
    | cons b e =>
      simp only [List.map_cons, List.cons.injEq] at h1 h2
      have : a = b := Prod.ext (Sum.inr.inj h1.1) h2.1
      rw [this, ih h1.2 h2.2]
theorem put_i {n : Nat} {ρ : En} {t : PV} {d : As} {Q : PK1} {dm : Dum Q} (h : tsh t = true) (hd : dep t < n) (hz : psz t ≤ 100000) (k : Q (.pv (putT d t)) ρ) : callR (S_put n) [.pv t, .pv (encD d)] ρ Q dm :=
  call_p (ps := [t, encD d]) rfl rfl ⟨t, d, rfl, h, hd, hz⟩ fun r hp => by rw [hp _ _ rfl]; exact k
def S_lput (n : Nat) : FS := { io := [false, false], pre := fun ps => ∃ t d, ps = [t, encD d] ∧ tsh t = true ∧ dep t < n ∧ psz t ≤ 100000 ∧ ∀ x ∈ nmP t, look d x ≠ none, post := fun ps r _ => ∀ t d, ps = [t, encD d] → r = putT d t }
theorem lput_i {n : Nat} {ρ : En} {t : PV} {d : As} {Q : PK1} {dm : Dum Q} (h : tsh t = true) (hd : dep t < n) (hz : psz t ≤ 100000) (hx : ∀ x ∈ nmP t, look d x ≠ none) (k : Q (.pv (putT d t)) ρ) : callR (S_lput n) [.pv t, .pv (encD d)] ρ Q dm :=
  call_p (ps := [t, encD d]) rfl rfl ⟨t, d, rfl, h, hd, hz, hx⟩ fun r hp => by rw [hp _ _ rfl]; exact k
def S_fitted : FS := { io := [false, false], pre := fun pvs => ∃ ps qs, pvs = [.lst ps, .lst qs] ∧ tshs ps = true ∧ tshs qs = true ∧ deps qs ≤ 64 ∧ pszs ps ≤ 10000, post := fun pvs r _ => ∀ ps qs, pvs = [.lst ps, .lst qs] → r = encF (fitPs ps qs []) }
theorem fitted_i {ρ : En} {ps qs : List PV} {Q : PK1} {dm : Dum Q} (h1 : tshs ps = true) (h2 : tshs qs = true) (h3 : deps qs ≤ 64) (h4 : pszs ps ≤ 10000) (k : Q (.pv (encF (fitPs ps qs []))) ρ) : callR S_fitted [.pv (.lst ps), .pv (.lst qs)] ρ Q dm :=
  call_p (ps := [.lst ps, .lst qs]) rfl rfl ⟨ps, qs, rfl, h1, h2, h3, h4⟩ fun r hp => by rw [hp _ _ rfl]; exact k
def S_lfit : FS := { io := [false, false], pre := fun pvs => ∃ ps qs, pvs = [.lst ps, .lst qs] ∧ ps.length = qs.length ∧ okPs ps = true ∧ okCs qs = true ∧ deps qs ≤ 64 ∧ pszs ps ≤ 10000, post := fun pvs r _ => ∀ ps qs, pvs = [.lst ps, .lst qs] → r = encF (fitPs ps qs []) }
theorem lfit_i {ρ : En} {ps qs : List PV} {Q : PK1} {dm : Dum Q} (hl : ps.length = qs.length) (h1 : okPs ps = true) (h2 : okCs qs = true) (h3 : deps qs ≤ 64) (h4 : pszs ps ≤ 10000) (k : Q (.pv (encF (fitPs ps qs []))) ρ) : callR S_lfit [.pv (.lst ps), .pv (.lst qs)] ρ Q dm :=
  call_p (ps := [.lst ps, .lst qs]) rfl rfl ⟨ps, qs, rfl, hl, h1, h2, h3, h4⟩ fun r hp => by rw [hp _ _ rfl]; exact k
/-- ahead of the pairs W0: W is left, d is known -/
structure FitI (ps qs : List PV) (W : List (PV × PV)) (d : As) : Prop where
  eq : fitW W d = fitPs ps qs []
  ok : ∀ e ∈ d, tsh e.2 = true ∧ dep e.2 ≤ 64
theorem FitI.start (ps qs : List PV) : FitI ps qs (ps.zip qs) [] := ⟨fitW_zip ps qs [], fun e he => by cases he⟩
theorem FitI.done {ps qs : List PV} {d : As} (h : FitI ps qs [] d) : encD d = encF (fitPs ps qs []) := by rw [← h.eq]; rfl
theorem FitI.no {ps qs : List PV} {W : List (PV × PV)} {d : As} {p t : PV} (h : FitI ps qs (W ++ [(p, t)]) d) (e : fitP p t d = none) : PV.non = encF (fitPs ps qs []) := by
  rw [← h.eq, fitW_last, e]; rfl
theorem FitI.bind {ps qs : List PV} {W : List (PV × PV)} {d : As} {s : Str} {t : PV} (h : FitI ps qs (W ++ [(.str s, t)]) d) (hl : look d s = none ∨ ∃ z, look d s = some z ∧ peq z t = true) (ht : tsh t = true ∧ dep t ≤ 64) : FitI ps qs W (putD d s t) := by
  have e : fitP (.str s) t d = some (putD d s t) := by
    rw [fitP]
    unfold bindP
    rcases hl with e | ⟨z, e, e2⟩
    · rw [e]
    · rw [e]; simp only [e2, if_true]
  exact ⟨by rw [← h.eq, fitW_last, e], putD_vals (C := fun v => tsh v = true ∧ dep v ≤ 64) ht h.ok⟩
theorem FitI.bad {ps qs : List PV} {W : List (PV × PV)} {d : As} {s : Str} {t z : PV} (h : FitI ps qs (W ++ [(.str s, t)]) d) (hl : look d s = some z) (ne : peq z t = false) : PV.non = encF (fitPs ps qs []) := by
  refine h.no ?_
  rw [fitP]
  unfold bindP
  rw [hl]
  simp [ne]
theorem FitI.step {ps qs : List PV} {W : List (PV × PV)} {d : As} {v : Str} {us zs : List PV} (h : FitI ps qs (W ++ [(.tup (.str v :: us), .tup (.str v :: zs))]) d) : FitI ps qs (W ++ us.zip zs) d := ⟨by rw [← fitW_step]; exact h.eq, h.ok⟩
section
variable {P : Program} {w : World} {K : PySem.W.Frag} {mg : Str → Option Value} {base : Heap}
theorem put_told {n : Nat} {t r : PV} {d : As} (e : r = putT d t) : (S_put n).post [t, encD d] r [] := fun t2 d2 e2 => by
  injection e2 with e3 e2; injection e2 with e4 _
  rw [← e3, ← encD_inj e4]; exact e
theorem lput_told {n : Nat} {t r : PV} {d : As} (e : r = putT d t) : (S_lput n).post [t, encD d] r [] := fun t2 d2 e2 => by
  injection e2 with e3 e2; injection e2 with e4 _
  rw [← e3, ← encD_inj e4]; exact e
theorem ok_put (T : Txt K mg) : ∀ n : Nat, Has P w K mg base "put" n ["term", "assignment"] (S_put n)
  | 0 => by
    refine (Px.has_none T.d_put (fun F => F.binds (ps := ["term", "assignment"]) fun _ _ _ _ _ _ us hl => match us, hl with | [_, _], _ => rfl) fun pvs h => ?_ : Has P w K mg base "put" 0 _ _)
    obtain ⟨_, _, _, _, h, _⟩ := h
    omega
  | n + 1 => by
    refine dv_put T (ok_put T n) (S_put (n + 1)) rfl fun pvs lp pre => ?_
    obtain ⟨t, d, rfl, ht, hd, hz⟩ := pre
    unfold rd_put
    show qSeq _ _ (endsOf _ _) [.val t, .val (.dic (dKs d) (dPs d)), .un]
    rcases tsh_cases ht with ⟨s, rfl⟩ | ⟨v, ps, rfl, hts⟩
    · walk_at "px"
      rw [getD_enc]
      cases e : look d s with
      | none =>
        walk_at "px"
        exact put_told (by rw [putT, e])
      | some z =>
        walk_at "px"
        exact put_told (by rw [putT, e])
    · walk_at "px"
      have hd2 : deps ps < n := by rw [dep, deps] at hd; omega
      have hz2 : pszs ps ≤ 100000 := by rw [psz, pszs] at hz; omega
      have hlp := len_pszs ps
      refine ⟨small_of (by decide), lcR_i (lc_ind (fun qs acc ρ => ∃ done : List PV, ps = done ++ qs ∧ acc = done.map (putT d) ∧ ρ = [.val (.tup (.str v :: ps)), .val (encD d), .un]) ?_ ?_ _ _ _ ⟨[], rfl, rfl, rfl⟩)⟩
      · rintro acc ρ ⟨done, e, rfl, rfl⟩
        rw [List.append_nil] at e
        subst e
        walk_at "px"
        exact ⟨small_of (by omega), put_told (by rw [putT, putTs_map])⟩
      · rintro q qs acc ρ ⟨done, e, rfl, rfl⟩ N ih
        have hm : q ∈ ps := by rw [e]; simp
        walk_at "px"
        refine put_i (tshs_mem hts q hm) (by have := dep_mem q hm; omega) (by have := psz_mem q hm; omega) ?_
        walk_at "px"
        refine ⟨small_of ?_, ih _ _ ⟨done ++ [q], by rw [e]; simp, by simp, rfl⟩⟩
        have := congrArg List.length e
        simp only [List.length_append, List.length_cons] at this
        omega
theorem nmPs_mem {ps : List PV} {q : PV} (h : q ∈ ps) : ∀ x ∈ nmP q, x ∈ nmPs ps := by
  induction ps with
  | nil => cases h
  | cons p ps ih =>
    intro x hx
    rw [nmPs, List.mem_append]
    rcases List.mem_cons.mp h with rfl | h
    · exact .inl hx
    · exact .inr (ih h x hx)
theorem ok_lput (T : Txt K mg) : ∀ n : Nat, Has P w K mg base "_law_put" n ["term", "trees"] (S_lput n)
  | 0 => by
    refine (Px.has_none T.d__law_put (fun F => F.binds (ps := ["term", "trees"]) fun _ _ _ _ _ _ us hl => match us, hl with | [_, _], _ => rfl) fun pvs h => ?_ : Has P w K mg base "_law_put" 0 _ _)
    obtain ⟨_, _, _, _, h, _⟩ := h
    omega
  | n + 1 => by
    refine dv__law_put T (ok_lput T n) (S_lput (n + 1)) rfl fun pvs lp pre => ?_
    obtain ⟨t, d, rfl, ht, hd, hz, hx⟩ := pre
    unfold rd__law_put
    show qSeq _ _ (endsOf _ _) [.val t, .val (.dic (dKs d) (dPs d)), .un]
    rcases tsh_cases ht with ⟨s, rfl⟩ | ⟨v, ps, rfl, hts⟩
    · walk_at "px"
      rw [getD_enc]
      cases e : look d s with
      | none => exact absurd e (hx s (by rw [nmP]; exact List.mem_cons_self))
      | some z =>
        walk_at "px"
        exact lput_told (by rw [putT, e])
    · rw [nmP] at hx
      walk_at "px"
      have hd2 : deps ps < n := by rw [dep, deps] at hd; omega
      have hz2 : pszs ps ≤ 100000 := by rw [psz, pszs] at hz; omega
      have hlp := len_pszs ps
      refine ⟨small_of (by decide), lcR_i (lc_ind (fun qs acc ρ => ∃ done : List PV, ps = done ++ qs ∧ acc = done.map (putT d) ∧ ρ = [.val (.tup (.str v :: ps)), .val (encD d), .un]) ?_ ?_ _ _ _ ⟨[], rfl, rfl, rfl⟩)⟩
      · rintro acc ρ ⟨done, e, rfl, rfl⟩
        rw [List.append_nil] at e
        subst e
        walk_at "px"
        exact ⟨small_of (by omega), lput_told (by rw [putT, putTs_map])⟩
      · rintro q qs acc ρ ⟨done, e, rfl, rfl⟩ N ih
        have hm : q ∈ ps := by rw [e]; simp
        walk_at "px"
        refine lput_i (tshs_mem hts q hm) (by have := dep_mem q hm; omega) (by have := psz_mem q hm; omega) (fun x h => hx x (nmPs_mem hm x h)) ?_
        walk_at "px"
        refine ⟨small_of ?_, ih _ _ ⟨done ++ [q], by rw [e]; simp, by simp, rfl⟩⟩
        have := congrArg List.length e
        simp only [List.length_append, List.length_cons] at this
        omega
theorem ok_fitted (T : Txt K mg) : Has P w K mg base "fitted" 1 ["patterns", "terms"] S_fitted := by
  refine dv_fitted T S_fitted rfl fun pvs lp pre => ?_
  obtain ⟨ps, qs, rfl, ht1, ht2, hd, hz⟩ := pre
  have told : ∀ {r : PV}, r = encF (fitPs ps qs []) → S_fitted.post [.lst ps, .lst qs] r [] := fun {r} e ps2 qs2 e2 => by
    injection e2 with e3 e2; injection e2 with e4 _; injection e3 with e3; injection e4 with e4
    rw [← e3, ← e4]; exact e
  unfold rd_fitted
  generalize hE : endsOf S_fitted [.lst ps, .lst qs] = E
  have rtN : PV.non = encF (fitPs ps qs []) → ∀ ρ, E.rt (.pv .non) ρ := fun h ρ => by rw [← hE]; exact told h
  have w0 := pszW_zip ps qs
  show qSeq _ _ E [.val (.lst ps), .val (.lst qs), .un, .un, .un, .un]
  walk_at "px"
  refine while_i (fun m ρ => ∃ (W : List (PV × PV)) (d : As) (s4 s5 : Sl), ρ = [.val (.lst ps), .val (.lst qs), .own false (.dic (dKs d) (dPs d)), .own false (.lst (W.map pairP)), s4, s5] ∧ Pl s4 ∧ Pl s5 ∧ FitI ps qs W d ∧ (∀ x ∈ W, tmOk x) ∧ pszW W + d.length ≤ 10000 ∧ m = pszW W) _ ⟨ps.zip qs, [], .un, .un, by rw [zipP_zip]; rfl, pl_un, pl_un, .start _ _, zip_tmOk ht1 ht2 hd, by simp only [List.length_nil]; omega, rfl⟩ ?_
  rintro m ρ ⟨W, d, s4, s5, rfl, p4, p5, fi, ok, hs, rfl⟩
  rcases List.eq_nil_or_concat W with rfl | ⟨W, x, rfl⟩
  · walk_at "px"
    subst hE
    walk_at "px"
    exact told fi.done
  · obtain ⟨p, t⟩ := x
    obtain ⟨hp, ht, hdt⟩ := ok (p, t) (by simp)
    have ok' : ∀ x ∈ W, tmOk x := fun x hx => ok x (by simp [hx])
    rw [List.concat_eq_append] at fi hs ⊢
    rw [pszW_append] at hs
    have hpp := psz_pos p
    simp only [pszW] at hs
    rw [List.map_append]
    show qTru (qVar 3) [.val (.lst ps), .val (.lst qs), .own false (.dic (dKs d) (dPs d)), .own false (.lst (W.map pairP ++ [.tup [p, t]])), s4, s5] _
    have eqt := tsh_eqOk ht hdt
    have tn : tyN t ≠ "" := good_ty (tsh_good _ ht)
    rcases p4 with rfl | ⟨q4, rfl⟩ <;> rcases p5 with rfl | ⟨q5, rfl⟩
    all_goals
      rcases tsh_cases hp with ⟨s, rfl⟩ | ⟨v, us, rfl, hus⟩
      · walk_at "px"
        rw [getD_enc]
        have nxt : (look d s = none ∨ ∃ z, look d s = some z ∧ peq z t = true) → small ((dKs d).length + 1) ∧ ∃ m', m' < pszW (W ++ [(PV.str s, t)]) ∧ ∃ (W_1 : List (PV × PV)) (d_1 : As) (s4 s5 : Sl), ([.val (.lst ps), .val (.lst qs), .own false (.dic (putKs (dKs d) (Sum.inr s)) (putPs (dKs d) (dPs d) (Sum.inr s) t)), .own false (.lst (W.map pairP)), .val (.str s), .val t] : En) = [.val (.lst ps), .val (.lst qs), .own false (.dic (dKs d_1) (dPs d_1)), .own false (.lst (W_1.map pairP)), s4, s5] ∧
            Pl s4 ∧ Pl s5 ∧ FitI ps qs W_1 d_1 ∧ (∀ x ∈ W_1, tmOk x) ∧ pszW W_1 + List.length d_1 ≤ 10000 ∧ m' = pszW W_1 := fun h => by
          refine ⟨small_of (by rw [dKs_len]; omega), pszW W, by rw [pszW_append]; simp only [pszW, psz]; omega, W, putD d s t, _, _, by rw [put_enc]; rfl, pl_val, pl_val, fi.bind h ⟨ht, hdt⟩, ok', ?_, rfl⟩
          have := putD_len d s t
          omega
        cases el : look d s with
        | some z =>
          have hz' := fi.ok _ (look_some_mem el)
          refine ⟨tsh_eqOk hz'.1 hz'.2, eqt, fun h => rtN (fi.bad el (by simpa using h)) _, fun h => nxt (.inr ⟨z, el, by simpa using h⟩)⟩
        | none =>
          have e1 : peq t t = true := (peq_tsh t t ht ht).mpr rfl
          refine ⟨eqt, eqt, fun h => ?_, fun h => nxt (.inl el)⟩
          rw [e1] at h; cases h
      · rcases tsh_cases ht with ⟨s, rfl⟩ | ⟨w, zs, rfl, hzs⟩
        · walk_at "px"
          exact rtN (fi.no (by simp [fitP])) _
        · walk_at "px"
          have hdz : deps zs ≤ 64 := by rw [dep, deps] at hdt; omega
          have hz1 := pszW_zip us zs
          simp only [psz, pszs] at hs hpp
          refine ⟨fun h => rtN (fi.no ?_) _, fun h => ?_⟩
          · have : v ≠ w := by simpa using h
            simp [fitP, this]
          · have e : v = w := by simpa using h
            subst e
            have hl := zipP_len us zs
            have hl2 := len_pszs us
            have hl3 := len_pszW W
            refine ⟨small_of (by omega), pszW (W ++ us.zip zs), by rw [pszW_append, pszW_append]; simp only [pszW, psz, pszs]; omega, W ++ us.zip zs, d, _, _, by rw [List.map_append, zipP_zip], pl_val, pl_val, fi.step, fun x hx => ?_, by rw [pszW_append]; omega, rfl⟩
            rcases List.mem_append.mp hx with hx | hx
            · exact ok' x hx
            · exact zip_tmOk hus hzs hdz x hx
end

end Lw
set_option maxHeartbeats 4000000
namespace Lw
open PySem L2 PyProof.Rows Px
local macro_rules | `(tactic| walk_at "px") => `(tactic| simp -dsimp only [qVar, qK, qNil, qCons, qTup, qLst, vals, looks, R.look, R.wk, qCB, qB, qOp2, qTru, truG, qAnd, qOr, qNot, qAndV, qOrV, qNotV, qIfE, qNo, qPart, qSl, gSl, qIt, qRng1, qRng2, qgN, qgNil, qgCons, qgT, notIo_zero, notIo_succ, notIo_nil', slOk_un, slOk_val, slOk_own, slOk_pl, slOk_pd, notIos_nil, notIos_cons, qYes, qLc, qNext, qSeq, qBreak, qCont, qFrz, frz, qDrop, retG, qRet, qRetN, qIf, qSet, qOwn, qAsg, qFor, qMut, ownTy, gAppend, gExtend, gPop, isOwn, qSetIx, qCall, splitArgs, putOuts, setOwn, finOk, endsOf, mk, outsOf, uns,
  gAdd, gInt, gInt0, gEq, gNe, gIn, gNotIn, gIs, gIsNot, Px.isNon, gIx, getP, gLen, gAbs, gIntC, gSum, gMax, gMax2, gMax3, gMinT, gAll, gAny, gList, gTuple, gIsi, qNeg, qDict0, wipeE, lcGo_nil, br_t, br_f, atI_0, atI_1, atI_2, atI_3, ixN_0, ixN_1, ixN_2, ixN_3, List.length_map, List.length_set, cut_from1, isTy, tyN, gIsiT, asTys, gListD, keyP, isDic, qGet1, qGet2, qLZ, gZip, qPairs, mergeP, qDisp, gDictC, gStr, qChain, qPar, qAug, qMeth, tyIs, gIndex, qLcK, qDc, qDcK, dicAt, qForK, qZipI, qCallB, qCallF, splitB, qTake, tkEnds, tkRt, tkBack, Px.isN, isNst, gIxN, gPop0, gInsert, qSetSeed, qStep, qPar3, qLcO, lcoK, stEnds, stGo, immS, Px.imm, endsLaw, Option.isSome_some, Option.isSome_none, isEmp_concat, List.getLast?_concat, List.dropLast_concat, List.isEmpty_nil, gEqX, gNeX, List.any_cons, List.any_nil, tyOk_str, tyOk_tuple, tyOk_int, tyOk_bool, tyOk_list, tyOk_dict, Option.map_some, Option.map_none,
  eqOk_str, eqOk_int, eqOk_bl, eqOk_non, eqOkW_str, eqOkW_int, eqOkW_bl, eqOkW_non, gEqW, gNeW, qVals, ownDic, qLc2, gLtX, gGtX, gSortX, peq_str, peq_int, peq_bl, List.getElem?_cons_zero, List.getElem?_cons_succ, List.getElem?_nil, List.set_cons_zero, List.set_cons_succ, List.zipWith_cons_cons, List.zipWith_nil_left, List.replicate_succ, List.replicate_zero, List.cons_append, List.nil_append, List.length_cons, List.length_nil, List.map_cons, List.map_nil, ↓reduceIte, Bool.false_eq_true, and_true, true_and, Bool.not_true, Bool.not_false, Nat.reduceAdd, Nat.reduceLT, Nat.reduceLeDiff, Nat.zero_lt_succ, Nat.lt_add_one, ne_eq, not_true_eq_false, not_false_eq_true, String.reduceEq, String.reduceBEq, Bool.or_false, Bool.false_or, Bool.or_true, Bool.true_or, Bool.and_false, Bool.and_true, Bool.false_and, Bool.true_and, reduceCtorEq])
theorem zip_at {ps qs : List PV} {dn r : List (PV × PV)} {x : PV × PV} (e : ps.zip qs = dn ++ x :: r) : ps[dn.length]? = some x.1 ∧ qs[dn.length]? = some x.2 := by
  have gx : (ps.zip qs)[dn.length]? = some x := by rw [e, List.getElem?_append_right (Nat.le_refl _)]; simp
  rwa [List.getElem?_zip_eq_some] at gx
theorem rng_nil {lo : Int} {k : Nat} {r : List (PV × PV)} (er : [] = (List.range' k r.length).map (fun k => PV.int (lo + (k : Nat)))) : r = [] := by
  cases r with
  | nil => rfl
  | cons _ _ => rw [List.length_cons, List.range'_succ] at er; simp at er
theorem rng_cons {lo : Int} {k : Nat} {z : PV} {rs : List PV} {r : List (PV × PV)} (er : z :: rs = (List.range' k r.length).map (fun k => PV.int (lo + (k : Nat)))) : ∃ x r', r = x :: r' ∧ z = .int (lo + (k : Nat)) ∧ rs = (List.range' (k + 1) r'.length).map (fun k => PV.int (lo + (k : Nat))) := by
  cases r with
  | nil => simp at er
  | cons x r =>
    rw [List.length_cons, List.range'_succ, List.map_cons, List.cons.injEq] at er
    exact ⟨x, r, rfl, er.1, er.2⟩
theorem rng_eq (lo : Int) (n : Nat) (r : List (PV × PV)) (h : n = r.length) : rng lo n = (List.range' 0 r.length).map (fun k => PV.int (lo + (k : Nat))) := by
  rw [rng, List.range_eq_range', h]
theorem at0 {ps : List PV} {n : Nat} {x : PV} (h : ps[n]? = some x) : atI ps (0 + ((n : Nat) : Int)) = some x := by
  have : (0 : Int) + ((n : Nat) : Int) = ((n : Nat) : Int) := by omega
  rw [this]
  exact atI_nat h
theorem at1 {ps : List PV} {v : PV} {n : Nat} {x : PV} (h : ps[n]? = some x) : atI (v :: ps) (1 + ((n : Nat) : Int)) = some x := by
  have : (1 : Int) + ((n : Nat) : Int) = ((n + 1 : Nat) : Int) := by omega
  rw [this]
  exact atI_nat (by rw [List.getElem?_cons_succ]; exact h)
section
variable {P : Program} {w : World} {K : PySem.W.Frag} {mg : Str → Option Value} {base : Heap}
theorem ok_lfit (T : Txt K mg) : Has P w K mg base "_law_fit" 1 ["patterns", "trees"] S_lfit := by
  refine dv__law_fit T S_lfit rfl fun pvs lp pre => ?_
  obtain ⟨ps, qs, rfl, hl, oP, oC, hd, hz⟩ := pre
  have ht1 := okPs_tshs ps oP
  have ht2 := okCs_tshs oC
  have told : ∀ {r : PV}, r = encF (fitPs ps qs []) → S_lfit.post [.lst ps, .lst qs] r [] := fun {r} e ps2 qs2 e2 => by
    injection e2 with e3 e2; injection e2 with e4 _; injection e3 with e3; injection e4 with e4
    rw [← e3, ← e4]; exact e
  unfold rd__law_fit
  generalize hE : endsOf S_lfit [.lst ps, .lst qs] = E
  have rtN : PV.non = encF (fitPs ps qs []) → ∀ ρ, E.rt (.pv .non) ρ := fun h ρ => by rw [← hE]; exact told h
  have w0 := pszW_zip ps qs
  have lps := len_pszs ps
  have lz : (ps.zip qs).length = ps.length := by rw [List.length_zip]; omega
  show qSeq _ _ E [.val (.lst ps), .val (.lst qs), .un, .un, .un, .un, .un]
  walk_at "px"
  refine ⟨by unfold rngOk; omega, lcR_i (lc_ind (fun rs acc ρ => ∃ dn r : List (PV × PV), ps.zip qs = dn ++ r ∧ rs = (List.range' dn.length r.length).map (fun k => PV.int (0 + (k : Nat))) ∧ acc = dn.map pairP ∧ ρ = [.val (.lst ps), .val (.lst qs), .own false (.dic [] []), .un, .un, .un, .un]) ?_ ?_ _ _ _ ⟨[], ps.zip qs, rfl, rng_eq 0 _ _ (by omega), rfl, rfl⟩)⟩
  · rintro acc ρ ⟨dn, r, e, er, rfl, rfl⟩
    have e3 := rng_nil er
    subst e3
    rw [List.append_nil] at e
    subst e
    walk_at "px"
    refine while_i (fun m ρ => ∃ (W : List (PV × PV)) (d : As) (s4 s5 : Sl), ρ = [.val (.lst ps), .val (.lst qs), .own false (.dic (dKs d) (dPs d)), .own false (.lst (W.map pairP)), s4, s5, .un] ∧ Pl s4 ∧ Pl s5 ∧ FitI ps qs W d ∧ (∀ x ∈ W, tmOk x ∧ arOk x) ∧ pszW W + d.length ≤ 10000 ∧ m = pszW W) _ ⟨ps.zip qs, [], .un, .un, rfl, pl_un, pl_un, .start _ _, fun x hx => ⟨zip_tmOk ht1 ht2 hd x hx, zip_arOk oP oC x hx⟩, by simp only [List.length_nil]; omega, rfl⟩ ?_
    rintro m ρ ⟨W, d, s4, s5, rfl, p4, p5, fi, ok, hs, rfl⟩
    have lW := len_pszW W
    rcases List.eq_nil_or_concat W with rfl | ⟨W, x, rfl⟩
    · have hz0 : decide ((0 : Int) < ((0 : Nat) : Int)) = false := by decide
      walk_at "px"
      rw [hz0]
      walk_at "px"
      subst hE
      exact told fi.done
    · obtain ⟨p, t⟩ := x
      obtain ⟨⟨hp, ht, hdt⟩, ap, at_⟩ := ok (p, t) (by simp)
      have ok' : ∀ x ∈ W, tmOk x ∧ arOk x := fun x hx => ok x (by simp [hx])
      rw [List.concat_eq_append] at fi hs lW ⊢
      rw [pszW_append] at hs lW
      have hpp := psz_pos p
      simp only [pszW] at hs lW
      rw [List.map_append]
      show qB _ [.val (.lst ps), .val (.lst qs), .own false (.dic (dKs d) (dPs d)), .own false (.lst (W.map pairP ++ [.tup [p, t]])), s4, s5, .un] _
      have eqt := tsh_eqOk ht hdt
      have tn : tyN t ≠ "" := good_ty (tsh_good _ ht)
      have lg : decide ((0 : Int) < (((W.map pairP ++ [PV.tup [p, t]]).length : Nat) : Int)) = true := by rw [List.length_append]; simp
      have lw2 : (W.map pairP ++ [PV.tup [p, t]]).length ≤ 10000 := by
        simp only [List.length_append, List.length_map, List.length_cons, List.length_nil] at lW ⊢
        omega
      obtain ⟨w', zs, rfl, ar2, okz⟩ := okC_cases at_
      rcases p4 with rfl | ⟨q4, rfl⟩ <;> rcases p5 with rfl | ⟨q5, rfl⟩
      all_goals
        rcases okP_cases ap with ⟨s, rfl⟩ | ⟨v, us, rfl, ar1, oku⟩
        · have nxt : (look d s = none ∨ ∃ z, look d s = some z ∧ peq z (.tup (.str w' :: zs)) = true) → small ((dKs d).length + 1) ∧ ∃ m', m' < pszW (W ++ [(PV.str s, .tup (.str w' :: zs))]) ∧ ∃ (W_1 : List (PV × PV)) (d_1 : As) (s4 s5 : Sl), ([.val (.lst ps), .val (.lst qs), .own false (.dic (putKs (dKs d) (Sum.inr s)) (putPs (dKs d) (dPs d) (Sum.inr s) (.tup (.str w' :: zs)))), .own false (.lst (W.map pairP)), .val (.str s), .val (.tup (.str w' :: zs)), .un] : En) = [.val (.lst ps), .val (.lst qs), .own false (.dic (dKs d_1) (dPs d_1)), .own false (.lst (W_1.map pairP)), s4, s5, .un] ∧
              Pl s4 ∧ Pl s5 ∧ FitI ps qs W_1 d_1 ∧ (∀ x ∈ W_1, tmOk x ∧ arOk x) ∧ pszW W_1 + List.length d_1 ≤ 10000 ∧ m' = pszW W_1 := fun h => by
            refine ⟨small_of (by rw [dKs_len]; omega), pszW W, by rw [pszW_append]; simp only [pszW, psz]; omega, W, putD d s (.tup (.str w' :: zs)), _, _, by rw [put_enc]; rfl, pl_val, pl_val, fi.bind h ⟨ht, hdt⟩, ok', ?_, rfl⟩
            have := putD_len d s (.tup (.str w' :: zs))
            omega
          walk_at "px"
          rw [lg]
          walk_at "px"
          rw [getD_enc]
          cases el : look d s with
          | some z =>
            have hz' := fi.ok _ (look_some_mem el)
            exact ⟨fun _ => ⟨tsh_eqOk hz'.1 hz'.2, eqt, fun h => rtN (fi.bad el (by simpa using h)) _, fun h => nxt (.inr ⟨z, el, by simpa using h⟩)⟩, fun h => by simp at h⟩
          | none => exact ⟨fun h => (by simp at h), fun _ => nxt (.inl el)⟩
        · have hz1 := pszW_zip us zs
          have lu := len_pszs us
          simp only [psz, pszs] at hs hpp
          walk_at "px"
          rw [lg]
          walk_at "px"
          refine ⟨fun h => rtN (fi.no ?_) _, fun h => ?_⟩
          · have : v ≠ w' := by
              intro z
              rw [z] at h
              simp at h
            simp [fitP, this]
          · have ev : v = w' := by simpa using h
            subst ev
            rw [ar1] at ar2
            have lu2 : us.length = zs.length := Option.some.inj ar2
            have lz2 : (us.zip zs).length = us.length := by rw [List.length_zip]; omega
            have hdz : deps zs ≤ 64 := by
              have h1 : dep (.tup (.str v :: zs)) ≤ 64 := hdt
              rw [dep, deps] at h1; omega
            refine ⟨⟨by unfold rngOk; omega, by unfold rngOk; omega⟩, lcR_i (lc_ind (fun rs acc ρ => ∃ dn r : List (PV × PV), us.zip zs = dn ++ r ∧ rs = (List.range' dn.length r.length).map (fun k => PV.int (1 + (k : Nat))) ∧ acc = dn.map pairP ∧ ρ = [.val (.lst ps), .val (.lst qs), .own false (.dic (dKs d) (dPs d)), .own false (.lst (W.map pairP)), .val (.tup (.str v :: us)), .val (.tup (.str v :: zs)), .un]) ?_ ?_ _ _ _ ⟨[], us.zip zs, rfl, rng_eq 1 _ _ (by omega), rfl, rfl⟩)⟩
            · rintro acc ρ ⟨dn, r, e, er, rfl, rfl⟩
              have e3 := rng_nil er
              subst e3
              rw [List.append_nil] at e
              subst e
              walk_at "px"
              refine ⟨small_of (by have := len_pszW W; omega), pszW (W ++ us.zip zs), by rw [pszW_append, pszW_append]; simp only [pszW, psz, pszs]; omega, W ++ us.zip zs, d, _, _, by rw [List.map_append], pl_val, pl_val, fi.step, fun x hx => ?_, by rw [pszW_append]; omega, rfl⟩
              rcases List.mem_append.mp hx with hx | hx
              · exact ok' x hx
              · exact ⟨zip_tmOk (okPs_tshs us oku) (okCs_tshs okz) hdz x hx, zip_arOk oku okz x hx⟩
            · rintro z rs acc ρ ⟨dn, r, e, er, rfl, rfl⟩ N ih
              obtain ⟨x, r, rfl, rfl, rfl⟩ := rng_cons er
              obtain ⟨g1, g2⟩ := zip_at e
              have ll := congrArg List.length e
              simp only [List.length_append, List.length_cons] at ll
              walk_at "px"
              rw [at1 g1, at1 g2]
              walk_at "px"
              exact ⟨small_of (by decide), small_of (by omega), ih _ _ ⟨dn ++ [x], r, by rw [e]; simp, by simp, by simp [pairP], rfl⟩⟩
  · rintro z rs acc ρ ⟨dn, r, e, er, rfl, rfl⟩ N ih
    obtain ⟨x, r, rfl, rfl, rfl⟩ := rng_cons er
    obtain ⟨g1, g2⟩ := zip_at e
    have ll := congrArg List.length e
    simp only [List.length_append, List.length_cons] at ll
    walk_at "px"
    rw [at0 g1, at0 g2]
    walk_at "px"
    exact ⟨small_of (by decide), small_of (by omega), ih _ _ ⟨dn ++ [x], r, by rw [e]; simp, by simp, by simp [pairP], rfl⟩⟩
end

end Lw
set_option maxHeartbeats 4000000
namespace Lw
open PySem L2 PyProof.Rows Px
theorem asBls_map : ∀ bs : List Bool, asBls (bs.map PV.bl) = some bs
  | [] => rfl
  | b :: bs => by rw [List.map_cons, asBls, asBls_map bs]; rfl
theorem asInts_map : ∀ bs : List Int, asInts (bs.map PV.int) = some bs
  | [] => rfl
  | b :: bs => by rw [List.map_cons, asInts, asInts_map bs]; rfl
/-! ### tables -/
structure Rw where
  w : Str
  ps : List (Str × PV)
  fam : Str
  ix : PV
def encPt (x : Str × PV) : PV := .tup [.str x.1, x.2]
def encRw (r : Rw) : PV := .tup [.str r.w, .tup (r.ps.map encPt), .str r.fam, r.ix]
def encTb (mk fm : PV) (rows : List Rw) : PV := .tup [.str (Str.ofString "table"), mk, fm, .tup (rows.map encRw)]
def findR (rows : List Rw) (s : Str) : Option Rw := rows.find? fun r => r.w == s
mutual
/-- a raw value -/
def isRaw (rows : List Rw) : PV → Bool
  | .tup [] => false
  | .tup (p :: ps) => (match p with
    | .str s => (match findR rows s with
      | some r => ps.length == r.ps.length
      | none => false)
    | _ => false) && isRaws rows ps
  | .str _ => false
  | .lst _ => false
  | .scr _ => false
  | .nst _ _ _ => false
  | .ty _ => false
  | .non => false
  | .bl _ => false
  | .int _ => false
  | .dic _ _ => false
def isRaws (rows : List Rw) : List PV → Bool
  | [] => true
  | p :: ps => isRaw rows p && isRaws rows ps
end
mutual
/-- data that is_raw may look at -/
def gd : PV → Bool
  | .tup ps => decide (ps.length ≤ 8) && gds ps
  | .str _ => true
  | .lst _ => true
  | .scr _ => false
  | .nst _ _ _ => false
  | .ty _ => false
  | .non => true
  | .bl _ => true
  | .int _ => true
  | .dic _ _ => true
def gds : List PV → Bool
  | [] => true
  | p :: ps => gd p && gds ps
end
mutual
def szV : PV → Int
  | .tup [] => 1
  | .tup (_ :: ps) => 1 + szVs ps
  | .str _ => 0
  | .lst _ => 0
  | .scr _ => 0
  | .nst _ _ _ => 0
  | .ty _ => 0
  | .non => 0
  | .bl _ => 0
  | .int _ => 0
  | .dic _ _ => 0
def szVs : List PV → Int
  | [] => 0
  | p :: ps => szV p + szVs ps
end
def S_raw (n : Nat) : FS := { io := [false, false], pre := fun ps => ∃ mk fm rows v, ps = [encTb mk fm rows, v] ∧ gd v = true ∧ dep v < n, post := fun ps r _ => ∀ mk fm rows v, ps = [encTb mk fm rows, v] → r = .bl (isRaw rows v) }
def S_size (n : Nat) : FS := { io := [false], pre := fun ps => ∃ rows v, ps = [v] ∧ isRaw rows v = true ∧ dep v < n ∧ gd v = true, post := fun ps r _ => ∀ v, ps = [v] → r = .int (szV v) }
theorem S_raw_fr (n : Nat) : (S_raw n).fr = false := rfl
theorem S_raw_io (n : Nat) : (S_raw n).io = [false, false] := rfl
theorem S_size_fr (n : Nat) : (S_size n).fr = false := rfl
theorem S_size_io (n : Nat) : (S_size n).io = [false] := rfl
local macro_rules | `(tactic| walk_at "px") => `(tactic| simp -dsimp only [qVar, qK, qNil, qCons, qTup, qLst, vals, looks, R.look, R.wk, qCB, qB, qOp2, qTru, truG, qAnd, qOr, qNot, qAndV, qOrV, qNotV, qIfE, qNo, qPart, qSl, gSl, qIt, qRng1, qRng2, qgN, qgNil, qgCons, qgT, notIo_zero, notIo_succ, notIo_nil', slOk_un, slOk_val, slOk_own, slOk_pl, slOk_pd, notIos_nil, notIos_cons, qYes, qLc, qNext, qSeq, qBreak, qCont, qFrz, frz, qDrop, retG, qRet, qRetN, qIf, qSet, qOwn, qAsg, qFor, qMut, ownTy, gAppend, gExtend, gPop, isOwn, qSetIx, qCall, splitArgs, putOuts, setOwn, finOk, endsOf, mk, outsOf, uns,
  gAdd, gInt, gInt0, gEq, gNe, gIn, gNotIn, gIs, gIsNot, Px.isNon, gIx, getP, gLen, gAbs, gIntC, gSum, gMax, gMax2, gMax3, gMinT, gAll, gAny, gList, gTuple, gIsi, qNeg, qDict0, wipeE, lcGo_nil, br_t, br_f, atI_0, atI_1, atI_2, atI_3, ixN_0, ixN_1, ixN_2, ixN_3, List.length_map, List.length_set, cut_from1, isTy, tyN, gIsiT, asTys, gListD, keyP, isDic, qGet1, qGet2, qLZ, gZip, qPairs, mergeP, qDisp, gDictC, gStr, qChain, qPar, qAug, qMeth, tyIs, gIndex, qLcK, qDc, qDcK, dicAt, qForK, qZipI, qCallB, qCallF, splitB, qTake, tkEnds, tkRt, tkBack, Px.isN, isNst, gIxN, gPop0, gInsert, qSetSeed, qStep, qPar3, qLcO, lcoK, stEnds, stGo, immS, Px.imm, endsLaw, Option.isSome_some, Option.isSome_none, isEmp_concat, List.getLast?_concat, List.dropLast_concat, List.isEmpty_nil, gEqX, gNeX, List.any_cons, List.any_nil, tyOk_str, tyOk_tuple, tyOk_int, tyOk_bool, tyOk_list, tyOk_dict, Option.map_some, Option.map_none,
  eqOk_str, eqOk_int, eqOk_bl, eqOk_non, eqOkW_str, eqOkW_int, eqOkW_bl, eqOkW_non, gEqW, gNeW, qVals, ownDic, qLc2, gLtX, gGtX, gSortX, peq_str, peq_int, peq_bl, List.getElem?_cons_zero, List.getElem?_cons_succ, List.getElem?_nil, List.set_cons_zero, List.set_cons_succ, List.zipWith_cons_cons, List.zipWith_nil_left, List.replicate_succ, List.replicate_zero, List.cons_append, List.nil_append, List.length_cons, List.length_nil, List.map_cons, List.map_nil, ↓reduceIte, Bool.false_eq_true, and_true, true_and, Bool.not_true, Bool.not_false, Nat.reduceAdd, Nat.reduceLT, Nat.reduceLeDiff, Nat.zero_lt_succ, Nat.lt_add_one, ne_eq, not_true_eq_false, not_false_eq_true, String.reduceEq, String.reduceBEq, Bool.or_false, Bool.false_or, Bool.or_true, Bool.true_or, Bool.and_false, Bool.and_true, Bool.false_and, Bool.true_and, reduceCtorEq, asBls_map, asInts_map, S_raw_fr, S_raw_io, S_size_fr, S_size_io])
/-! ### a comprehension that makes of each item one, or none -/
theorem lc_fm {g : QTG} {tt : QTT} {te : QT} {vs : List Nat} {Q : List PV → En → Prop} (f : PV → Option PV) (ps : List PV) (ρ0 : En) (hl : ps.length ≤ 999999) (hq : Q (ps.filterMap f) ρ0)
    (hc : ∀ q ∈ ps, ∀ (acc : List PV) (N : List PV → En → Prop), small (acc.length + 1) → N (acc ++ (f q).toList) ρ0 → g q ρ0 fun ρ1 => tt ρ1 fun b ρ2 => Br b (te ρ2 fun r ρ3 => match r.wk with
      | .pv q => small (acc.length + 1) ∧ notIos ρ3 vs ∧ N (acc ++ [q]) (wipeE ρ3 vs)
      | _ => False) (notIos ρ2 vs ∧ N acc (wipeE ρ2 vs))) : lcGo g tt te vs Q ps [] ρ0 := by
  refine lc_ind (fun qs acc ρ => ∃ done : List PV, ps = done ++ qs ∧ acc = done.filterMap f ∧ ρ = ρ0) ?_ ?_ _ _ _ ⟨[], rfl, rfl, rfl⟩
  · rintro acc ρ ⟨done, e, rfl, rfl⟩
    rw [List.append_nil] at e
    subst e
    exact hq
  · rintro q qs acc ρ ⟨done, e, rfl, rfl⟩ N ih
    have hm : q ∈ ps := by rw [e]; simp
    have hle : (done.filterMap f).length ≤ done.length := List.length_filterMap_le _ _
    have := congrArg List.length e
    simp only [List.length_append, List.length_cons] at this
    exact hc q hm _ N (small_of (by omega)) (ih _ _ ⟨done ++ [q], by rw [e]; simp, by rw [List.filterMap_append]; simp [List.filterMap_cons]; cases f q <;> rfl, rfl⟩)
theorem fm_map {f : PV → PV} : ∀ ps : List PV, ps.filterMap (fun p => some (f p)) = ps.map f
  | [] => rfl
  | p :: ps => by rw [List.filterMap_cons, fm_map ps]; rfl
theorem lc_map {g : QTG} {tt : QTT} {te : QT} {vs : List Nat} {Q : List PV → En → Prop} (f : PV → PV) (ps : List PV) (ρ0 : En) (hl : ps.length ≤ 999999) (hq : Q (ps.map f) ρ0)
    (hc : ∀ q ∈ ps, ∀ (acc : List PV) (N : List PV → En → Prop), small (acc.length + 1) → N (acc ++ [f q]) ρ0 → g q ρ0 fun ρ1 => tt ρ1 fun b ρ2 => Br b (te ρ2 fun r ρ3 => match r.wk with
      | .pv q => small (acc.length + 1) ∧ notIos ρ3 vs ∧ N (acc ++ [q]) (wipeE ρ3 vs)
      | _ => False) (notIos ρ2 vs ∧ N acc (wipeE ρ2 vs))) : lcGo g tt te vs Q ps [] ρ0 :=
  lc_fm (fun p => some (f p)) ps ρ0 hl (by rw [fm_map]; exact hq) hc
theorem encPt_inj {a b : Str × PV} (h : encPt a = encPt b) : a = b := by
  unfold encPt at h
  injection h with h
  injection h with h1 h
  injection h with h2 h
  injection h1 with h1
  exact Prod.ext h1 h2
theorem map_inj {α β : Type} {f : α → β} (hf : ∀ a b, f a = f b → a = b) : ∀ {xs ys : List α}, xs.map f = ys.map f → xs = ys
  | [], [], _ => rfl
  | [], _ :: _, h => by simp at h
  | _ :: _, [], h => by simp at h
  | x :: xs, y :: ys, h => by
    simp only [List.map_cons, List.cons.injEq] at h
    rw [hf x y h.1, map_inj hf h.2]
theorem encRw_inj {a b : Rw} (h : encRw a = encRw b) : a = b := by
  unfold encRw at h
  injection h with h
  injection h with h1 h
  injection h with h2 h
  injection h with h3 h
  injection h with h4 h
  injection h1 with h1
  injection h2 with h2
  injection h3 with h3
  cases a; cases b
  simp only at h1 h2 h3 h4
  rw [h1, map_inj (fun _ _ => encPt_inj) h2, h3, h4]
theorem encTb_inj {mk fm mk' fm' : PV} {a b : List Rw} (h : encTb mk fm a = encTb mk' fm' b) : a = b := by
  unfold encTb at h
  injection h with h
  injection h with _ h
  injection h with _ h
  injection h with _ h
  injection h with h _
  injection h with h
  exact map_inj (fun _ _ => encRw_inj) h
theorem isRaw_cases {rows : List Rw} {p : PV} (h : isRaw rows p = true) : ∃ s ps r, p = .tup (.str s :: ps) ∧ findR rows s = some r ∧ ps.length = r.ps.length ∧ isRaws rows ps = true := by
  cases p with
  | tup ps =>
    cases ps with
    | nil => simp [isRaw] at h
    | cons q ps =>
      cases q with
      | str s =>
        rw [isRaw, Bool.and_eq_true] at h
        cases e : findR rows s with
        | none => rw [e] at h; cases h.1
        | some r =>
          rw [e] at h
          exact ⟨s, ps, r, rfl, e, by simpa using h.1, h.2⟩
      | _ => simp [isRaw] at h
  | _ => simp [isRaw] at h
theorem isRaws_iff (rows : List Rw) : ∀ ps : List PV, isRaws rows ps = true ↔ ∀ p ∈ ps, isRaw rows p = true
  | [] => by simp [isRaws]
  | p :: ps => by simp [isRaws, isRaws_iff rows ps]
theorem gds_iff : ∀ ps : List PV, gds ps = true ↔ ∀ p ∈ ps, gd p = true
  | [] => by simp [gds]
  | p :: ps => by simp [gds, gds_iff ps]
theorem gd_ty {p : PV} (h : gd p = true) : tyN p ≠ "" := by cases p <;> first | (simp [gd] at h; done) | simp [tyN]
theorem isRaw_mk {rows : List Rw} {s : Str} {ps : List PV} {r : Rw} (h : findR rows s = some r) (hl : ps.length = r.ps.length) (hr : isRaws rows ps = true) : isRaw rows (.tup (.str s :: ps)) = true := by
  rw [isRaw, h, hr]; simp [hl]
def S_con : FS := { io := [false, false], pre := fun ps => ∃ mk fm rows s, ps = [encTb mk fm rows, .str s], post := fun ps r _ => ∀ mk fm rows s, ps = [encTb mk fm rows, .str s] → r = ((findR rows s).map encRw).getD .non }
theorem con_i {ρ : En} {mk fm : PV} {rows : List Rw} {s : Str} {Q : PK1} {dm : Dum Q} (k : Q (.pv (((findR rows s).map encRw).getD .non)) ρ) : callR S_con [.pv (encTb mk fm rows), .pv (.str s)] ρ Q dm :=
  call_p (ps := [encTb mk fm rows, .str s]) rfl rfl ⟨mk, fm, rows, s, rfl⟩ fun r hp => by rw [hp _ _ _ _ rfl]; exact k
theorem raw_i {n : Nat} {ρ : En} {mk fm : PV} {rows : List Rw} {v : PV} {Q : PK1} {dm : Dum Q} (h : gd v = true) (hd : dep v < n) (k : Q (.pv (.bl (isRaw rows v))) ρ) : callR (S_raw n) [.pv (encTb mk fm rows), .pv v] ρ Q dm :=
  call_p (ps := [encTb mk fm rows, v]) rfl rfl ⟨mk, fm, rows, v, rfl, h, hd⟩ fun r hp => by rw [hp _ _ _ _ rfl]; exact k
theorem size_i {n : Nat} {ρ : En} {rows : List Rw} {v : PV} {Q : PK1} {dm : Dum Q} (h : isRaw rows v = true) (hd : dep v < n) (hg : gd v = true) (k : Q (.pv (.int (szV v))) ρ) : callR (S_size n) [.pv v] ρ Q dm :=
  call_p (ps := [v]) rfl rfl ⟨rows, v, rfl, h, hd, hg⟩ fun r hp => by rw [hp _ rfl]; exact k
theorem isRaws_all (rows : List Rw) : ∀ ps : List PV, (ps.map (isRaw rows)).all id = isRaws rows ps
  | [] => rfl
  | p :: ps => by rw [List.map_cons, List.all_cons, isRaws_all rows ps, isRaws]; rfl
theorem szVs_sum : ∀ ps : List PV, (ps.map szV).sum = szVs ps
  | [] => rfl
  | p :: ps => by rw [List.map_cons, List.sum_cons, szVs_sum ps, szVs]
theorem gd_tup {p : PV} {ps : List PV} (h : gd (.tup (p :: ps)) = true) : ps.length ≤ 7 ∧ gd p = true ∧ gds ps = true := by
  rw [gd, Bool.and_eq_true, gds, Bool.and_eq_true] at h
  have := of_decide_eq_true h.1
  simp only [List.length_cons] at this
  exact ⟨by omega, h.2.1, h.2.2⟩
section
variable {P : Program} {w : World} {K : PySem.W.Frag} {mg : Str → Option Value} {base : Heap}
theorem ok_con (T : Txt K mg) : Has P w K mg base "constructor_of" 1 ["table", "word"] S_con := by
  refine dv_constructor_of T S_con rfl fun pvs lp pre => ?_
  obtain ⟨mk, fm, rows, s, rfl⟩ := pre
  have told : ∀ {r : PV}, r = ((findR rows s).map encRw).getD .non → S_con.post [encTb mk fm rows, .str s] r [] := fun {r} e mk2 fm2 rows2 s2 e2 => by
    injection e2 with e3 e2; injection e2 with e4 _; injection e4 with e4
    rw [← encTb_inj e3, ← e4]; exact e
  unfold rd_constructor_of
  show qSeq _ _ (endsOf S_con _) [.val (encTb mk fm rows), .val (.str s), .un]
  unfold encTb at told ⊢
  walk_at "px"
  refine for_ind (fun ps ρ => ∃ (m1 : List Rw) (s2 : Sl), ps = m1.map encRw ∧ ρ = [.val (encTb mk fm rows), .val (.str s), s2] ∧ Pl s2 ∧ findR m1 s = findR rows s) ?_ ?_ _ _ ⟨rows, .un, rfl, rfl, pl_un, rfl⟩
  · rintro ρ ⟨m1, s2, e, rfl, p2, ho⟩
    have e1 : m1 = [] := by cases m1 with
      | nil => rfl
      | cons _ _ => simp at e
    subst e1
    walk_at "px"
    exact told (by rw [← ho]; rfl)
  · rintro p ps ρ ⟨m1, s2, e, rfl, p2, ho⟩ N ih
    cases m1 with
    | nil => simp at e
    | cons m m1 =>
      simp only [List.map_cons, List.cons.injEq] at e
      obtain ⟨rfl, rfl⟩ := e
      unfold encRw
      rcases p2 with rfl | ⟨q2, rfl⟩
      all_goals
        walk_at "px"
        refine ⟨fun hz => told ?_, fun hz => ih _ ⟨m1, _, rfl, rfl, pl_val, ?_⟩⟩
        · rw [← ho]
          unfold findR
          rw [List.find?_cons, hz]
          rfl
        · rw [← ho]
          unfold findR
          rw [List.find?_cons, hz]
theorem size_told {n : Nat} {v : PV} {z : Int} (e : z = szV v) : (S_size n).post [v] (.int z) [] := fun v2 e2 => by
  injection e2 with e3 _
  rw [← e3, e]
theorem ok_size (T : Txt K mg) : ∀ n : Nat, Has P w K mg base "size" n ["value"] (S_size n)
  | 0 => by
    refine (Px.has_none T.d_size (fun F => F.binds (ps := ["value"]) fun _ _ _ _ _ _ us hl => match us, hl with | [_], _ => rfl) fun pvs h => ?_ : Has P w K mg base "size" 0 _ _)
    obtain ⟨_, _, _, _, h, _⟩ := h
    omega
  | n + 1 => by
    refine dv_size T (ok_size T n) (S_size (n + 1)) rfl fun pvs lp pre => ?_
    obtain ⟨rows, v, rfl, hr, hd, hg⟩ := pre
    unfold rd_size
    obtain ⟨s, ps, r, rfl, e, hl, hrs⟩ := isRaw_cases hr
    show qRet _ (endsOf _ _) [.val (.tup (.str s :: ps)), .un]
    obtain ⟨lps, gp, gps⟩ := gd_tup hg
    walk_at "px"
    refine lcR_i (lc_map (fun p => .int (szV p)) ps _ (by omega) ?_ fun q hq acc N sm k => ?_)
    · walk_at "px"
      have e2 : ps.map (fun p => PV.int (szV p)) = (ps.map szV).map PV.int := by rw [List.map_map]; rfl
      rw [e2]
      walk_at "px"
      exact size_told (by rw [szVs_sum, szV])
    · walk_at "px"
      refine size_i ((isRaws_iff rows ps).mp hrs q hq) (by have := dep_mem q hq; rw [dep, deps] at hd; omega) ((gds_iff ps).mp gps q hq) ?_
      walk_at "px"
      exact ⟨sm, k⟩
theorem ok_lsize (T : Txt K mg) : ∀ n : Nat, Has P w K mg base "_law_size" n ["value"] (S_size n)
  | 0 => by
    refine (Px.has_none T.d__law_size (fun F => F.binds (ps := ["value"]) fun _ _ _ _ _ _ us hl => match us, hl with | [_], _ => rfl) fun pvs h => ?_ : Has P w K mg base "_law_size" 0 _ _)
    obtain ⟨_, _, _, _, h, _⟩ := h
    omega
  | n + 1 => by
    refine dv__law_size T (ok_lsize T n) (S_size (n + 1)) rfl fun pvs lp pre => ?_
    obtain ⟨rows, v, rfl, hr, hd, hg⟩ := pre
    unfold rd__law_size
    obtain ⟨s, ps, r, rfl, e, hl, hrs⟩ := isRaw_cases hr
    show qRet _ (endsOf _ _) [.val (.tup (.str s :: ps)), .un]
    obtain ⟨lps, gp, gps⟩ := gd_tup hg
    walk_at "px"
    refine lcR_i (lc_map (fun p => .int (szV p)) ps _ (by omega) ?_ fun q hq acc N sm k => ?_)
    · walk_at "px"
      have e2 : ps.map (fun p => PV.int (szV p)) = (ps.map szV).map PV.int := by rw [List.map_map]; rfl
      rw [e2]
      walk_at "px"
      exact size_told (by rw [szVs_sum, szV])
    · walk_at "px"
      refine size_i ((isRaws_iff rows ps).mp hrs q hq) (by have := dep_mem q hq; rw [dep, deps] at hd; omega) ((gds_iff ps).mp gps q hq) ?_
      walk_at "px"
      exact ⟨sm, k⟩
end

end Lw
set_option maxHeartbeats 4000000
namespace Lw
open PySem L2 PyProof.Rows Px
def encO : Option (Str × PV) → PV
  | none => .non
  | some x => .tup [.str x.1, x.2]
def allS {α : Type} : List (Option α) → Option (List α)
  | [] => some []
  | none :: _ => none
  | some x :: r => match allS r with
    | some xs => some (x :: xs)
    | none => none
def stepIx (r : Rw) (fs : List (Option (Str × PV))) : Option (Str × PV) := match allS fs with
  | none => none
  | some gs => if gs.map (·.1) = r.ps.map (·.1) then match fitPs (r.ps.map (·.2)) (gs.map (·.2)) [] with
    | none => none
    | some d => some (r.fam, putT d r.ix) else none
mutual
def ixP (rows : List Rw) : PV → Option (Str × PV)
  | .tup [] => none
  | .tup (p :: ps) => match p with
    | .str s => (match findR rows s with
      | some r => stepIx r (ixPs rows ps)
      | none => none)
    | _ => none
  | .str _ => none
  | .lst _ => none
  | .scr _ => none
  | .nst _ _ _ => none
  | .ty _ => none
  | .non => none
  | .bl _ => none
  | .int _ => none
  | .dic _ _ => none
def ixPs (rows : List Rw) : List PV → List (Option (Str × PV))
  | [] => []
  | p :: ps => ixP rows p :: ixPs rows ps
end
structure RowOk (r : Rw) : Prop where
  len : r.ps.length ≤ 2
  okp : okPs (r.ps.map (·.2)) = true
  psz : pszs (r.ps.map (·.2)) ≤ 100
  oki : okP r.ix = true
  dep : Px.dep r.ix ≤ 1
  pszi : Lw.psz r.ix ≤ 100
  nm : ∀ x ∈ nmP r.ix, x ∈ nmPs (r.ps.map (·.2))
structure TabOk (rows : List Rw) : Prop where
  row : ∀ r ∈ rows, RowOk r
  nd : (rows.map (·.w)).Nodup
  oth : ∀ r ∈ rows, r.w ≠ Str.ofString "Other"
  len : rows.length ≤ 20
  ne : rows ≠ []
def S_idx (n : Nat) : FS := { io := [false, false], pre := fun ps => ∃ mk fm rows v, ps = [encTb mk fm rows, v] ∧ TabOk rows ∧ isRaw rows v = true ∧ dep v < n ∧ dep v ≤ 60, post := fun ps r _ => ∀ mk fm rows v, ps = [encTb mk fm rows, v] → r = encO (ixP rows v) }
theorem S_idx_fr (n : Nat) : (S_idx n).fr = false := rfl
theorem S_idx_io (n : Nat) : (S_idx n).io = [false, false] := rfl
local macro_rules | `(tactic| walk_at "px") => `(tactic| simp -dsimp only [qVar, qK, qNil, qCons, qTup, qLst, vals, looks, R.look, R.wk, qCB, qB, qOp2, qTru, truG, qAnd, qOr, qNot, qAndV, qOrV, qNotV, qIfE, qNo, qPart, qSl, gSl, qIt, qRng1, qRng2, qgN, qgNil, qgCons, qgT, notIo_zero, notIo_succ, notIo_nil', slOk_un, slOk_val, slOk_own, slOk_pl, slOk_pd, notIos_nil, notIos_cons, qYes, qLc, qNext, qSeq, qBreak, qCont, qFrz, frz, qDrop, retG, qRet, qRetN, qIf, qSet, qOwn, qAsg, qFor, qMut, ownTy, gAppend, gExtend, gPop, isOwn, qSetIx, qCall, splitArgs, putOuts, setOwn, finOk, endsOf, mk, outsOf, uns,
  gAdd, gInt, gInt0, gEq, gNe, gIn, gNotIn, gIs, gIsNot, Px.isNon, gIx, getP, gLen, gAbs, gIntC, gSum, gMax, gMax2, gMax3, gMinT, gAll, gAny, gList, gTuple, gIsi, qNeg, qDict0, wipeE, lcGo_nil, br_t, br_f, atI_0, atI_1, atI_2, atI_3, ixN_0, ixN_1, ixN_2, ixN_3, List.length_map, List.length_set, cut_from1, isTy, tyN, gIsiT, asTys, gListD, keyP, isDic, qGet1, qGet2, qLZ, gZip, qPairs, mergeP, qDisp, gDictC, gStr, qChain, qPar, qAug, qMeth, tyIs, gIndex, qLcK, qDc, qDcK, dicAt, qForK, qZipI, qCallB, qCallF, splitB, qTake, tkEnds, tkRt, tkBack, Px.isN, isNst, gIxN, gPop0, gInsert, qSetSeed, qStep, qPar3, qLcO, lcoK, stEnds, stGo, immS, Px.imm, endsLaw, Option.isSome_some, Option.isSome_none, isEmp_concat, List.getLast?_concat, List.dropLast_concat, List.isEmpty_nil, gEqX, gNeX, List.any_cons, List.any_nil, tyOk_str, tyOk_tuple, tyOk_int, tyOk_bool, tyOk_list, tyOk_dict, Option.map_some, Option.map_none,
  eqOk_str, eqOk_int, eqOk_bl, eqOk_non, eqOkW_str, eqOkW_int, eqOkW_bl, eqOkW_non, gEqW, gNeW, qVals, ownDic, qLc2, gLtX, gGtX, gSortX, peq_str, peq_int, peq_bl, List.getElem?_cons_zero, List.getElem?_cons_succ, List.getElem?_nil, List.set_cons_zero, List.set_cons_succ, List.zipWith_cons_cons, List.zipWith_nil_left, List.replicate_succ, List.replicate_zero, List.cons_append, List.nil_append, List.length_cons, List.length_nil, List.map_cons, List.map_nil, ↓reduceIte, Bool.false_eq_true, and_true, true_and, Bool.not_true, Bool.not_false, Nat.reduceAdd, Nat.reduceLT, Nat.reduceLeDiff, Nat.zero_lt_succ, Nat.lt_add_one, ne_eq, not_true_eq_false, not_false_eq_true, String.reduceEq, String.reduceBEq, Bool.or_false, Bool.false_or, Bool.or_true, Bool.true_or, Bool.and_false, Bool.and_true, Bool.false_and, Bool.true_and, reduceCtorEq, S_idx_fr, S_idx_io, S_put_fr, S_put_io])
theorem lc_mapT {α : Type} {g : QTG} {tt : QTT} {te : QT} {vs : List Nat} {Q : List PV → En → Prop} (enc f : α → PV) (xs : List α) (ρ0 : En) (hl : xs.length ≤ 999999) (hq : Q (xs.map f) ρ0)
    (hc : ∀ x ∈ xs, ∀ (acc : List PV) (N : List PV → En → Prop), small (acc.length + 1) → N (acc ++ [f x]) ρ0 → g (enc x) ρ0 fun ρ1 => tt ρ1 fun b ρ2 => Br b (te ρ2 fun r ρ3 => match r.wk with
      | .pv q => small (acc.length + 1) ∧ notIos ρ3 vs ∧ N (acc ++ [q]) (wipeE ρ3 vs)
      | _ => False) (notIos ρ2 vs ∧ N acc (wipeE ρ2 vs))) : lcGo g tt te vs Q (xs.map enc) [] ρ0 := by
  refine lc_ind (fun qs acc ρ => ∃ done left : List α, xs = done ++ left ∧ qs = left.map enc ∧ acc = done.map f ∧ ρ = ρ0) ?_ ?_ _ _ _ ⟨[], xs, rfl, rfl, rfl, rfl⟩
  · rintro acc ρ ⟨done, left, e, eq, rfl, rfl⟩
    cases left with
    | nil => rw [List.append_nil] at e; subst e; exact hq
    | cons _ _ => simp at eq
  · rintro q qs acc ρ ⟨done, left, e, eq, rfl, rfl⟩ N ih
    cases left with
    | nil => simp at eq
    | cons x left =>
      simp only [List.map_cons, List.cons.injEq] at eq
      obtain ⟨rfl, rfl⟩ := eq
      have := congrArg List.length e
      simp only [List.length_append, List.length_cons] at this
      exact hc x (by rw [e]; simp) _ N (small_of (by simp only [List.length_map]; omega)) (ih _ _ ⟨done ++ [x], left, by rw [e]; simp, rfl, by simp, rfl⟩)
theorem idx_i {n : Nat} {ρ : En} {mk fm : PV} {rows : List Rw} {v : PV} {Q : PK1} {dm : Dum Q} (tk : TabOk rows) (h : isRaw rows v = true) (hd : dep v < n) (h6 : dep v ≤ 60) (k : Q (.pv (encO (ixP rows v))) ρ) : callR (S_idx n) [.pv (encTb mk fm rows), .pv v] ρ Q dm :=
  call_p (ps := [encTb mk fm rows, v]) rfl rfl ⟨mk, fm, rows, v, rfl, tk, h, hd, h6⟩ fun r hp => by rw [hp _ _ _ _ rfl]; exact k
theorem ixPs_map (rows : List Rw) : ∀ ps : List PV, ixPs rows ps = ps.map (ixP rows)
  | [] => by rw [ixPs]; rfl
  | p :: ps => by rw [ixPs, ixPs_map rows ps]; rfl
theorem allS_some {α : Type} : ∀ {fs : List (Option α)} {gs : List α}, allS fs = some gs → fs = gs.map some
  | [], gs, h => by cases h; rfl
  | none :: _, gs, h => by cases h
  | some x :: fs, gs, h => by
    rw [allS] at h
    cases e : allS fs with
    | none => rw [e] at h; cases h
    | some xs => rw [e] at h; cases h; rw [allS_some e]; rfl
theorem allS_none {α : Type} : ∀ {fs : List (Option α)}, allS fs = none → none ∈ fs
  | [], h => by cases h
  | none :: _, h => List.mem_cons_self
  | some x :: fs, h => by
    rw [allS] at h
    cases e : allS fs with
    | none => exact List.mem_cons_of_mem _ (allS_none e)
    | some xs => rw [e] at h; cases h
theorem findR_mem {rows : List Rw} {s : Str} {r : Rw} (h : findR rows s = some r) : r ∈ rows ∧ r.w = s := by
  unfold findR at h
  exact ⟨List.mem_of_find?_eq_some h, by simpa using List.find?_some h⟩
theorem stepIx_ok {r : Rw} (R : RowOk r) {fs : List (Option (Str × PV))} {n : Nat} (hf : ∀ f t, some (f, t) ∈ fs → okC t = true ∧ dep t ≤ n) {f : Str} {t : PV} (h : stepIx r fs = some (f, t)) : okC t = true ∧ dep t ≤ n + 1 := by
  unfold stepIx at h
  cases e : allS fs with
  | none => rw [e] at h; cases h
  | some gs =>
    rw [e] at h
    dsimp only at h
    have ef := allS_some e
    have hg : ∀ g ∈ gs, okC g.2 = true ∧ dep g.2 ≤ n := fun g hg => hf g.1 g.2 (by rw [ef]; exact List.mem_map.mpr ⟨g, hg, rfl⟩)
    split at h
    · rename_i e1
      have hl : (r.ps.map (·.2)).length = (gs.map (·.2)).length := by
        have := congrArg List.length e1
        simp only [List.length_map] at this ⊢
        exact this.symm
      cases e2 : fitPs (r.ps.map (·.2)) (gs.map (·.2)) [] with
      | none => rw [e2] at h; cases h
      | some d =>
        rw [e2] at h
        cases h
        obtain ⟨D, _, h3⟩ := fitPs_ok (n := n) _ _ _ d hl R.okp ((okCs_iff _).mpr fun p hp => by
          obtain ⟨g, hg2, rfl⟩ := List.mem_map.mp hp
          exact (hg g hg2).1) ((deps_le _).mpr fun p hp => by
          obtain ⟨g, hg2, rfl⟩ := List.mem_map.mp hp
          exact (hg g hg2).2) DOk.nil e2
        obtain ⟨h1, h2⟩ := putT_ok D r.ix R.oki fun x hx => h3 x (R.nm x hx)
        have := R.dep
        exact ⟨h1, by omega⟩
    · cases h
mutual
theorem ixP_ok {rows : List Rw} (tk : TabOk rows) : ∀ (v : PV) (f : Str) (t : PV), ixP rows v = some (f, t) → okC t = true ∧ dep t ≤ dep v
  | .tup [], _, _, h => by simp [ixP] at h
  | .tup (p :: ps), f, t, h => by
    cases p with
    | str s =>
      rw [ixP] at h
      cases e : findR rows s with
      | none => rw [e] at h; cases h
      | some r =>
        rw [e] at h
        obtain ⟨h1, h2⟩ := stepIx_ok (tk.row r (findR_mem e).1) (n := deps ps) (fun f t ht => ixPs_ok tk ps f t ht) h
        exact ⟨h1, by rw [dep, deps, dep]; omega⟩
    | _ => simp [ixP] at h
  | .str _, _, _, h => by simp [ixP] at h
  | .lst _, _, _, h => by simp [ixP] at h
  | .scr _, _, _, h => by simp [ixP] at h
  | .nst _ _ _, _, _, h => by simp [ixP] at h
  | .ty _, _, _, h => by simp [ixP] at h
  | .non, _, _, h => by simp [ixP] at h
  | .bl _, _, _, h => by simp [ixP] at h
  | .int _, _, _, h => by simp [ixP] at h
  | .dic _ _, _, _, h => by simp [ixP] at h
theorem ixPs_ok {rows : List Rw} (tk : TabOk rows) : ∀ (ps : List PV) (f : Str) (t : PV), some (f, t) ∈ ixPs rows ps → okC t = true ∧ dep t ≤ deps ps
  | [], _, _, h => by rw [ixPs] at h; cases h
  | p :: ps, f, t, h => by
    rw [ixPs] at h
    rw [deps]
    rcases List.mem_cons.mp h with h | h
    · obtain ⟨h1, h2⟩ := ixP_ok tk p f t h.symm
      exact ⟨h1, by omega⟩
    · obtain ⟨h1, h2⟩ := ixPs_ok tk ps f t h
      exact ⟨h1, by omega⟩
end
/-! ### what is asked of the indices that are found -/
theorem memP_non : ∀ fs : List (Option (Str × PV)), memP .non (fs.map encO) = fs.any (·.isNone)
  | [] => rfl
  | none :: fs => by unfold memP; rw [List.map_cons, List.any_cons, List.any_cons]; rfl
  | some x :: fs => by
    have ih := memP_non fs
    unfold memP at ih ⊢
    rw [List.map_cons, List.any_cons, List.any_cons, ih]; rfl
theorem eqOk_found {fs : List (Option (Str × PV))} {n : Nat} (hn : n ≤ 60) (hf : ∀ f t, some (f, t) ∈ fs → okC t = true ∧ dep t ≤ n) : eqOk (.lst (fs.map encO)) := by
  have key : plains (fs.map encO) = true ∧ deps (fs.map encO) ≤ 62 := by
    induction fs with
    | nil => exact ⟨rfl, Nat.zero_le _⟩
    | cons a fs ih =>
      obtain ⟨h1, h2⟩ := ih fun f t h => hf f t (List.mem_cons_of_mem _ h)
      rw [List.map_cons, plains, deps, h1]
      cases a with
      | none => exact ⟨rfl, by rw [encO, dep]; omega⟩
      | some x =>
        obtain ⟨h3, h4⟩ := hf x.1 x.2 List.mem_cons_self
        refine ⟨?_, ?_⟩
        · rw [encO, Px.plain, plains, plains, plains, tsh_plain _ (okC_tsh h3)]; rfl
        · rw [encO, dep, deps, deps, deps, dep]; omega
  exact ⟨by rw [Px.plain]; exact key.1, by rw [dep]; omega⟩
theorem none_any {α : Type} : ∀ {fs : List (Option α)}, fs.any (·.isNone) = (allS fs).isNone
  | [] => rfl
  | none :: _ => rfl
  | some x :: fs => by
    rw [List.any_cons, none_any (fs := fs), allS]
    cases allS fs <;> rfl
theorem peq_strs (as bs : List Str) : peq (.lst (as.map PV.str)) (.lst (bs.map PV.str)) = (as == bs) := by rw [peq_lst, peqs_strs]
section
variable {P : Program} {w : World} {K : PySem.W.Frag} {mg : Str → Option Value} {base : Heap}
theorem ok_idx (T : Txt K mg) : ∀ n : Nat, Has P w K mg base "index_of" (n + 3) ["table", "value"] (S_idx n)
  | 0 => by
    refine (Px.has_none T.d_index_of (fun F => F.binds (ps := ["table", "value"]) fun _ _ _ _ _ _ us hl => match us, hl with | [_, _], _ => rfl) fun pvs h => ?_ : Has P w K mg base "index_of" 0 _ _).mono (by omega)
    obtain ⟨_, _, _, _, _, _, _, h, _⟩ := h
    omega
  | n + 1 => by
    refine dv_index_of T ((ok_con T).mono (by omega)) (ok_idx T n) ((ok_fitted T).mono (by omega)) ((ok_put T 2).mono (by omega)) (S_idx (n + 1)) rfl fun pvs lp pre => ?_
    obtain ⟨mk, fm, rows, v, rfl, tk, hr, hd, h6⟩ := pre
    have told : ∀ {r : PV}, r = encO (ixP rows v) → (S_idx (n + 1)).post [encTb mk fm rows, v] r [] := fun {r} e mk2 fm2 rows2 s2 e2 => by
      injection e2 with e3 e2; injection e2 with e4 _
      rw [← encTb_inj e3, ← e4, e]
    unfold rd_index_of
    obtain ⟨s, ps, r, rfl, e, hl, hrs⟩ := isRaw_cases hr
    have R := tk.row r (findR_mem e).1
    have hlr := R.len
    have hdp : deps ps < n ∧ deps ps ≤ 59 := by rw [dep, deps] at hd h6; omega
    have ei : ixP rows (.tup (.str s :: ps)) = stepIx r (ixPs rows ps) := by rw [ixP, e]
    rw [ei] at told
    have hfs := ixPs_ok tk ps
    have hin : (ixPs rows ps).length = ps.length := by rw [ixPs_map, List.length_map]
    generalize hE : endsOf (S_idx (n + 1)) _ = E
    have rt : ∀ {r' : PV}, r' = encO (stepIx r (ixPs rows ps)) → ∀ ρ, E.rt (.pv r') ρ := fun h ρ => by rw [← hE]; exact told h
    show qSeq _ _ E [.val (encTb mk fm rows), .val (.tup (.str s :: ps)), .un, .un, .un, .un, .un]
    walk_at "px"
    refine con_i ?_
    rw [e]
    simp only [Option.map_some, Option.getD_some]
    walk_at "px"
    refine lcR_i (lc_map (fun p => encO (ixP rows p)) ps _ (by omega) ?_ fun q hq acc N sm k => ?_)
    · have em : ps.map (fun p => encO (ixP rows p)) = (ixPs rows ps).map encO := by rw [ixPs_map, List.map_map]; rfl
      rw [em]
      generalize ixPs rows ps = fs at *
      have eqf := eqOk_found (n := deps ps) (by omega) hfs
      walk_at "px"
      rw [memP_non, none_any]
      refine ⟨eqf, fun h => rt ?_ _, fun h => ?_⟩
      · unfold stepIx
        cases ea : allS fs with
        | none => rfl
        | some gs => rw [ea] at h; cases h
      · cases ea : allS fs with
        | none => rw [ea] at h; cases h
        | some gs =>
          have ef := allS_some ea
          have hgs : ∀ g ∈ gs, okC g.2 = true ∧ dep g.2 ≤ deps ps := fun g hg => hfs g.1 g.2 (by rw [ef]; exact List.mem_map.mpr ⟨g, hg, rfl⟩)
          have lg : gs.length = ps.length := by rw [← hin, ef, List.length_map]
          have eg : fs.map encO = gs.map encPt := by rw [ef, List.map_map]; rfl
          rw [eg]
          unfold encRw
          have m1 : ∀ xs : List (Str × PV), xs.map (fun x => PV.str x.1) = (xs.map (·.1)).map PV.str := fun xs => by rw [List.map_map]; rfl
          refine lcR_i (lc_mapT encPt (fun x => .str x.1) gs _ (by omega) ?_ fun x hx acc N sm k => ?_)
          · walk_at "px"
            refine lcR_i (lc_mapT encPt (fun x => .str x.1) r.ps _ (by omega) ?_ fun x hx acc N sm k => ?_)
            · rw [m1, m1]
              walk_at "px"
              rw [peq_strs]
              refine ⟨eqOk_strs _, eqOk_strs _, fun h => rt ?_ _, fun h => ?_⟩
              · have ne : gs.map (·.1) ≠ r.ps.map (·.1) := by simpa using h
                unfold stepIx
                rw [ea]
                simp only [if_neg ne]
                rfl
              · have eq : gs.map (·.1) = r.ps.map (·.1) := by simpa using h
                refine lcR_i (lc_mapT encPt (fun x => x.2) r.ps _ (by omega) ?_ fun x hx acc N sm k => ?_)
                · walk_at "px"
                  refine lcR_i (lc_mapT encPt (fun x => x.2) gs _ (by omega) ?_ fun x hx acc N sm k => ?_)
                  · walk_at "px"
                    refine fitted_i (okPs_tshs _ R.okp) (okCs_tshs ((okCs_iff _).mpr fun p hp => by
                      obtain ⟨g, hg2, rfl⟩ := List.mem_map.mp hp
                      exact (hgs g hg2).1)) ((deps_le _).mpr fun p hp => by
                      obtain ⟨g, hg2, rfl⟩ := List.mem_map.mp hp
                      have := (hgs g hg2).2
                      omega) (by have := R.psz; omega) ?_
                    cases ef2 : fitPs (r.ps.map (·.2)) (gs.map (·.2)) [] with
                    | none =>
                      unfold encF
                      walk_at "px"
                      refine rt ?_ _
                      unfold stepIx
                      rw [ea]
                      simp only [if_pos eq, ef2]
                      rfl
                    | some d =>
                      unfold encF
                      have kk : ∀ ρ, E.rt (.pv (.tup [.str r.fam, putT d r.ix])) ρ := rt (by
                        unfold stepIx
                        rw [ea]
                        simp only [if_pos eq, ef2]
                        rfl)
                      unfold encD
                      walk_at "px"
                      have hd2 := R.dep
                      have hz2 := R.pszi
                      refine put_i (okP_tsh _ R.oki) (by omega) (by omega) ?_
                      walk_at "px"
                      exact ⟨small_of (by decide), kk _⟩
                  · unfold encPt
                    walk_at "px"
                    exact ⟨sm, k⟩
                · unfold encPt
                  walk_at "px"
                  exact ⟨sm, k⟩
            · unfold encPt
              walk_at "px"
              exact ⟨sm, k⟩
          · unfold encPt
            walk_at "px"
            exact ⟨sm, k⟩
    · walk_at "px"
      refine idx_i tk ((isRaws_iff rows ps).mp hrs q hq) (by have := dep_mem q hq; omega) (by have := dep_mem q hq; omega) ?_
      walk_at "px"
      exact ⟨sm, k⟩
end

end Lw
set_option maxHeartbeats 4000000
namespace Lw
open PySem L2 PyProof.Rows Px
local macro_rules | `(tactic| walk_at "px") => `(tactic| simp -dsimp only [qVar, qK, qNil, qCons, qTup, qLst, vals, looks, R.look, R.wk, qCB, qB, qOp2, qTru, truG, qAnd, qOr, qNot, qAndV, qOrV, qNotV, qIfE, qNo, qPart, qSl, gSl, qIt, qRng1, qRng2, qgN, qgNil, qgCons, qgT, notIo_zero, notIo_succ, notIo_nil', slOk_un, slOk_val, slOk_own, slOk_pl, slOk_pd, notIos_nil, notIos_cons, qYes, qLc, qNext, qSeq, qBreak, qCont, qFrz, frz, qDrop, retG, qRet, qRetN, qIf, qSet, qOwn, qAsg, qFor, qMut, ownTy, gAppend, gExtend, gPop, isOwn, qSetIx, qCall, splitArgs, putOuts, setOwn, finOk, endsOf, mk, outsOf, uns,
  gAdd, gInt, gInt0, gEq, gNe, gIn, gNotIn, gIs, gIsNot, Px.isNon, gIx, getP, gLen, gAbs, gIntC, gSum, gMax, gMax2, gMax3, gMinT, gAll, gAny, gList, gTuple, gIsi, qNeg, qDict0, wipeE, lcGo_nil, br_t, br_f, atI_0, atI_1, atI_2, atI_3, ixN_0, ixN_1, ixN_2, ixN_3, List.length_map, List.length_set, cut_from1, isTy, tyN, gIsiT, asTys, gListD, keyP, isDic, qGet1, qGet2, qLZ, gZip, qPairs, mergeP, qDisp, gDictC, gStr, qChain, qPar, qAug, qMeth, tyIs, gIndex, qLcK, qDc, qDcK, dicAt, qForK, qZipI, qCallB, qCallF, splitB, qTake, tkEnds, tkRt, tkBack, Px.isN, isNst, gIxN, gPop0, gInsert, qSetSeed, qStep, qPar3, qLcO, lcoK, stEnds, stGo, immS, Px.imm, endsLaw, Option.isSome_some, Option.isSome_none, isEmp_concat, List.getLast?_concat, List.dropLast_concat, List.isEmpty_nil, gEqX, gNeX, List.any_cons, List.any_nil, tyOk_str, tyOk_tuple, tyOk_int, tyOk_bool, tyOk_list, tyOk_dict, Option.map_some, Option.map_none,
  eqOk_str, eqOk_int, eqOk_bl, eqOk_non, eqOkW_str, eqOkW_int, eqOkW_bl, eqOkW_non, gEqW, gNeW, qVals, ownDic, qLc2, gLtX, gGtX, gSortX, peq_str, peq_int, peq_bl, List.getElem?_cons_zero, List.getElem?_cons_succ, List.getElem?_nil, List.set_cons_zero, List.set_cons_succ, List.zipWith_cons_cons, List.zipWith_nil_left, List.replicate_succ, List.replicate_zero, List.cons_append, List.nil_append, List.length_cons, List.length_nil, List.map_cons, List.map_nil, ↓reduceIte, Bool.false_eq_true, and_true, true_and, Bool.not_true, Bool.not_false, Nat.reduceAdd, Nat.reduceLT, Nat.reduceLeDiff, Nat.zero_lt_succ, Nat.lt_add_one, ne_eq, not_true_eq_false, not_false_eq_true, String.reduceEq, String.reduceBEq, Bool.or_false, Bool.false_or, Bool.or_true, Bool.true_or, Bool.and_false, Bool.and_true, Bool.false_and, Bool.true_and, reduceCtorEq, S_idx_fr, S_idx_io, S_put_fr, S_put_io])
theorem filter_head {rows : List Rw} {s : Str} {r : Rw} (h : findR rows s = some r) : ∃ rl, rows.filter (fun r => r.w == s) = r :: rl := by
  unfold findR at h
  induction rows with
  | nil => cases h
  | cons x rows ih =>
    rw [List.find?_cons] at h
    rw [List.filter_cons]
    cases e : (x.w == s) with
    | true => rw [e] at h; cases h; exact ⟨_, rfl⟩
    | false => rw [e] at h; simpa using ih h
theorem lc_filterT {α : Type} {g : QTG} {tt : QTT} {te : QT} {vs : List Nat} {Q : List PV → En → Prop} (enc f : α → PV) (p : α → Bool) (xs : List α) (ρ0 : En) (hl : xs.length ≤ 999999) (hq : Q ((xs.filter p).map f) ρ0)
    (hc : ∀ x ∈ xs, ∀ (acc : List PV) (N : List PV → En → Prop), small (acc.length + 1) → N (acc ++ if p x = true then [f x] else []) ρ0 → g (enc x) ρ0 fun ρ1 => tt ρ1 fun b ρ2 => Br b (te ρ2 fun r ρ3 => match r.wk with
      | .pv q => small (acc.length + 1) ∧ notIos ρ3 vs ∧ N (acc ++ [q]) (wipeE ρ3 vs)
      | _ => False) (notIos ρ2 vs ∧ N acc (wipeE ρ2 vs))) : lcGo g tt te vs Q (xs.map enc) [] ρ0 := by
  refine lc_ind (fun qs acc ρ => ∃ done left : List α, xs = done ++ left ∧ qs = left.map enc ∧ acc = (done.filter p).map f ∧ ρ = ρ0) ?_ ?_ _ _ _ ⟨[], xs, rfl, rfl, rfl, rfl⟩
  · rintro acc ρ ⟨done, left, e, eq, rfl, rfl⟩
    cases left with
    | nil => rw [List.append_nil] at e; subst e; exact hq
    | cons _ _ => simp at eq
  · rintro q qs acc ρ ⟨done, left, e, eq, rfl, rfl⟩ N ih
    cases left with
    | nil => simp at eq
    | cons x left =>
      simp only [List.map_cons, List.cons.injEq] at eq
      obtain ⟨rfl, rfl⟩ := eq
      have := congrArg List.length e
      simp only [List.length_append, List.length_cons] at this
      have hle := List.length_filter_le p done
      refine hc x (by rw [e]; simp) _ N (small_of (by simp only [List.length_map]; omega)) (ih _ _ ⟨done ++ [x], left, by rw [e]; simp, rfl, ?_, rfl⟩)
      rw [List.filter_append, List.map_append]
      congr 1
      rw [List.filter_cons]
      split <;> rfl
section
variable {P : Program} {w : World} {K : PySem.W.Frag} {mg : Str → Option Value} {base : Heap}
theorem ok_lidx (T : Txt K mg) : ∀ n : Nat, Has P w K mg base "_law_index" (n + 3) ["table", "value"] (S_idx n)
  | 0 => by
    refine (Px.has_none T.d__law_index (fun F => F.binds (ps := ["table", "value"]) fun _ _ _ _ _ _ us hl => match us, hl with | [_, _], _ => rfl) fun pvs h => ?_ : Has P w K mg base "_law_index" 0 _ _).mono (by omega)
    obtain ⟨_, _, _, _, _, _, _, h, _⟩ := h
    omega
  | n + 1 => by
    refine dv__law_index T (ok_lidx T n) ((ok_lfit T).mono (by omega)) ((ok_lput T 2).mono (by omega)) (S_idx (n + 1)) rfl fun pvs lp pre => ?_
    obtain ⟨mk, fm, rows, v, rfl, tk, hr, hd, h6⟩ := pre
    have told : ∀ {r : PV}, r = encO (ixP rows v) → (S_idx (n + 1)).post [encTb mk fm rows, v] r [] := fun {r} e mk2 fm2 rows2 s2 e2 => by
      injection e2 with e3 e2; injection e2 with e4 _
      rw [← encTb_inj e3, ← e4, e]
    unfold rd__law_index
    obtain ⟨s, ps, r, rfl, e, hl, hrs⟩ := isRaw_cases hr
    have R := tk.row r (findR_mem e).1
    have hlr := R.len
    have hdp : deps ps < n ∧ deps ps ≤ 59 := by rw [dep, deps] at hd h6; omega
    have ei : ixP rows (.tup (.str s :: ps)) = stepIx r (ixPs rows ps) := by rw [ixP, e]
    rw [ei] at told
    have hfs := ixPs_ok tk ps
    have hin : (ixPs rows ps).length = ps.length := by rw [ixPs_map, List.length_map]
    generalize hE : endsOf (S_idx (n + 1)) _ = E
    have rt : ∀ {r' : PV}, r' = encO (stepIx r (ixPs rows ps)) → ∀ ρ, E.rt (.pv r') ρ := fun h ρ => by rw [← hE]; exact told h
    show qSeq _ _ E [.val (encTb mk fm rows), .val (.tup (.str s :: ps)), .un, .un, .un, .un, .un, .un]
    have ht0 : encTb mk fm rows = .tup [.str (Str.ofString "table"), mk, fm, .tup (rows.map encRw)] := rfl
    obtain ⟨rl, er⟩ : ∃ rl, rows.filter (fun r => r.w == s) = r :: rl := filter_head e
    have hrl := tk.len
    rw [ht0]
    walk_at "px"
    refine lcR_i (lc_filterT encRw encRw (fun r => r.w == s) rows _ (by omega) ?_ fun x hx acc N sm k => ?_)
    rotate_left
    · unfold encRw
      walk_at "px"
      refine ⟨fun h => ⟨sm, ?_⟩, fun h => ?_⟩
      · rw [h] at k; exact k
      · rw [h] at k
        simp only [Bool.false_eq_true, if_false, List.append_nil] at k
        exact k
    rw [er]
    walk_at "px"
    refine lcR_i (lc_map (fun p => encO (ixP rows p)) ps _ (by omega) ?_ fun q hq acc N sm k => ?_)
    · have em : ps.map (fun p => encO (ixP rows p)) = (ixPs rows ps).map encO := by rw [ixPs_map, List.map_map]; rfl
      rw [em]
      generalize ixPs rows ps = fs at *
      have eqf := eqOk_found (n := deps ps) (by omega) hfs
      walk_at "px"
      rw [memP_non, none_any]
      refine ⟨eqf, fun h => rt ?_ _, fun h => ?_⟩
      · unfold stepIx
        cases ea : allS fs with
        | none => rfl
        | some gs => rw [ea] at h; cases h
      · cases ea : allS fs with
        | none => rw [ea] at h; cases h
        | some gs =>
          have ef := allS_some ea
          have hgs : ∀ g ∈ gs, okC g.2 = true ∧ dep g.2 ≤ deps ps := fun g hg => hfs g.1 g.2 (by rw [ef]; exact List.mem_map.mpr ⟨g, hg, rfl⟩)
          have lg : gs.length = ps.length := by rw [← hin, ef, List.length_map]
          have eg : fs.map encO = gs.map encPt := by rw [ef, List.map_map]; rfl
          rw [eg]
          unfold encRw
          have m1 : ∀ xs : List (Str × PV), xs.map (fun x => PV.str x.1) = (xs.map (·.1)).map PV.str := fun xs => by rw [List.map_map]; rfl
          refine lcR_i (lc_mapT encPt (fun x => .str x.1) gs _ (by omega) ?_ fun x hx acc N sm k => ?_)
          · walk_at "px"
            refine lcR_i (lc_mapT encPt (fun x => .str x.1) r.ps _ (by omega) ?_ fun x hx acc N sm k => ?_)
            · rw [m1, m1]
              walk_at "px"
              rw [peq_strs]
              refine ⟨eqOk_strs _, eqOk_strs _, fun h => rt ?_ _, fun h => ?_⟩
              · have ne : gs.map (·.1) ≠ r.ps.map (·.1) := by simpa using h
                unfold stepIx
                rw [ea]
                simp only [if_neg ne]
                rfl
              · have eq : gs.map (·.1) = r.ps.map (·.1) := by simpa using h
                refine lcR_i (lc_mapT encPt (fun x => x.2) r.ps _ (by omega) ?_ fun x hx acc N sm k => ?_)
                · walk_at "px"
                  refine lcR_i (lc_mapT encPt (fun x => x.2) gs _ (by omega) ?_ fun x hx acc N sm k => ?_)
                  · walk_at "px"
                    refine lfit_i (by simp only [List.length_map]; omega) R.okp ((okCs_iff _).mpr fun p hp => by
                      obtain ⟨g, hg2, rfl⟩ := List.mem_map.mp hp
                      exact (hgs g hg2).1) ((deps_le _).mpr fun p hp => by
                      obtain ⟨g, hg2, rfl⟩ := List.mem_map.mp hp
                      have := (hgs g hg2).2
                      omega) (by have := R.psz; omega) ?_
                    cases ef2 : fitPs (r.ps.map (·.2)) (gs.map (·.2)) [] with
                    | none =>
                      unfold encF
                      walk_at "px"
                      refine rt ?_ _
                      unfold stepIx
                      rw [ea]
                      simp only [if_pos eq, ef2]
                      rfl
                    | some d =>
                      unfold encF
                      have kk : ∀ ρ, E.rt (.pv (.tup [.str r.fam, putT d r.ix])) ρ := rt (by
                        unfold stepIx
                        rw [ea]
                        simp only [if_pos eq, ef2]
                        rfl)
                      unfold encD
                      walk_at "px"
                      have hd2 := R.dep
                      have hz2 := R.pszi
                      refine lput_i (okP_tsh _ R.oki) (by omega) (by omega) (fun x hx => (fitPs_ok (n := deps ps) _ _ _ d (by simp only [List.length_map]; omega) R.okp ((okCs_iff _).mpr fun p hp => by
                        obtain ⟨g, hg2, rfl⟩ := List.mem_map.mp hp
                        exact (hgs g hg2).1) ((deps_le _).mpr fun p hp => by
                        obtain ⟨g, hg2, rfl⟩ := List.mem_map.mp hp
                        exact (hgs g hg2).2) DOk.nil ef2).2.2 x (R.nm x hx)) ?_
                      walk_at "px"
                      exact ⟨small_of (by decide), kk _⟩
                  · unfold encPt
                    walk_at "px"
                    exact ⟨sm, k⟩
                · unfold encPt
                  walk_at "px"
                  exact ⟨sm, k⟩
            · unfold encPt
              walk_at "px"
              exact ⟨sm, k⟩
          · unfold encPt
            walk_at "px"
            exact ⟨sm, k⟩
    · walk_at "px"
      refine idx_i tk ((isRaws_iff rows ps).mp hrs q hq) (by have := dep_mem q hq; omega) (by have := dep_mem q hq; omega) ?_
      walk_at "px"
      exact ⟨sm, k⟩
end

end Lw
set_option maxHeartbeats 4000000
namespace Lw
open PySem L2 PyProof.Rows Px
local macro_rules | `(tactic| walk_at "px") => `(tactic| simp -dsimp only [qVar, qK, qNil, qCons, qTup, qLst, vals, looks, R.look, R.wk, qCB, qB, qOp2, qTru, truG, qAnd, qOr, qNot, qAndV, qOrV, qNotV, qIfE, qNo, qPart, qSl, gSl, qIt, qRng1, qRng2, qgN, qgNil, qgCons, qgT, notIo_zero, notIo_succ, notIo_nil', slOk_un, slOk_val, slOk_own, slOk_pl, slOk_pd, notIos_nil, notIos_cons, qYes, qLc, qNext, qSeq, qBreak, qCont, qFrz, frz, qDrop, retG, qRet, qRetN, qIf, qSet, qOwn, qAsg, qFor, qMut, ownTy, gAppend, gExtend, gPop, isOwn, qSetIx, qCall, splitArgs, putOuts, setOwn, finOk, endsOf, mk, outsOf, uns,
  gAdd, gInt, gInt0, gEq, gNe, gIn, gNotIn, gIs, gIsNot, Px.isNon, gIx, getP, gLen, gAbs, gIntC, gSum, gMax, gMax2, gMax3, gMinT, gAll, gAny, gList, gTuple, gIsi, qNeg, qDict0, wipeE, lcGo_nil, br_t, br_f, atI_0, atI_1, atI_2, atI_3, ixN_0, ixN_1, ixN_2, ixN_3, List.length_map, List.length_set, cut_from1, isTy, tyN, gIsiT, asTys, gListD, keyP, isDic, qGet1, qGet2, qLZ, gZip, qPairs, mergeP, qDisp, gDictC, gStr, qChain, qPar, qAug, qMeth, tyIs, gIndex, qLcK, qDc, qDcK, dicAt, qForK, qZipI, qCallB, qCallF, splitB, qTake, tkEnds, tkRt, tkBack, Px.isN, isNst, gIxN, gPop0, gInsert, qSetSeed, qStep, qPar3, qLcO, lcoK, stEnds, stGo, immS, Px.imm, endsLaw, Option.isSome_some, Option.isSome_none, isEmp_concat, List.getLast?_concat, List.dropLast_concat, List.isEmpty_nil, gEqX, gNeX, List.any_cons, List.any_nil, tyOk_str, tyOk_tuple, tyOk_int, tyOk_bool, tyOk_list, tyOk_dict, Option.map_some, Option.map_none,
  eqOk_str, eqOk_int, eqOk_bl, eqOk_non, eqOkW_str, eqOkW_int, eqOkW_bl, eqOkW_non, gEqW, gNeW, qVals, ownDic, qLc2, gLtX, gGtX, gSortX, peq_str, peq_int, peq_bl, List.getElem?_cons_zero, List.getElem?_cons_succ, List.getElem?_nil, List.set_cons_zero, List.set_cons_succ, List.zipWith_cons_cons, List.zipWith_nil_left, List.replicate_succ, List.replicate_zero, List.cons_append, List.nil_append, List.length_cons, List.length_nil, List.map_cons, List.map_nil, ↓reduceIte, Bool.false_eq_true, and_true, true_and, Bool.not_true, Bool.not_false, Nat.reduceAdd, Nat.reduceLT, Nat.reduceLeDiff, Nat.zero_lt_succ, Nat.lt_add_one, ne_eq, not_true_eq_false, not_false_eq_true, String.reduceEq, String.reduceBEq, Bool.or_false, Bool.false_or, Bool.or_true, Bool.true_or, Bool.and_false, Bool.and_true, Bool.false_and, Bool.true_and, reduceCtorEq])
abbrev Sh := List (Str × PV) × PV
def encSh (x : Sh) : PV := .tup [.tup (x.1.map encPt), x.2]
def rwSh (w f : Str) (x : Sh) : Rw := ⟨w, x.1, f, x.2⟩
def rowB (ts : List PV) (ix : PV) : Bool := decide (ts.length ≤ 2) && okPs ts && decide (pszs ts ≤ 100) && okP ix && decide (dep ix ≤ 1) && decide (psz ix ≤ 100) && (nmP ix).all fun x => (nmPs ts).contains x
theorem rowB_ok {w f : Str} {x : Sh} (h : rowB (x.1.map (·.2)) x.2 = true) : RowOk (rwSh w f x) := by
  unfold rowB at h
  simp only [Bool.and_eq_true, decide_eq_true_eq, List.all_eq_true, List.contains_iff_mem] at h
  obtain ⟨⟨⟨⟨⟨⟨h1, h2⟩, h3⟩, h4⟩, h5⟩, h6⟩, h7⟩ := h
  exact ⟨by rw [List.length_map] at h1; exact h1, h2, h3, h4, h5, h6, h7⟩
def decPt : PV → Option (Str × PV)
  | .tup [.str s, t] => some (s, t)
  | _ => none
def decPts : List PV → Option (List (Str × PV))
  | [] => some []
  | p :: ps => match decPt p, decPts ps with
    | some x, some xs => some (x :: xs)
    | _, _ => none
def decSh : PV → Option Sh
  | .tup [.tup ps, ix] => match decPts ps with
    | some l => some (l, ix)
    | none => none
  | _ => none
def decShs : List PV → Option (List Sh)
  | [] => some []
  | p :: ps => match decSh p, decShs ps with
    | some x, some xs => some (x :: xs)
    | _, _ => none
theorem decPt_eq {p : PV} {x : Str × PV} (h : decPt p = some x) : p = encPt x := by
  unfold decPt at h
  split at h
  · cases h; rfl
  · cases h
theorem decPts_eq : ∀ {ps : List PV} {xs : List (Str × PV)}, decPts ps = some xs → ps = xs.map encPt
  | [], xs, h => by cases h; rfl
  | p :: ps, xs, h => by
    rw [decPts] at h
    cases e1 : decPt p with
    | none => rw [e1] at h; cases h
    | some x =>
      cases e2 : decPts ps with
      | none => rw [e1, e2] at h; cases h
      | some ys =>
        rw [e1, e2] at h; cases h
        rw [decPt_eq e1, decPts_eq e2]; rfl
theorem decSh_eq {p : PV} {x : Sh} (h : decSh p = some x) : p = encSh x := by
  unfold decSh at h
  split at h
  · split at h
    · rename_i e
      cases h
      rw [decPts_eq e]; rfl
    · cases h
  · cases h
theorem decShs_eq : ∀ {ps : List PV} {xs : List Sh}, decShs ps = some xs → ps = xs.map encSh
  | [], xs, h => by cases h; rfl
  | p :: ps, xs, h => by
    rw [decShs] at h
    cases e1 : decSh p with
    | none => rw [e1] at h; cases h
    | some x =>
      cases e2 : decShs ps with
      | none => rw [e1, e2] at h; cases h
      | some ys =>
        rw [e1, e2] at h; cases h
        rw [decSh_eq e1, decShs_eq e2]; rfl
def S_shape : FS := { io := [false, false, false, false], pre := fun ps => ∃ k a b c, ps = [.int k, .str a, .str b, .str c], post := fun _ r _ => ∃ l : List Sh, r = .lst (l.map encSh) ∧ (1 ≤ l.length ∧ l.length ≤ 3) ∧ ∀ x ∈ l, rowB (x.1.map (·.2)) x.2 = true }
theorem shape_i {ρ : En} {k : Int} {a b c : Str} {Q : PK1} {dm : Dum Q} (kk : ∀ l : List Sh, 1 ≤ l.length ∧ l.length ≤ 3 → (∀ x ∈ l, rowB (x.1.map (·.2)) x.2 = true) → Q (.pv (.lst (l.map encSh))) ρ) : callR S_shape [.pv (.int k), .pv (.str a), .pv (.str b), .pv (.str c)] ρ Q dm :=
  call_p (ps := [.int k, .str a, .str b, .str c]) rfl rfl ⟨k, a, b, c, rfl⟩ fun r hp => by
    obtain ⟨l, rfl, h1, h2⟩ := hp
    exact kk l h1 h2
theorem shp {ps : List PV} {l : List Sh} (h : decShs ps = some l) (hl : 1 ≤ l.length ∧ l.length ≤ 3) (ha : (l.all fun x => rowB (x.1.map (·.2)) x.2) = true) : ∃ l : List Sh, PV.lst ps = .lst (l.map encSh) ∧ (1 ≤ l.length ∧ l.length ≤ 3) ∧ ∀ x ∈ l, rowB (x.1.map (·.2)) x.2 = true := ⟨l, by rw [decShs_eq h], hl, fun x hx => List.all_eq_true.mp ha x hx⟩
section
variable {P : Program} {w : World} {K : PySem.W.Frag} {mg : Str → Option Value} {base : Heap}
theorem ok_shape (T : Txt K mg) : Has P w K mg base "_law_shape" 1 ["kind", "own", "other", "third"] S_shape := by
  refine dv__law_shape T S_shape rfl fun pvs lp pre => ?_
  obtain ⟨k, a, b, c, rfl⟩ := pre
  unfold rd__law_shape S_shape
  walk_at "px"
  repeat' first
    | (refine shp rfl (by simp) ?_; simp only [List.all_cons, List.all_nil, List.map_cons, List.map_nil]; decide +kernel)
    | refine ⟨small_of (by decide), ?_⟩
    | refine ⟨fun _ => ?_, fun _ => ?_⟩
end

end Lw
set_option maxHeartbeats 4000000
namespace Lw
open PySem L2 PyProof.Rows Px
local macro_rules | `(tactic| walk_at "px") => `(tactic| simp -dsimp only [qVar, qK, qNil, qCons, qTup, qLst, vals, looks, R.look, R.wk, qCB, qB, qOp2, qTru, truG, qAnd, qOr, qNot, qAndV, qOrV, qNotV, qIfE, qNo, qPart, qSl, gSl, qIt, qRng1, qRng2, qgN, qgNil, qgCons, qgT, notIo_zero, notIo_succ, notIo_nil', slOk_un, slOk_val, slOk_own, slOk_pl, slOk_pd, notIos_nil, notIos_cons, qYes, qLc, qNext, qSeq, qBreak, qCont, qFrz, frz, qDrop, retG, qRet, qRetN, qIf, qSet, qOwn, qAsg, qFor, qMut, ownTy, gAppend, gExtend, gPop, isOwn, qSetIx, qCall, splitArgs, putOuts, setOwn, finOk, endsOf, mk, outsOf, uns,
  gAdd, gInt, gInt0, gEq, gNe, gIn, gNotIn, gIs, gIsNot, Px.isNon, gIx, getP, gLen, gAbs, gIntC, gSum, gMax, gMax2, gMax3, gMinT, gAll, gAny, gList, gTuple, gIsi, qNeg, qDict0, wipeE, lcGo_nil, br_t, br_f, atI_0, atI_1, atI_2, atI_3, ixN_0, ixN_1, ixN_2, ixN_3, List.length_map, List.length_set, cut_from1, isTy, tyN, gIsiT, asTys, gListD, keyP, isDic, qGet1, qGet2, qLZ, gZip, qPairs, mergeP, qDisp, gDictC, gStr, qChain, qPar, qAug, qMeth, tyIs, gIndex, qLcK, qDc, qDcK, dicAt, qForK, qZipI, qCallB, qCallF, splitB, qTake, tkEnds, tkRt, tkBack, Px.isN, isNst, gIxN, gPop0, gInsert, qSetSeed, qStep, qPar3, qLcO, lcoK, stEnds, stGo, immS, Px.imm, endsLaw, Option.isSome_some, Option.isSome_none, isEmp_concat, List.getLast?_concat, List.dropLast_concat, List.isEmpty_nil, gEqX, gNeX, List.any_cons, List.any_nil, tyOk_str, tyOk_tuple, tyOk_int, tyOk_bool, tyOk_list, tyOk_dict, Option.map_some, Option.map_none,
  eqOk_str, eqOk_int, eqOk_bl, eqOk_non, eqOkW_str, eqOkW_int, eqOkW_bl, eqOkW_non, gEqW, gNeW, qVals, ownDic, qLc2, gLtX, gGtX, gSortX, peq_str, peq_int, peq_bl, List.getElem?_cons_zero, List.getElem?_cons_succ, List.getElem?_nil, List.set_cons_zero, List.set_cons_succ, List.zipWith_cons_cons, List.zipWith_nil_left, List.replicate_succ, List.replicate_zero, List.cons_append, List.nil_append, List.length_cons, List.length_nil, List.map_cons, List.map_nil, ↓reduceIte, Bool.false_eq_true, and_true, true_and, Bool.not_true, Bool.not_false, Nat.reduceAdd, Nat.reduceLT, Nat.reduceLeDiff, Nat.zero_lt_succ, Nat.lt_add_one, ne_eq, not_true_eq_false, not_false_eq_true, String.reduceEq, String.reduceBEq, Bool.or_false, Bool.false_or, Bool.or_true, Bool.true_or, Bool.and_false, Bool.and_true, Bool.false_and, Bool.true_and, reduceCtorEq])
def famP : List PV := [.str (Str.ofString "Fa"), .str (Str.ofString "Fb"), .str (Str.ofString "Fc"), .str (Str.ofString "Fd")]
theorem fam_cut {m : Int} (h0 : 0 ≤ m) (h1 : m < 3) : ∃ fs : List Str, cutP famP none (some (2 + m)) = fs.map PV.str ∧ fs ≠ [] ∧ fs.length ≤ 4 ∧ fs.Nodup := by
  have h : m = 0 ∨ m = 1 ∨ m = 2 := by omega
  rcases h with rfl | rfl | rfl
  · exact ⟨[Str.ofString "Fa", Str.ofString "Fb"], rfl, by simp, by simp, by decide⟩
  · exact ⟨[Str.ofString "Fa", Str.ofString "Fb", Str.ofString "Fc"], rfl, by simp, by simp, by decide⟩
  · exact ⟨[Str.ofString "Fa", Str.ofString "Fb", Str.ofString "Fc", Str.ofString "Fd"], rfl, by simp, by simp, by decide⟩
def mkP : List PV := [.tup [.str (Str.ofString "z"), .int 0], .tup [.str (Str.ofString "s"), .int 1], .tup [.str (Str.ofString "p"), .int 2], .tup [.str (Str.ofString "o"), .int 0]]
def S_table : FS := { io := [true], pre := fun ps => ∃ d, ps = [d] ∧ NsOk d, post := fun _ r outs => ∃ mk fs rows d', r = encTb mk (.tup (fs.map PV.str)) rows ∧ TabOk rows ∧ fs ≠ [] ∧ fs.length ≤ 4 ∧ fs.Nodup ∧ outs = [d'] ∧ NsOk d' }
theorem table_i {ρ : En} {j : Nat} {b : Bool} {d : PV} {Q : PK1} {dm : Dum Q} (h : ρ[j]? = some (Sl.own b d)) (hd : NsOk d) (k : ∀ mk fs rows d', NsOk d' → TabOk rows → fs ≠ [] → fs.length ≤ 4 → fs.Nodup → Q (.pv (encTb mk (.tup (fs.map PV.str)) rows)) (setOwn ρ j d')) : callR S_table [.sl j] ρ Q dm := by
  refine call_1 (j := j) (ps := [d]) (by simp [S_table, splitArgs, h]) rfl ⟨d, rfl, hd⟩ fun r d' hp => ?_
  obtain ⟨mk, fs, rows, d2, rfl, tk, h1, h2, h3, e, hd'⟩ := hp
  cases e
  exact k mk fs rows d' hd' tk h1 h2 h3
def Kw (n : Nat) : Str := Str.ofString "K" ++ ((toString ((n : Nat) : Int) : String) : Str)
theorem kw_facts : ∀ n < 12, ((n : Nat) : Int).natAbs.log2 < 1920 ∧ sOk ((toString ((n : Nat) : Int) : String) : Str) = true ∧ (Str.ofString "K").length + ((toString ((n : Nat) : Int) : String) : Str).length ≤ 10 ∧ Kw n ≠ Str.ofString "Other" := by decide +kernel
theorem kw_nd : ((List.range 12).map Kw).Nodup := by decide +kernel
structure TabI (rows : List Rw) (k : Nat) : Prop where
  row : ∀ r ∈ rows, RowOk r
  w : rows.map (·.w) = (List.range rows.length).map Kw
  len : rows.length ≤ k
theorem TabI.ok {rows : List Rw} (h : TabI rows 12) (ne : rows ≠ []) : TabOk rows := by
  have l := h.len
  refine ⟨h.row, ?_, fun r hr e => ?_, by omega, ne⟩
  · rw [h.w]
    exact List.Nodup.sublist (List.Sublist.map _ (List.range_sublist.mpr l)) kw_nd
  · have : r.w ∈ rows.map (·.w) := List.mem_map.mpr ⟨r, hr, rfl⟩
    rw [h.w] at this
    obtain ⟨n, hn, e2⟩ := List.mem_map.mp this
    rw [List.mem_range] at hn
    exact (kw_facts n (by omega)).2.2.2 (by rw [e2, e])
theorem TabI.add {rows : List Rw} {k : Nat} (h : TabI rows k) {f : Str} {x : Sh} (hx : rowB (x.1.map (·.2)) x.2 = true) : TabI (rows ++ [rwSh (Kw rows.length) f x]) (k + 1) := by
  have := h.len
  refine ⟨fun r hr => ?_, ?_, by simp; omega⟩
  · rcases List.mem_append.mp hr with hr | hr
    · exact h.row r hr
    · rw [List.mem_singleton.mp hr]; exact rowB_ok hx
  · rw [List.map_append, h.w, List.length_append, List.length_singleton, List.range_succ, List.map_append]; rfl
theorem TabI.mono {rows : List Rw} {a b : Nat} (h : TabI rows a) (l : a ≤ b) : TabI rows b := ⟨h.row, h.w, Nat.le_trans h.len l⟩
section
variable {P : Program} {w : World} {K : PySem.W.Frag} {mg : Str → Option Value} {base : Heap}
theorem ok_table (T : Txt K mg) : Has P w K mg base "_law_table" 3 ["state"] S_table := by
  refine dv__law_table T ((ok_draw T).mono (by omega)) ((ok_shape T).mono (by omega)) (ok_pick T) S_table rfl fun pvs lp pre => ?_
  obtain ⟨d, rfl, hd⟩ := pre
  unfold rd__law_table S_table
  walk_at "px"
  refine ⟨small_of (by decide), small_of (by decide), small_of (by decide), small_of (by decide), small_of (by decide), small_of (by decide), draw_i rfl hd (by decide) (by decide) fun m d1 hd1 m0 m1 => ?_⟩
  have hv : ∃ v : Int, atI [PV.int 2, PV.int 2, PV.int 4] m = some (.int v) := by
    have h : m = 0 ∨ m = 1 ∨ m = 2 := by omega
    rcases h with rfl | rfl | rfl
    · exact ⟨2, rfl⟩
    · exact ⟨2, rfl⟩
    · exact ⟨4, rfl⟩
  obtain ⟨v, hv⟩ := hv
  walk_at "px"
  rw [hv]
  walk_at "px"
  generalize cutP _ none (some v) = mkl
  refine ⟨small_of (by decide), draw_i rfl hd1 (by decide) (by decide) fun m d1 hd1 m0 m1 => ?_⟩
  walk_at "px"
  obtain ⟨fs, ef, nef, lf, ndf⟩ := fam_cut m0 m1
  unfold famP at ef
  rw [ef]
  refine ⟨small_of (by decide), ?_⟩
  refine for_ind (fun qs ρ => ∃ (done left : List Str) (rows : List Rw) (d : PV) (o4 o5 o6 o7 : Option PV), fs = done ++ left ∧ qs = left.map PV.str ∧ TabI rows (3 * done.length) ∧ (done ≠ [] → rows ≠ []) ∧ NsOk d ∧ ρ = [.own true d, .val (.tup mkl), .val (.lst (fs.map PV.str)), .own false (.lst (rows.map encRw)), plS o4, plS o5, plS o6, plS o7]) ?_ ?_ _ _ ⟨[], fs, [], d1, none, none, none, none, rfl, rfl, ⟨fun r h => by simp at h, rfl, Nat.le_refl _⟩, fun h => absurd rfl h, hd1, rfl⟩
  · rintro ρ ⟨done, left, rows, d, o4, o5, o6, o7, e, e2, ti, ne, hd, rfl⟩
    have e3 : left = [] := by cases left with
      | nil => rfl
      | cons _ _ => simp at e2
    subst e3
    rw [List.append_nil] at e
    subst e
    have ti2 := ti.mono (b := 12) (by omega)
    have lr := ti2.len
    walk_at "px"
    exact ⟨small_of (by decide), _, fs, rows, d, rfl, ti2.ok (ne nef), nef, lf, ndf, rfl, hd⟩
  · rintro p ps ρ ⟨done, left, rows, d, o4, o5, o6, o7, e, e2, ti, ne, hd, rfl⟩ N ih
    cases left with
    | nil => simp at e2
    | cons own left =>
      simp only [List.map_cons, List.cons.injEq] at e2
      obtain ⟨rfl, rfl⟩ := e2
      have lfs := congrArg List.length e
      simp only [List.length_append, List.length_cons] at lfs
      walk_at "px"
      refine draw_i rfl hd (by decide) (by decide) fun kd d2 hd2 k0 k1 => ?_
      have fne : items (.lst (fs.map PV.str)) ≠ [] := fun h => nef (List.map_eq_nil_iff.mp h)
      have fln : (items (.lst (fs.map PV.str))).length < 1000000 := by show (fs.map PV.str).length < _; rw [List.length_map]; omega
      have go : ∀ (o : Option PV) (l : List Sh) (d3 : PV), NsOk d3 → (1 ≤ l.length ∧ l.length ≤ 3) → (∀ x ∈ l, rowB (x.1.map (·.2)) x.2 = true) → ∀ D : PEnds, D.nx = N → forGo (qgT 2 (qgCons (qgN 6) (qgCons (qgN 7) qgNil)))
          (qDrop (qMut "list" 3 gAppend (qCons (qTup (qCons (qOp2 gAdd (qK (PV.str (Str.ofString "K"))) (qCB gStr (qCons (qCB gLen (qCons (qVar 3) qNil)) qNil))) (qCons (qVar 6) (qCons (qVar 4) (qCons (qVar 7) qNil))))) qNil)))
          D (l.map encSh) [.own true d3, .val (.tup mkl), .val (.lst (fs.map PV.str)), .own false (.lst (rows.map encRw)), .val (.str own), plS o, plS o6, plS o7] := by
        intro o l d3 hd3 ll hb D hD
        refine for_ind (fun qs ρ => ∃ (dn lf : List Sh) (r2 : List Rw) (o6 o7 : Option PV), l = dn ++ lf ∧ qs = lf.map encSh ∧ TabI r2 (3 * done.length + dn.length) ∧ (dn ≠ [] → r2 ≠ []) ∧ ρ = [.own true d3, .val (.tup mkl), .val (.lst (fs.map PV.str)), .own false (.lst (r2.map encRw)), .val (.str own), plS o, plS o6, plS o7]) ?_ ?_ _ _ ⟨[], l, rows, o6, o7, rfl, rfl, ti, fun h => absurd rfl h, rfl⟩
        · rintro ρ ⟨dn, lf, r2, o6, o7, e, e2, ti, ne, rfl⟩
          have e3 : lf = [] := by cases lf with
            | nil => rfl
            | cons _ _ => simp at e2
          subst e3
          rw [List.append_nil] at e
          subst e
          rw [hD]
          exact ih _ ⟨done ++ [own], left, r2, d3, some _, o, o6, o7, by rw [‹fs = _›]; simp, rfl, ti.mono (by simp only [List.length_append, List.length_singleton]; omega), fun _ => ne (fun z => by rw [z] at ll; simp at ll), hd3, rfl⟩
        · rintro p ps ρ ⟨dn, lf, r2, o6, o7, e, e2, ti, ne, rfl⟩ N2 ih2
          cases lf with
          | nil => simp at e2
          | cons x lf =>
            simp only [List.map_cons, List.cons.injEq] at e2
            obtain ⟨rfl, rfl⟩ := e2
            have ll2 := congrArg List.length e
            simp only [List.length_append, List.length_cons] at ll2
            have l2 := ti.len
            obtain ⟨k1, k2, k3, _⟩ := kw_facts r2.length (by omega)
            unfold encSh
            walk_at "px"
            exact ⟨k1, k2, small_of (by omega), small_of (by decide), small_of (by omega), ih2 _ ⟨dn ++ [x], lf, r2 ++ [rwSh (Kw r2.length) own x], some _, some _, by rw [e]; simp, rfl, (ti.add (hb x (by rw [e]; simp))).mono (by simp only [List.length_append, List.length_singleton]; omega), fun _ => by simp, by rw [List.map_append]; rfl⟩⟩
      walk_at "px"
      refine ⟨fun _ => ⟨small_of (by decide), ⟨rfl, by decide⟩, fun _ => ?_, fun _ => ?_⟩, fun _ => ?_⟩
      all_goals
        refine pick_i rfl hd2 trivial fne fln fun r1 d3 hd3 hr1 => ?_
        obtain ⟨f1, _, rfl⟩ := List.mem_map.mp hr1
        walk_at "px"
        refine pick_i rfl hd3 trivial fne fln fun r2 d4 hd4 hr2 => ?_
        obtain ⟨f2, _, rfl⟩ := List.mem_map.mp hr2
        walk_at "px"
        refine shape_i fun l ll hb => ?_
        walk_at "px"
        exact go (some _) l d4 hd4 ll hb _ rfl
end

end Lw
set_option maxHeartbeats 4000000
namespace Lw
open PySem L2 PyProof.Rows Px
local macro_rules | `(tactic| walk_at "px") => `(tactic| simp -dsimp only [qVar, qK, qNil, qCons, qTup, qLst, vals, looks, R.look, R.wk, qCB, qB, qOp2, qTru, truG, qAnd, qOr, qNot, qAndV, qOrV, qNotV, qIfE, qNo, qPart, qSl, gSl, qIt, qRng1, qRng2, qgN, qgNil, qgCons, qgT, notIo_zero, notIo_succ, notIo_nil', slOk_un, slOk_val, slOk_own, slOk_pl, slOk_pd, notIos_nil, notIos_cons, qYes, qLc, qNext, qSeq, qBreak, qCont, qFrz, frz, qDrop, retG, qRet, qRetN, qIf, qSet, qOwn, qAsg, qFor, qMut, ownTy, gAppend, gExtend, gPop, isOwn, qSetIx, qCall, splitArgs, putOuts, setOwn, finOk, endsOf, mk, outsOf, uns,
  gAdd, gInt, gInt0, gEq, gNe, gIn, gNotIn, gIs, gIsNot, Px.isNon, gIx, getP, gLen, gAbs, gIntC, gSum, gMax, gMax2, gMax3, gMinT, gAll, gAny, gList, gTuple, gIsi, qNeg, qDict0, wipeE, lcGo_nil, br_t, br_f, atI_0, atI_1, atI_2, atI_3, ixN_0, ixN_1, ixN_2, ixN_3, List.length_map, List.length_set, cut_from1, isTy, tyN, gIsiT, asTys, gListD, keyP, isDic, qGet1, qGet2, qLZ, gZip, qPairs, mergeP, qDisp, gDictC, gStr, qChain, qPar, qAug, qMeth, tyIs, gIndex, qLcK, qDc, qDcK, dicAt, qForK, qZipI, qCallB, qCallF, splitB, qTake, tkEnds, tkRt, tkBack, Px.isN, isNst, gIxN, gPop0, gInsert, qSetSeed, qStep, qPar3, qLcO, lcoK, stEnds, stGo, immS, Px.imm, endsLaw, Option.isSome_some, Option.isSome_none, isEmp_concat, List.getLast?_concat, List.dropLast_concat, List.isEmpty_nil, gEqX, gNeX, List.any_cons, List.any_nil, tyOk_str, tyOk_tuple, tyOk_int, tyOk_bool, tyOk_list, tyOk_dict, Option.map_some, Option.map_none,
  eqOk_str, eqOk_int, eqOk_bl, eqOk_non, eqOkW_str, eqOkW_int, eqOkW_bl, eqOkW_non, gEqW, gNeW, qVals, ownDic, qLc2, gLtX, gGtX, gSortX, peq_str, peq_int, peq_bl, List.getElem?_cons_zero, List.getElem?_cons_succ, List.getElem?_nil, List.set_cons_zero, List.set_cons_succ, List.zipWith_cons_cons, List.zipWith_nil_left, List.replicate_succ, List.replicate_zero, List.cons_append, List.nil_append, List.length_cons, List.length_nil, List.map_cons, List.map_nil, ↓reduceIte, Bool.false_eq_true, and_true, true_and, Bool.not_true, Bool.not_false, Nat.reduceAdd, Nat.reduceLT, Nat.reduceLeDiff, Nat.zero_lt_succ, Nat.lt_add_one, ne_eq, not_true_eq_false, not_false_eq_true, String.reduceEq, String.reduceBEq, Bool.or_false, Bool.false_or, Bool.or_true, Bool.true_or, Bool.and_false, Bool.and_true, Bool.false_and, Bool.true_and, reduceCtorEq])
theorem map_cons_inv {α β : Type} {f : α → β} {q : β} {qs : List β} {rest : List α} (h : q :: qs = rest.map f) : ∃ t r, rest = t :: r ∧ q = f t ∧ qs = r.map f := by
  cases rest with
  | nil => cases h
  | cons t r => rw [List.map_cons] at h; injection h with h1 h2; exact ⟨t, r, rfl, h1, h2⟩
theorem nodrop {α : Type} {rest : List α} {β : Type} {f : α → β} (e : [] = rest.map f) : rest = [] := by cases rest with | nil => rfl | cons _ _ => cases e
theorem cut_to {α : Type} (xs : List α) (k : Nat) : cutP xs none (some (k : Int)) = xs.take k := by
  unfold cutP
  have e1 : HT.sIx xs.length xs.length (some (k : Int)) = min k xs.length := by rw [HT.sIx_nat]
  have e2 : HT.sIx xs.length 0 none = 0 := rfl
  rw [e1, e2]
  simp only [List.drop_zero, Nat.sub_zero]
  by_cases h : k ≤ xs.length
  · rw [Nat.min_eq_left h]
  · rw [Nat.min_eq_right (by omega), List.take_length, List.take_of_length_le (by omega)]
mutual
theorem raw_gd {rows : List Rw} (tk : TabOk rows) : ∀ v : PV, isRaw rows v = true → gd v = true ∧ tsh v = true
  | .tup [], h => by simp [isRaw] at h
  | .tup (p :: ps), h => by
    cases p with
    | str s =>
      rw [isRaw, Bool.and_eq_true] at h
      obtain ⟨h1, h2⟩ := raws_gd tk ps h.2
      have hl : ps.length ≤ 2 := by
        cases e : findR rows s with
        | none => rw [e] at h; cases h.1
        | some r =>
          rw [e] at h
          have e2 : ps.length = r.ps.length := by simpa using h.1
          have := (tk.row r (findR_mem e).1).len
          omega
      refine ⟨?_, by rw [tsh, h2]; rfl⟩
      rw [gd, gds, gd, h1]
      simp only [List.length_cons, Bool.and_true, decide_eq_true_eq]
      omega
    | _ => simp [isRaw] at h
  | .str _, h => by simp [isRaw] at h
  | .lst _, h => by simp [isRaw] at h
  | .scr _, h => by simp [isRaw] at h
  | .nst _ _ _, h => by simp [isRaw] at h
  | .ty _, h => by simp [isRaw] at h
  | .non, h => by simp [isRaw] at h
  | .bl _, h => by simp [isRaw] at h
  | .int _, h => by simp [isRaw] at h
  | .dic _ _, h => by simp [isRaw] at h
theorem raws_gd {rows : List Rw} (tk : TabOk rows) : ∀ ps : List PV, isRaws rows ps = true → gds ps = true ∧ tshs ps = true
  | [], _ => by rw [gds, tshs]; exact ⟨rfl, rfl⟩
  | p :: ps, h => by
    rw [isRaws, Bool.and_eq_true] at h
    obtain ⟨h1, h2⟩ := raw_gd tk p h.1
    obtain ⟨g1, g2⟩ := raws_gd tk ps h.2
    rw [gds, tshs, h1, h2, g1, g2]; exact ⟨rfl, rfl⟩
end
/-- what is found at its own word -/
theorem find_own {rows : List Rw} (tk : TabOk rows) {r : Rw} (h : r ∈ rows) : findR rows r.w = some r := by
  have nd := tk.nd
  clear tk
  unfold findR
  induction rows with
  | nil => cases h
  | cons x rows ih =>
    rw [List.map_cons, List.nodup_cons] at nd
    rw [List.find?_cons]
    rcases List.mem_cons.mp h with rfl | h
    · simp
    · have ne : (x.w == r.w) = false := by
        rw [beq_eq_false_iff_ne]
        intro z
        exact nd.1 (List.mem_map.mpr ⟨r, h, z.symm⟩)
      rw [ne]
      exact ih h nd.2
def PtOk (rows : List Rw) (n j : Nat) (l : List PV) : Prop := l.length = j ∧ ∀ p ∈ l, isRaw rows p = true ∧ dep p ≤ n
theorem pt_raw {rows : List Rw} (tk : TabOk rows) {r : Rw} (h : r ∈ rows) {n : Nat} {l : List PV} (p : PtOk rows n r.ps.length l) : isRaw rows (.tup (.str r.w :: l)) = true ∧ dep (.tup (.str r.w :: l)) ≤ n + 1 := by
  refine ⟨isRaw_mk (find_own tk h) p.1 ((isRaws_iff rows l).mpr fun q hq => (p.2 q hq).1), ?_⟩
  have : deps l ≤ n := (deps_le l).mpr fun q hq => (p.2 q hq).2
  rw [dep, deps, dep]; omega
theorem state_i {ρ : En} {ns : List Int} {Q : PK1} {dm : Dum Q} (hl : ns.length ≤ 63) (k : ∀ (ms : List Int) (s : Int), (∀ n ∈ ms, 0 ≤ n) → Q (.fr (.lst [.lst (ms.map PV.int), .int s])) ρ) : callR sState [.pv (.scr ns)] ρ Q dm := by
  refine call_i (ps := [.scr ns]) (js := []) rfl List.nodup_nil ⟨ns, rfl, hl⟩ fun r outs hp l => ?_
  have e : outs = [] := List.length_eq_zero_iff.mp l
  subst e
  obtain ⟨ms, s, rfl, nn⟩ := hp
  exact k ms s nn
/-- one drawn of an own list -/
theorem pickB_i {ρ : En} {j m : Nat} {b : Bool} {d : PV} {row : List PV} {Q : PK1} {dm : Dum Q} (h : ρ[j]? = some (Sl.own b d)) (h2 : ρ[m]? = some (Sl.own false (.lst row))) (ne : m ≠ j) (hd : NsOk d) (hn : row ≠ []) (hl : row.length < 1000000) (im : ∀ r ∈ row, Px.imm r = true) (k : ∀ r d', NsOk d' → r ∈ row → Q (.pv r) (setOwn ρ j d')) : callRB S_pick [.sl j, .sl m] ρ Q dm := by
  have e : splitB ρ S_pick.io [.sl j, .sl m] = some ([d, .lst row], [j], [m]) := by simp [S_pick, splitB, h, h2]
  unfold callRB
  rw [e]
  refine ⟨⟨by simp, fun x hx => ?_, rfl⟩, ⟨d, .lst row, rfl, trivial, hd, hn, hl⟩, fun r outs hp l => ?_⟩
  · have := List.mem_singleton.mp hx
    subst this
    simp; exact ne
  · obtain ⟨d2, rfl, hd', hm⟩ := hp
    have hr := hm _ _ rfl
    refine ⟨⟨im r hr, fun q hq => ?_⟩, k r d2 hd' hr⟩
    rw [List.mem_singleton.mp hq]
    obtain ⟨c, s, rfl⟩ := hd'
    rfl
/-- .. of a list that is looked at alone -/
theorem pickB_v {ρ : En} {j : Nat} {b : Bool} {d : PV} {row : List PV} {Q : PK1} {dm : Dum Q} (h : ρ[j]? = some (Sl.own b d)) (hd : NsOk d) (hn : row ≠ []) (hl : row.length < 1000000) (k : ∀ r d', NsOk d' → r ∈ row → Q (.pv r) (setOwn ρ j d')) : callRB S_pick [.sl j, .pv (.lst row)] ρ Q dm := by
  have e : splitB ρ S_pick.io [.sl j, .pv (.lst row)] = some ([d, .lst row], [j], []) := by simp [S_pick, splitB, h]
  unfold callRB
  rw [e]
  refine ⟨by simp, ⟨d, .lst row, rfl, trivial, hd, hn, hl⟩, fun r outs hp l => ?_⟩
  obtain ⟨d2, rfl, hd', hm⟩ := hp
  exact k r d2 hd' (hm _ _ rfl)
def VlOk (rows : List Rw) (n : Nat) (v : PV) : Prop := isRaw rows v = true ∧ dep v ≤ n

end Lw
set_option maxHeartbeats 4000000
namespace Lw
open PySem L2 PyProof.Rows Px
def pl : List Str → Str → Nat
  | [], _ => 0
  | w :: r, s => if w = s then 0 else pl r s + 1
mutual
/-- a raw value as numbers: their order is that of the values -/
def ser (ws : List Str) : PV → List Nat
  | .tup [] => []
  | .tup (p :: ps) => match p with
    | .str s => (1 + szVs ps).toNat :: pl ws s :: sers ws ps
    | _ => []
  | .str _ => []
  | .lst _ => []
  | .scr _ => []
  | .nst _ _ _ => []
  | .ty _ => []
  | .non => []
  | .bl _ => []
  | .int _ => []
  | .dic _ _ => []
def sers (ws : List Str) : List PV → List Nat
  | [] => []
  | p :: ps => ser ws p ++ sers ws ps
end
def wsO (rows : List Rw) : List Str := rows.map (·.w)
def ltV (rows : List Rw) (a b : PV) : Bool := decide (ser (wsO rows) a < ser (wsO rows) b)
def S_bef (n : Nat) : FS := { io := [false, false, false], pre := fun ps => ∃ (mk fm : PV) (rows : List Rw) (a b : PV), ps = [encTb mk fm rows, a, b] ∧ TabOk rows ∧ isRaw rows a = true ∧ isRaw rows b = true ∧ dep a < n ∧ dep a ≤ 25 ∧ dep b ≤ 25, post := fun ps r _ => ∀ (mk fm : PV) (rows : List Rw) (a b : PV), ps = [encTb mk fm rows, a, b] → r = .bl (ltV rows a b) }
theorem S_bef_fr (n : Nat) : (S_bef n).fr = false := rfl
theorem S_bef_io (n : Nat) : (S_bef n).io = [false, false, false] := rfl
local macro_rules | `(tactic| walk_at "px") => `(tactic| simp -dsimp only [qVar, qK, qNil, qCons, qTup, qLst, vals, looks, R.look, R.wk, qCB, qB, qOp2, qTru, truG, qAnd, qOr, qNot, qAndV, qOrV, qNotV, qIfE, qNo, qPart, qSl, gSl, qIt, qRng1, qRng2, qgN, qgNil, qgCons, qgT, notIo_zero, notIo_succ, notIo_nil', slOk_un, slOk_val, slOk_own, slOk_pl, slOk_pd, notIos_nil, notIos_cons, qYes, qLc, qNext, qSeq, qBreak, qCont, qFrz, frz, qDrop, retG, qRet, qRetN, qIf, qSet, qOwn, qAsg, qFor, qMut, ownTy, gAppend, gExtend, gPop, isOwn, qSetIx, qCall, splitArgs, putOuts, setOwn, finOk, endsOf, mk, outsOf, uns,
  gAdd, gInt, gInt0, gEq, gNe, gIn, gNotIn, gIs, gIsNot, Px.isNon, gIx, getP, gLen, gAbs, gIntC, gSum, gMax, gMax2, gMax3, gMinT, gAll, gAny, gList, gTuple, gIsi, qNeg, qDict0, wipeE, lcGo_nil, br_t, br_f, atI_0, atI_1, atI_2, atI_3, ixN_0, ixN_1, ixN_2, ixN_3, List.length_map, List.length_set, cut_from1, isTy, tyN, gIsiT, asTys, gListD, keyP, isDic, qGet1, qGet2, qLZ, gZip, qPairs, mergeP, qDisp, gDictC, gStr, qChain, qPar, qAug, qMeth, tyIs, gIndex, qLcK, qDc, qDcK, dicAt, qForK, qZipI, qCallB, qCallF, splitB, qTake, tkEnds, tkRt, tkBack, Px.isN, isNst, gIxN, gPop0, gInsert, qSetSeed, qStep, qPar3, qLcO, lcoK, stEnds, stGo, immS, Px.imm, endsLaw, Option.isSome_some, Option.isSome_none, isEmp_concat, List.getLast?_concat, List.dropLast_concat, List.isEmpty_nil, gEqX, gNeX, List.any_cons, List.any_nil, tyOk_str, tyOk_tuple, tyOk_int, tyOk_bool, tyOk_list, tyOk_dict, Option.map_some, Option.map_none,
  eqOk_str, eqOk_int, eqOk_bl, eqOk_non, eqOkW_str, eqOkW_int, eqOkW_bl, eqOkW_non, gEqW, gNeW, qVals, ownDic, qLc2, gLtX, gGtX, gSortX, peq_str, peq_int, peq_bl, List.getElem?_cons_zero, List.getElem?_cons_succ, List.getElem?_nil, List.set_cons_zero, List.set_cons_succ, List.zipWith_cons_cons, List.zipWith_nil_left, List.replicate_succ, List.replicate_zero, List.cons_append, List.nil_append, List.length_cons, List.length_nil, List.map_cons, List.map_nil, ↓reduceIte, Bool.false_eq_true, and_true, true_and, Bool.not_true, Bool.not_false, Nat.reduceAdd, Nat.reduceLT, Nat.reduceLeDiff, Nat.zero_lt_succ, Nat.lt_add_one, ne_eq, not_true_eq_false, not_false_eq_true, String.reduceEq, String.reduceBEq, Bool.or_false, Bool.false_or, Bool.or_true, Bool.true_or, Bool.and_false, Bool.and_true, Bool.false_and, Bool.true_and, reduceCtorEq, S_bef_fr, S_bef_io, S_size_fr, S_size_io])
theorem bef_i {n : Nat} {ρ : En} {mk fm : PV} {rows : List Rw} {a b : PV} {Q : PK1} {dm : Dum Q} (tk : TabOk rows) (ha : isRaw rows a = true) (hb : isRaw rows b = true) (hd : dep a < n) (h1 : dep a ≤ 25) (h2 : dep b ≤ 25) (k : Q (.pv (.bl (ltV rows a b))) ρ) : callR (S_bef n) [.pv (encTb mk fm rows), .pv a, .pv b] ρ Q dm :=
  call_p (ps := [encTb mk fm rows, a, b]) rfl rfl ⟨mk, fm, rows, a, b, rfl, tk, ha, hb, hd, h1, h2⟩ fun r hp => by rw [hp _ _ _ _ _ rfl]; exact k
theorem pl_inj : ∀ {ws : List Str} {s t : Str}, s ∈ ws → t ∈ ws → pl ws s = pl ws t → s = t
  | [], _, _, h, _, _ => by cases h
  | w :: ws, s, t, hs, ht, h => by
    rw [pl, pl] at h
    by_cases e1 : w = s
    · by_cases e2 : w = t
      · rw [← e1, e2]
      · rw [if_pos e1, if_neg e2] at h; omega
    · by_cases e2 : w = t
      · rw [if_neg e1, if_pos e2] at h; omega
      · rw [if_neg e1, if_neg e2] at h
        exact pl_inj ((List.mem_cons.mp hs).resolve_left fun z => e1 z.symm) ((List.mem_cons.mp ht).resolve_left fun z => e2 z.symm) (by omega)
theorem idxP_pl : ∀ {ws : List Str} {s : Str}, s ∈ ws → idxP (.str s) (ws.map PV.str) = some (pl ws s)
  | [], _, h => by cases h
  | w :: ws, s, h => by
    rw [List.map_cons, idxP, peq_str, pl]
    by_cases e : w = s
    · simp [e]
    · have : (w == s) = false := by simpa using e
      rw [this, if_neg e, idxP_pl ((List.mem_cons.mp h).resolve_left fun z => e z.symm)]
      simp
mutual
theorem szV_pos {rows : List Rw} : ∀ v : PV, isRaw rows v = true → 1 ≤ szV v
  | .tup [], h => by simp [isRaw] at h
  | .tup (p :: ps), h => by
    have h2 : isRaws rows ps = true := by
      obtain ⟨s, ps', r, e, _, _, h3⟩ := isRaw_cases h
      cases e; exact h3
    have := szVs_nn ps h2
    rw [szV]; omega
  | .str _, h => by simp [isRaw] at h
  | .lst _, h => by simp [isRaw] at h
  | .scr _, h => by simp [isRaw] at h
  | .nst _ _ _, h => by simp [isRaw] at h
  | .ty _, h => by simp [isRaw] at h
  | .non, h => by simp [isRaw] at h
  | .bl _, h => by simp [isRaw] at h
  | .int _, h => by simp [isRaw] at h
  | .dic _ _, h => by simp [isRaw] at h
theorem szVs_nn {rows : List Rw} : ∀ ps : List PV, isRaws rows ps = true → 0 ≤ szVs ps
  | [], _ => by rw [szVs]; omega
  | p :: ps, h => by
    rw [isRaws, Bool.and_eq_true] at h
    have := szV_pos p h.1
    have := szVs_nn ps h.2
    rw [szVs]; omega
end
theorem ser_tup (ws : List Str) (s : Str) (ps : List PV) : ser ws (.tup (.str s :: ps)) = (szV (.tup (.str s :: ps))).toNat :: pl ws s :: sers ws ps := by rw [ser, szV]
mutual
theorem ser_len {rows : List Rw} (ws : List Str) : ∀ v : PV, isRaw rows v = true → ((ser ws v).length : Int) = 2 * szV v
  | .tup [], h => by simp [isRaw] at h
  | .tup (p :: ps), h => by
    cases p with
    | str s =>
      rw [isRaw, Bool.and_eq_true] at h
      have := sers_len ws ps h.2
      rw [ser_tup, szV, List.length_cons, List.length_cons]
      omega
    | _ => simp [isRaw] at h
  | .str _, h => by simp [isRaw] at h
  | .lst _, h => by simp [isRaw] at h
  | .scr _, h => by simp [isRaw] at h
  | .nst _ _ _, h => by simp [isRaw] at h
  | .ty _, h => by simp [isRaw] at h
  | .non, h => by simp [isRaw] at h
  | .bl _, h => by simp [isRaw] at h
  | .int _, h => by simp [isRaw] at h
  | .dic _ _, h => by simp [isRaw] at h
theorem sers_len {rows : List Rw} (ws : List Str) : ∀ ps : List PV, isRaws rows ps = true → ((sers ws ps).length : Int) = 2 * szVs ps
  | [], _ => by rw [sers, szVs]; rfl
  | p :: ps, h => by
    rw [isRaws, Bool.and_eq_true] at h
    have := ser_len ws p h.1
    have := sers_len ws ps h.2
    rw [sers, szVs, List.length_append]; omega
end
theorem ser_head {rows : List Rw} {ws : List Str} {v : PV} (h : isRaw rows v = true) : ∃ r, ser ws v = (szV v).toNat :: r := by
  obtain ⟨s, ps, r, rfl, _⟩ := isRaw_cases h
  exact ⟨_, ser_tup ws s ps⟩
theorem mem_wsO {rows : List Rw} {s : Str} {r : Rw} (h : findR rows s = some r) : s ∈ wsO rows := by
  obtain ⟨h1, h2⟩ := findR_mem h
  exact List.mem_map.mpr ⟨r, h1, h2⟩
mutual
theorem ser_inj {rows : List Rw} : ∀ (a b : PV), isRaw rows a = true → isRaw rows b = true → ser (wsO rows) a = ser (wsO rows) b → a = b
  | .tup [], _, h, _, _ => by simp [isRaw] at h
  | .tup (p :: ps), b, h, hb, e => by
    cases p with
    | str s =>
      obtain ⟨t, qs, r2, rfl, f2, l2, h2⟩ := isRaw_cases hb
      obtain ⟨s', ps', r1, e1, f1, l1, h1⟩ := isRaw_cases h
      cases e1
      rw [ser_tup, ser_tup] at e
      injection e with e1 e
      injection e with e2 e
      have est := pl_inj (mem_wsO f1) (mem_wsO f2) e2
      subst est
      rw [f1] at f2; cases f2
      rw [sers_inj ps qs (by omega) h1 h2 e]
    | _ => simp [isRaw] at h
  | .str _, _, h, _, _ => by simp [isRaw] at h
  | .lst _, _, h, _, _ => by simp [isRaw] at h
  | .scr _, _, h, _, _ => by simp [isRaw] at h
  | .nst _ _ _, _, h, _, _ => by simp [isRaw] at h
  | .ty _, _, h, _, _ => by simp [isRaw] at h
  | .non, _, h, _, _ => by simp [isRaw] at h
  | .bl _, _, h, _, _ => by simp [isRaw] at h
  | .int _, _, h, _, _ => by simp [isRaw] at h
  | .dic _ _, _, h, _, _ => by simp [isRaw] at h
theorem sers_inj {rows : List Rw} : ∀ (ps qs : List PV), ps.length = qs.length → isRaws rows ps = true → isRaws rows qs = true → sers (wsO rows) ps = sers (wsO rows) qs → ps = qs
  | [], [], _, _, _, _ => rfl
  | [], _ :: _, l, _, _, _ => by simp at l
  | _ :: _, [], l, _, _, _ => by simp at l
  | p :: ps, q :: qs, l, h, h', e => by
    rw [isRaws, Bool.and_eq_true] at h h'
    rw [sers, sers] at e
    obtain ⟨r1, e1⟩ := ser_head (ws := wsO rows) h.1
    obtain ⟨r2, e2⟩ := ser_head (ws := wsO rows) h'.1
    have eh : (szV p).toNat = (szV q).toNat := by
      rw [e1, e2, List.cons_append, List.cons_append] at e
      injection e
    have p1 := szV_pos p h.1
    have p2 := szV_pos q h'.1
    have l1 := ser_len (wsO rows) p h.1
    have l2 := ser_len (wsO rows) q h'.1
    obtain ⟨e3, e4⟩ := List.append_inj e (by omega)
    rw [ser_inj p q h.1 h'.1 e3, sers_inj ps qs (by simpa using l) h.2 h'.2 e4]
end
theorem lt_cons {a b : Nat} {x y : List Nat} : a :: x < b :: y ↔ a < b ∨ a = b ∧ x < y := by
  rw [List.cons_lt_cons_iff]
theorem lt_same {u v : List Nat} : ∀ x : List Nat, (x ++ u < x ++ v ↔ u < v)
  | [] => Iff.rfl
  | a :: x => by
    rw [List.cons_append, List.cons_append, lt_cons, lt_same x]
    constructor
    · rintro (h | h)
      · omega
      · exact h.2
    · exact fun h => .inr ⟨rfl, h⟩
theorem lt_ne {u v : List Nat} : ∀ {x y : List Nat}, x.length = y.length → x ≠ y → (x ++ u < y ++ v ↔ x < y)
  | [], [], _, h => absurd rfl h
  | [], _ :: _, l, _ => by simp at l
  | _ :: _, [], l, _ => by simp at l
  | a :: x, b :: y, l, n => by
    rw [List.cons_append, List.cons_append, lt_cons, lt_cons]
    by_cases e : a = b
    · subst e
      have n' : x ≠ y := fun z => n (by rw [z])
      rw [lt_ne (by simpa using l) n']
    · constructor
      · rintro (h | h)
        · exact .inl h
        · exact absurd h.1 e
      · rintro (h | h)
        · exact .inl h
        · exact absurd h.1 e
theorem lt_part {rows : List Rw} {p q : PV} {u v : List Nat} (hp : isRaw rows p = true) (hq : isRaw rows q = true) (n : p ≠ q) : (ser (wsO rows) p ++ u < ser (wsO rows) q ++ v ↔ ser (wsO rows) p < ser (wsO rows) q) := by
  have n' : ser (wsO rows) p ≠ ser (wsO rows) q := fun e => n (ser_inj p q hp hq e)
  have l1 := ser_len (wsO rows) p hp
  have l2 := ser_len (wsO rows) q hq
  have p1 := szV_pos p hp
  have p2 := szV_pos q hq
  by_cases e : szV p = szV q
  · exact lt_ne (by omega) n'
  · obtain ⟨r1, e1⟩ := ser_head (ws := wsO rows) hp
    obtain ⟨r2, e2⟩ := ser_head (ws := wsO rows) hq
    rw [e1, e2, List.cons_append, List.cons_append, lt_cons, lt_cons]
    have ne : (szV p).toNat ≠ (szV q).toNat := by omega
    constructor
    · rintro (h | h)
      · exact .inl h
      · exact absurd h.1 ne
    · rintro (h | h)
      · exact .inl h
      · exact absurd h.1 ne
theorem ltV_size {rows : List Rw} {a b : PV} (ha : isRaw rows a = true) (hb : isRaw rows b = true) (n : szV a ≠ szV b) : ltV rows a b = decide (szV a < szV b) := by
  obtain ⟨r1, e1⟩ := ser_head (ws := wsO rows) ha
  obtain ⟨r2, e2⟩ := ser_head (ws := wsO rows) hb
  have p1 := szV_pos a ha
  have p2 := szV_pos b hb
  unfold ltV
  rw [e1, e2]
  congr 1
  rw [lt_cons]
  apply propext
  omega
theorem ltV_word {rows : List Rw} {s t : Str} {ps qs : List PV} (hs : s ∈ wsO rows) (ht : t ∈ wsO rows) (e : szV (.tup (.str s :: ps)) = szV (.tup (.str t :: qs))) (n : s ≠ t) : ltV rows (.tup (.str s :: ps)) (.tup (.str t :: qs)) = decide (((pl (wsO rows) s : Nat) : Int) < ((pl (wsO rows) t : Nat) : Int)) := by
  have n' : pl (wsO rows) s ≠ pl (wsO rows) t := fun z => n (pl_inj hs ht z)
  unfold ltV
  rw [ser_tup, ser_tup, e]
  congr 1
  rw [lt_cons, lt_cons]
  apply propext
  constructor
  · rintro (h | ⟨_, h | h⟩)
    · omega
    · omega
    · exact absurd h.1 n'
  · exact fun h => .inr ⟨rfl, .inl (by omega)⟩
theorem ltV_same {rows : List Rw} {s : Str} {ps qs : List PV} (e : szV (.tup (.str s :: ps)) = szV (.tup (.str s :: qs))) : ltV rows (.tup (.str s :: ps)) (.tup (.str s :: qs)) = decide (sers (wsO rows) ps < sers (wsO rows) qs) := by
  unfold ltV
  rw [ser_tup, ser_tup, e]
  congr 1
  rw [lt_cons, lt_cons]
  apply propext
  constructor
  · rintro (h | ⟨_, h | h⟩)
    · omega
    · omega
    · exact h.2
  · exact fun h => .inr ⟨rfl, .inr ⟨rfl, h⟩⟩
theorem sers_ne {rows : List Rw} {p q : PV} {ps qs : List PV} (hp : isRaw rows p = true) (hq : isRaw rows q = true) (n : p ≠ q) : decide (sers (wsO rows) (p :: ps) < sers (wsO rows) (q :: qs)) = ltV rows p q := by
  unfold ltV
  rw [sers, sers]
  congr 1
  exact propext (lt_part hp hq n)
theorem sers_eq {rows : List Rw} {p : PV} {ps qs : List PV} : decide (sers (wsO rows) (p :: ps) < sers (wsO rows) (p :: qs)) = decide (sers (wsO rows) ps < sers (wsO rows) qs) := by
  rw [sers, sers]
  congr 1
  exact propext (lt_same _)
def S_place : FS := { io := [false, false], pre := fun ps => ∃ (mk fm : PV) (rows : List Rw) (s : Str), ps = [encTb mk fm rows, .str s] ∧ rows.length ≤ 20 ∧ s ∈ wsO rows, post := fun ps r _ => ∀ (mk fm : PV) (rows : List Rw) (s : Str), ps = [encTb mk fm rows, .str s] → r = .int (pl (wsO rows) s : Nat) }
theorem place_i {ρ : En} {mk fm : PV} {rows : List Rw} {s : Str} {Q : PK1} {dm : Dum Q} (hl : rows.length ≤ 20) (h : s ∈ wsO rows) (k : Q (.pv (.int (pl (wsO rows) s : Nat))) ρ) : callR S_place [.pv (encTb mk fm rows), .pv (.str s)] ρ Q dm :=
  call_p (ps := [encTb mk fm rows, .str s]) rfl rfl ⟨mk, fm, rows, s, rfl, hl, h⟩ fun r hp => by rw [hp _ _ _ _ rfl]; exact k
section
variable {P : Program} {w : World} {K : PySem.W.Frag} {mg : Str → Option Value} {base : Heap}
theorem ok_place (T : Txt K mg) : Has P w K mg base "place_of" 1 ["table", "word"] S_place := by
  refine dv_place_of T S_place rfl fun pvs lp pre => ?_
  obtain ⟨mk, fm, rows, s, rfl, hl, hs⟩ := pre
  have told : S_place.post [encTb mk fm rows, .str s] (.int (pl (wsO rows) s : Nat)) [] := fun mk2 fm2 rows2 s2 e2 => by
    injection e2 with e3 e2; injection e2 with e4 _; injection e4 with e4
    rw [← encTb_inj e3, ← e4]
  unfold rd_place_of
  have ht0 : encTb mk fm rows = .tup [.str (Str.ofString "table"), mk, fm, .tup (rows.map encRw)] := rfl
  generalize hE : endsOf S_place _ = E
  have rt : ∀ ρ, E.rt (.pv (.int (pl (wsO rows) s : Nat))) ρ := fun ρ => by rw [← hE]; exact told
  show qRet _ E [.val (encTb mk fm rows), .val (.str s), .un]
  rw [ht0]
  walk_at "px"
  refine lcR_i (lc_mapT encRw (fun r => .str r.w) rows _ (by omega) ?_ fun x hx acc N sm k => ?_)
  · have e : rows.map (fun r => PV.str r.w) = (wsO rows).map PV.str := by unfold wsO; rw [List.map_map]; rfl
    rw [e]
    walk_at "px"
    refine ⟨eqOk_strs _, ?_⟩
    rw [idxP_pl hs]
    exact rt _
  · have er : encRw x = .tup [.str x.w, .tup (x.ps.map encPt), .str x.fam, x.ix] := rfl
    rw [er]
    walk_at "px"
    exact ⟨sm, k⟩
end

end Lw
set_option maxHeartbeats 4000000
namespace Lw
open PySem L2 PyProof.Rows Px
local macro_rules | `(tactic| walk_at "px") => `(tactic| simp -dsimp only [qVar, qK, qNil, qCons, qTup, qLst, vals, looks, R.look, R.wk, qCB, qB, qOp2, qTru, truG, qAnd, qOr, qNot, qAndV, qOrV, qNotV, qIfE, qNo, qPart, qSl, gSl, qIt, qRng1, qRng2, qgN, qgNil, qgCons, qgT, notIo_zero, notIo_succ, notIo_nil', slOk_un, slOk_val, slOk_own, slOk_pl, slOk_pd, notIos_nil, notIos_cons, qYes, qLc, qNext, qSeq, qBreak, qCont, qFrz, frz, qDrop, retG, qRet, qRetN, qIf, qSet, qOwn, qAsg, qFor, qMut, ownTy, gAppend, gExtend, gPop, isOwn, qSetIx, qCall, splitArgs, putOuts, setOwn, finOk, endsOf, mk, outsOf, uns,
  gAdd, gInt, gInt0, gEq, gNe, gIn, gNotIn, gIs, gIsNot, Px.isNon, gIx, getP, gLen, gAbs, gIntC, gSum, gMax, gMax2, gMax3, gMinT, gAll, gAny, gList, gTuple, gIsi, qNeg, qDict0, wipeE, lcGo_nil, br_t, br_f, atI_0, atI_1, atI_2, atI_3, ixN_0, ixN_1, ixN_2, ixN_3, List.length_map, List.length_set, cut_from1, isTy, tyN, gIsiT, asTys, gListD, keyP, isDic, qGet1, qGet2, qLZ, gZip, qPairs, mergeP, qDisp, gDictC, gStr, qChain, qPar, qAug, qMeth, tyIs, gIndex, qLcK, qDc, qDcK, dicAt, qForK, qZipI, qCallB, qCallF, splitB, qTake, tkEnds, tkRt, tkBack, Px.isN, isNst, gIxN, gPop0, gInsert, qSetSeed, qStep, qPar3, qLcO, lcoK, stEnds, stGo, immS, Px.imm, endsLaw, Option.isSome_some, Option.isSome_none, isEmp_concat, List.getLast?_concat, List.dropLast_concat, List.isEmpty_nil, gEqX, gNeX, List.any_cons, List.any_nil, tyOk_str, tyOk_tuple, tyOk_int, tyOk_bool, tyOk_list, tyOk_dict, Option.map_some, Option.map_none,
  eqOk_str, eqOk_int, eqOk_bl, eqOk_non, eqOkW_str, eqOkW_int, eqOkW_bl, eqOkW_non, gEqW, gNeW, qVals, ownDic, qLc2, gLtX, gGtX, gSortX, peq_str, peq_int, peq_bl, List.getElem?_cons_zero, List.getElem?_cons_succ, List.getElem?_nil, List.set_cons_zero, List.set_cons_succ, List.zipWith_cons_cons, List.zipWith_nil_left, List.replicate_succ, List.replicate_zero, List.cons_append, List.nil_append, List.length_cons, List.length_nil, List.map_cons, List.map_nil, ↓reduceIte, Bool.false_eq_true, and_true, true_and, Bool.not_true, Bool.not_false, Nat.reduceAdd, Nat.reduceLT, Nat.reduceLeDiff, Nat.zero_lt_succ, Nat.lt_add_one, ne_eq, not_true_eq_false, not_false_eq_true, String.reduceEq, String.reduceBEq, Bool.or_false, Bool.false_or, Bool.or_true, Bool.true_or, Bool.and_false, Bool.and_true, Bool.false_and, Bool.true_and, reduceCtorEq, S_bef_fr, S_bef_io, S_size_fr, S_size_io])
theorem part_rawX {rows : List Rw} {s : Str} {qs : List PV} {q : PV} (hq : q ∈ qs) (h : isRaw rows (.tup (.str s :: qs)) = true) : isRaw rows q = true := by
  obtain ⟨s2, p2, r2, e2, f2, l2, h3⟩ := isRaw_cases h
  cases e2
  exact (isRaws_iff rows _).mp h3 q hq
theorem dep_part {s : Str} {ps : List PV} {x : PV} (hx : x ∈ ps) : dep x + 1 ≤ dep (.tup (.str s :: ps)) := by
  have := dep_mem x hx
  rw [dep, deps, dep]; omega
section
variable {P : Program} {w : World} {K : PySem.W.Frag} {mg : Str → Option Value} {base : Heap}
theorem bef_told {n : Nat} {mk fm : PV} {rows : List Rw} {a b : PV} {z : Bool} (e : z = ltV rows a b) : (S_bef n).post [encTb mk fm rows, a, b] (.bl z) [] := fun mk2 fm2 rows2 a2 b2 e2 => by
  injection e2 with e3 e2; injection e2 with e4 e2; injection e2 with e5 _
  rw [← encTb_inj e3, ← e4, ← e5, e]
theorem ok_bef (T : Txt K mg) : ∀ n : Nat, Has P w K mg base "before" (n + 30) ["table", "one", "other"] (S_bef n)
  | 0 => by
    refine (Px.has_none T.d_before (fun F => F.binds (ps := ["table", "one", "other"]) fun _ _ _ _ _ _ us hl => match us, hl with | [_, _, _], _ => rfl) fun pvs h => ?_ : Has P w K mg base "before" 0 _ _).mono (by omega)
    obtain ⟨_, _, _, _, _, _, _, _, _, h, _⟩ := h
    omega
  | n + 1 => by
    refine dv_before T ((ok_size T 26).mono (by omega)) ((ok_place T).mono (by omega)) (ok_bef T n) (S_bef (n + 1)) rfl fun pvs lp pre => ?_
    obtain ⟨mk, fm, rows, a, b, rfl, tk, ha, hb, hn, h1, h2⟩ := pre
    obtain ⟨ga, ta⟩ := raw_gd tk a ha
    obtain ⟨gb, tb⟩ := raw_gd tk b hb
    obtain ⟨s, ps, r1, rfl, f1, l1, hp⟩ := isRaw_cases ha
    obtain ⟨t, qs, r2, rfl, f2, l2, hq⟩ := isRaw_cases hb
    have lt := tk.len
    unfold rd_before
    generalize hE : endsOf (S_bef (n + 1)) _ = E
    have rt : ∀ {z : Bool}, z = ltV rows (.tup (.str s :: ps)) (.tup (.str t :: qs)) → ∀ ρ, E.rt (.pv (.bl z)) ρ := fun h ρ => by rw [← hE]; exact bef_told (n := n + 1) h
    show qSeq _ _ E [.val (encTb mk fm rows), .val (.tup (.str s :: ps)), .val (.tup (.str t :: qs)), .un, .un]
    walk_at "px"
    refine size_i ha (by omega) ga ?_
    walk_at "px"
    refine size_i hb (by omega) gb ?_
    walk_at "px"
    refine ⟨fun h => ?_, fun h => ?_⟩
    · have ne : szV (.tup (.str s :: ps)) ≠ szV (.tup (.str t :: qs)) := by simpa using h
      refine size_i ha (by omega) ga ?_
      walk_at "px"
      refine size_i hb (by omega) gb ?_
      walk_at "px"
      exact rt (ltV_size ha hb ne).symm _
    · have es : szV (.tup (.str s :: ps)) = szV (.tup (.str t :: qs)) := by simpa using h
      refine ⟨fun h => ?_, fun h => ?_⟩
      · have ne : s ≠ t := by simpa using h
        refine place_i lt (mem_wsO f1) ?_
        walk_at "px"
        refine place_i lt (mem_wsO f2) ?_
        walk_at "px"
        exact rt (ltV_word (mem_wsO f1) (mem_wsO f2) es ne).symm _
      · have est : s = t := by simpa using h
        subst est
        rw [f1] at f2; cases f2
        have ll : ps.length = qs.length := by omega
        have ez := ltV_same (rows := rows) es
        refine for_ind (fun zs ρ => ∃ (p' q' : List PV) (o3 o4 : Option PV), zs = zipP p' q' ∧ p'.length = q'.length ∧ (∀ x ∈ p', x ∈ ps) ∧ (∀ x ∈ q', x ∈ qs) ∧ decide (sers (wsO rows) p' < sers (wsO rows) q') = ltV rows (.tup (.str s :: ps)) (.tup (.str s :: qs)) ∧ ρ = [.val (encTb mk fm rows), .val (.tup (.str s :: ps)), .val (.tup (.str s :: qs)), plS o3, plS o4]) ?_ ?_ _ _ ⟨ps, qs, none, none, rfl, ll, fun _ h => h, fun _ h => h, ez.symm, rfl⟩
        · rintro ρ ⟨p', q', o3, o4, e, lpq, _, _, ed, rfl⟩
          have e1 : p' = [] := by
            cases p' with
            | nil => rfl
            | cons x p' => cases q' with
              | nil => simp at lpq
              | cons y q' => simp [zipP] at e
          subst e1
          have e2 : q' = [] := by cases q' with
            | nil => rfl
            | cons _ _ => simp at lpq
          subst e2
          walk_at "px"
          refine rt ?_ _
          rw [← ed]; rfl
        · rintro z zs ρ ⟨p', q', o3, o4, e, lpq, hp', hq', ed, rfl⟩ N ih
          cases p' with
          | nil => cases q' <;> simp [zipP] at e
          | cons x p' =>
            cases q' with
            | nil => simp at lpq
            | cons y q' =>
              rw [zipP] at e
              injection e with e1 e2
              subst e1 e2
              have hx := hp' x List.mem_cons_self
              have hy := hq' y List.mem_cons_self
              have rx := part_rawX hx ha
              have ry := part_rawX hy hb
              have dx := dep_part (s := s) hx
              have dy := dep_part (s := s) hy
              have tx := (raw_gd tk x rx).2
              have ty := (raw_gd tk y ry).2
              walk_at "px"
              refine ⟨tsh_eqOk tx (by omega), tsh_eqOk ty (by omega), fun h => ?_, fun h => ?_⟩
              · have ne : x ≠ y := fun z => by
                  rw [z, (peq_tsh y y ty ty).mpr rfl] at h; simp at h
                refine bef_i tk rx ry (by omega) (by omega) (by omega) ?_
                walk_at "px"
                refine rt ?_ _
                rw [← ed, sers_ne rx ry ne]
              · have eq : x = y := (peq_tsh x y tx ty).mp (by simpa using h)
                subst eq
                exact ih _ ⟨p', q', some x, some x, rfl, by simpa using lpq, fun z hz => hp' z (List.mem_cons_of_mem _ hz), fun z hz => hq' z (List.mem_cons_of_mem _ hz), by rw [← ed, sers_eq], rfl⟩
theorem ok_lbef (T : Txt K mg) : ∀ n : Nat, Has P w K mg base "_law_before" (n + 30) ["table", "one", "other"] (S_bef n)
  | 0 => by
    refine (Px.has_none T.d__law_before (fun F => F.binds (ps := ["table", "one", "other"]) fun _ _ _ _ _ _ us hl => match us, hl with | [_, _, _], _ => rfl) fun pvs h => ?_ : Has P w K mg base "_law_before" 0 _ _).mono (by omega)
    obtain ⟨_, _, _, _, _, _, _, _, _, h, _⟩ := h
    omega
  | n + 1 => by
    refine dv__law_before T ((ok_lsize T 26).mono (by omega)) (ok_lbef T n) (S_bef (n + 1)) rfl fun pvs lp pre => ?_
    obtain ⟨mk, fm, rows, a, b, rfl, tk, ha, hb, hn, h1, h2⟩ := pre
    obtain ⟨ga, ta⟩ := raw_gd tk a ha
    obtain ⟨gb, tb⟩ := raw_gd tk b hb
    obtain ⟨s, ps, r1, rfl, f1, l1, hp⟩ := isRaw_cases ha
    obtain ⟨t, qs, r2, rfl, f2, l2, hq⟩ := isRaw_cases hb
    have lt := tk.len
    unfold rd__law_before
    generalize hE : endsOf (S_bef (n + 1)) _ = E
    have rt : ∀ {z : Bool}, z = ltV rows (.tup (.str s :: ps)) (.tup (.str t :: qs)) → ∀ ρ, E.rt (.pv (.bl z)) ρ := fun h ρ => by rw [← hE]; exact bef_told (n := n + 1) h
    show qSeq _ _ E [.val (encTb mk fm rows), .val (.tup (.str s :: ps)), .val (.tup (.str t :: qs)), .un, .un, .un]
    walk_at "px"
    refine size_i ha (by omega) ga ?_
    walk_at "px"
    refine size_i hb (by omega) gb ?_
    walk_at "px"
    refine ⟨fun h => ?_, fun h => ?_⟩
    · have ne : szV (.tup (.str s :: ps)) ≠ szV (.tup (.str t :: qs)) := by simpa using h
      refine size_i ha (by omega) ga ?_
      walk_at "px"
      refine size_i hb (by omega) gb ?_
      walk_at "px"
      exact rt (ltV_size ha hb ne).symm _
    · have es : szV (.tup (.str s :: ps)) = szV (.tup (.str t :: qs)) := by simpa using h
      have ht0 : encTb mk fm rows = .tup [.str (Str.ofString "table"), mk, fm, .tup (rows.map encRw)] := rfl
      rw [ht0]
      walk_at "px"
      refine lcR_i (lc_mapT encRw (fun r => .str r.w) rows _ (by omega) ?_ fun x hx acc N sm k => ?_)
      rotate_left
      · have er : encRw x = .tup [.str x.w, .tup (x.ps.map encPt), .str x.fam, x.ix] := rfl
        rw [er]
        walk_at "px"
        exact ⟨sm, k⟩
      have ew : rows.map (fun r => PV.str r.w) = (wsO rows).map PV.str := by unfold wsO; rw [List.map_map]; rfl
      rw [ew]
      walk_at "px"
      refine ⟨fun h => ?_, fun h => ?_⟩
      · have ne : s ≠ t := by simpa using h
        refine ⟨eqOk_strs _, ?_⟩
        rw [idxP_pl (mem_wsO f1)]
        walk_at "px"
        refine ⟨eqOk_strs _, ?_⟩
        rw [idxP_pl (mem_wsO f2)]
        walk_at "px"
        exact rt (ltV_word (mem_wsO f1) (mem_wsO f2) es ne).symm _
      · have est : s = t := by simpa using h
        subst est
        rw [f1] at f2; cases f2
        have ll : ps.length = qs.length := by omega
        have ez := ltV_same (rows := rows) es
        have rng_is : rng 1 (((ps.length + 1 : Nat) : Int) - 1).toNat = (List.range' 0 ps.length).map (fun k => PV.int (1 + (k : Nat))) := by
          rw [rng, List.range_eq_range']
          have : (((ps.length + 1 : Nat) : Int) - 1).toNat = ps.length := by omega
          rw [this]
        have lps := (gd_tup ga).1
        refine ⟨⟨by unfold rngOk; omega, by unfold rngOk; omega⟩, ?_⟩
        rw [rng_is]
        refine for_ind (fun zs ρ => ∃ (dp dq p' q' : List PV) (o4 : Option PV), zs = (List.range' dp.length p'.length).map (fun k => PV.int (1 + (k : Nat))) ∧ ps = dp ++ p' ∧ qs = dq ++ q' ∧ dp.length = dq.length ∧ p'.length = q'.length ∧ decide (sers (wsO rows) p' < sers (wsO rows) q') = ltV rows (.tup (.str s :: ps)) (.tup (.str s :: qs)) ∧ ρ = [.val (encTb mk fm rows), .val (.tup (.str s :: ps)), .val (.tup (.str s :: qs)), .val (.lst ((wsO rows).map PV.str)), plS o4, .un]) ?_ ?_ _ _ ⟨[], [], ps, qs, none, rfl, rfl, rfl, rfl, ll, ez.symm, rfl⟩
        · rintro ρ ⟨dp, dq, p', q', o4, e, _, _, _, lpq, ed, rfl⟩
          have e1 : p' = [] := by
            cases p' with
            | nil => rfl
            | cons x p' => rw [List.length_cons, List.range'_succ] at e; simp at e
          subst e1
          have e2 : q' = [] := by cases q' with
            | nil => rfl
            | cons _ _ => simp at lpq
          subst e2
          walk_at "px"
          refine rt ?_ _
          rw [← ed]; rfl
        · rintro z zs ρ ⟨dp, dq, p', q', o4, e, eps, eqs, ldpq, lpq, ed, rfl⟩ N ih
          cases p' with
          | nil => simp at e
          | cons x p' =>
            cases q' with
            | nil => simp at lpq
            | cons y q' =>
              rw [List.length_cons, List.range'_succ, List.map_cons] at e
              injection e with e1 e2
              subst e1
              have hx : x ∈ ps := by rw [eps]; simp
              have hy : y ∈ qs := by rw [eqs]; simp
              have rx := part_rawX hx ha
              have ry := part_rawX hy hb
              have dx := dep_part (s := s) hx
              have dy := dep_part (s := s) hy
              have tx := (raw_gd tk x rx).2
              have ty := (raw_gd tk y ry).2
              have ax : atI (PV.str s :: ps) (1 + ((dp.length : Nat) : Int)) = some x := at1 (by rw [eps, List.getElem?_append_right (Nat.le_refl _)]; simp)
              have ay : atI (PV.str s :: qs) (1 + ((dp.length : Nat) : Int)) = some y := by rw [ldpq]; exact at1 (by rw [eqs, List.getElem?_append_right (Nat.le_refl _)]; simp)
              walk_at "px"
              rw [ax, ay]
              walk_at "px"
              refine ⟨tsh_eqOk tx (by omega), tsh_eqOk ty (by omega), fun h => ?_, fun h => ?_⟩
              · have ne : x ≠ y := fun z => by
                  rw [z, (peq_tsh y y ty ty).mpr rfl] at h; simp at h
                refine bef_i tk rx ry (by omega) (by omega) (by omega) ?_
                walk_at "px"
                refine rt ?_ _
                rw [← ed, sers_ne rx ry ne]
              · have eq : x = y := (peq_tsh x y tx ty).mp (by simpa using h)
                subst eq
                exact ih _ ⟨dp ++ [x], dq ++ [x], p', q', some _, by rw [List.length_append]; exact e2, by rw [eps]; simp, by rw [eqs]; simp, by simp [ldpq], by simpa using lpq, by rw [← ed, sers_eq], rfl⟩
end

end Lw
set_option maxHeartbeats 4000000
namespace Lw
open PySem L2 PyProof.Rows Px
local macro_rules | `(tactic| walk_at "px") => `(tactic| simp -dsimp only [qVar, qK, qNil, qCons, qTup, qLst, vals, looks, R.look, R.wk, qCB, qB, qOp2, qTru, truG, qAnd, qOr, qNot, qAndV, qOrV, qNotV, qIfE, qNo, qPart, qSl, gSl, qIt, qRng1, qRng2, qgN, qgNil, qgCons, qgT, notIo_zero, notIo_succ, notIo_nil', slOk_un, slOk_val, slOk_own, slOk_pl, slOk_pd, notIos_nil, notIos_cons, qYes, qLc, qNext, qSeq, qBreak, qCont, qFrz, frz, qDrop, retG, qRet, qRetN, qIf, qSet, qOwn, qAsg, qFor, qMut, ownTy, gAppend, gExtend, gPop, isOwn, qSetIx, qCall, splitArgs, putOuts, setOwn, finOk, endsOf, mk, outsOf, uns,
  gAdd, gInt, gInt0, gEq, gNe, gIn, gNotIn, gIs, gIsNot, Px.isNon, gIx, getP, gLen, gAbs, gIntC, gSum, gMax, gMax2, gMax3, gMinT, gAll, gAny, gList, gTuple, gIsi, qNeg, qDict0, wipeE, lcGo_nil, br_t, br_f, atI_0, atI_1, atI_2, atI_3, ixN_0, ixN_1, ixN_2, ixN_3, List.length_map, List.length_set, cut_from1, isTy, tyN, gIsiT, asTys, gListD, keyP, isDic, qGet1, qGet2, qLZ, gZip, qPairs, mergeP, qDisp, gDictC, gStr, qChain, qPar, qAug, qMeth, tyIs, gIndex, qLcK, qDc, qDcK, dicAt, qForK, qZipI, qCallB, qCallF, splitB, qTake, tkEnds, tkRt, tkBack, Px.isN, isNst, gIxN, gPop0, gInsert, qSetSeed, qStep, qPar3, qLcO, lcoK, stEnds, stGo, immS, Px.imm, endsLaw, Option.isSome_some, Option.isSome_none, isEmp_concat, List.getLast?_concat, List.dropLast_concat, List.isEmpty_nil, gEqX, gNeX, List.any_cons, List.any_nil, tyOk_str, tyOk_tuple, tyOk_int, tyOk_bool, tyOk_list, tyOk_dict, Option.map_some, Option.map_none,
  eqOk_str, eqOk_int, eqOk_bl, eqOk_non, eqOkW_str, eqOkW_int, eqOkW_bl, eqOkW_non, gEqW, gNeW, qVals, ownDic, qLc2, gLtX, gGtX, gSortX, peq_str, peq_int, peq_bl, List.getElem?_cons_zero, List.getElem?_cons_succ, List.getElem?_nil, List.set_cons_zero, List.set_cons_succ, List.zipWith_cons_cons, List.zipWith_nil_left, List.replicate_succ, List.replicate_zero, List.cons_append, List.nil_append, List.length_cons, List.length_nil, List.map_cons, List.map_nil, ↓reduceIte, Bool.false_eq_true, and_true, true_and, Bool.not_true, Bool.not_false, Nat.reduceAdd, Nat.reduceLT, Nat.reduceLeDiff, Nat.zero_lt_succ, Nat.lt_add_one, ne_eq, not_true_eq_false, not_false_eq_true, String.reduceEq, String.reduceBEq, Bool.or_false, Bool.false_or, Bool.or_true, Bool.true_or, Bool.and_false, Bool.and_true, Bool.false_and, Bool.true_and, reduceCtorEq])
/-! ### raw values of a family and a size: the program's way and the law's -/
def consOf (rows : List Rw) (f : Str) : List Rw := rows.filter fun r => r.fam == f
def sharesP : Nat → Nat → List (List Nat)
  | 0, t => if t = 0 then [[]] else []
  | m + 1, t => (List.range' 1 (t - m)).flatMap fun s => (sharesP m (t - s)).map fun r => s :: r
def prodP (R : Str → Nat → List PV) : List (Str × PV) → List Nat → List (List PV) → List (List PV)
  | p :: ps, s :: ss, rows => prodP R ps ss (rows.flatMap fun row => (R p.1 s).map fun v => row ++ [v])
  | _, _, rows => rows
def rawC (R : Str → Nat → List PV) (t : Nat) (r : Rw) : List (List PV) := (sharesP r.ps.length (t - 1)).flatMap fun sh => prodP R r.ps sh [[.str r.w]]
def rawP (rows : List Rw) : Nat → Str → Nat → List PV
  | 0, _, _ => []
  | n + 1, f, t => ((consOf rows f).flatMap fun r => rawC (rawP rows n) t r).map PV.tup
def lstepL (R : Str → Nat → List PV) (p : Str × PV) (rests : List (List PV × Nat)) : List (List PV × Nat) := rests.flatMap fun x => (List.range' 1 x.2).flatMap fun s => (R p.1 s).map fun v => (x.1 ++ [v], x.2 - s)
def lfold (R : Str → Nat → List PV) (ps : List (Str × PV)) (rests : List (List PV × Nat)) : List (List PV × Nat) := ps.foldl (fun rests p => lstepL R p rests) rests
def lrawC (R : Str → Nat → List PV) (t : Nat) (r : Rw) : List (List PV) := ((lfold R r.ps [([.str r.w], t - 1)]).filter fun x => x.2 == 0).map (·.1)
def lrawL (rows : List Rw) : Nat → Str → Nat → List PV
  | 0, _, _ => []
  | n + 1, f, t => ((consOf rows f).flatMap fun r => lrawC (lrawL rows n) t r).map PV.tup
def AllR (R : Str → Nat → List PV) : List (Str × PV) → List Nat → List PV → Prop
  | p :: ps, s :: ss, q :: qs => q ∈ R p.1 s ∧ AllR R ps ss qs
  | [], [], qs => qs = []
  | _, _, _ => False
theorem AllR.len {R : Str → Nat → List PV} : ∀ {ps : List (Str × PV)} {ss : List Nat} {qs : List PV}, AllR R ps ss qs → ss.length = ps.length ∧ qs.length = ps.length
  | p :: ps, s :: ss, q :: qs, h => by
    obtain ⟨h1, h2⟩ := AllR.len (ps := ps) h.2
    simp [h1, h2]
  | [], [], qs, h => by
    have e : qs = [] := h
    simp [e]
  | [], _ :: _, _, h => h.elim
  | _ :: _, [], _, h => h.elim
  | _ :: _, _ :: _, [], h => h.elim
theorem AllR.congr {R R' : Str → Nat → List PV} (hR : ∀ f t v, v ∈ R f t ↔ v ∈ R' f t) : ∀ {ps : List (Str × PV)} {ss : List Nat} {qs : List PV}, AllR R ps ss qs ↔ AllR R' ps ss qs
  | p :: ps, s :: ss, q :: qs => by
    have := AllR.congr hR (ps := ps) (ss := ss) (qs := qs)
    show (q ∈ R p.1 s ∧ AllR R ps ss qs) ↔ (q ∈ R' p.1 s ∧ AllR R' ps ss qs)
    rw [hR, this]
  | [], [], qs => Iff.rfl
  | [], _ :: _, _ => Iff.rfl
  | _ :: _, [], _ => Iff.rfl
  | _ :: _, _ :: _, [] => Iff.rfl
theorem prodP_mem {R : Str → Nat → List PV} : ∀ (ps : List (Str × PV)) (ss : List Nat) (rows : List (List PV)) (l : List PV), ss.length = ps.length → (l ∈ prodP R ps ss rows ↔ ∃ r ∈ rows, ∃ qs, l = r ++ qs ∧ AllR R ps ss qs)
  | [], [], rows, l, _ => by
    show l ∈ rows ↔ _
    constructor
    · exact fun h => ⟨l, h, [], by simp, rfl⟩
    · rintro ⟨r, h, qs, e, h2⟩
      have e2 : qs = [] := h2
      rw [e, e2, List.append_nil]; exact h
  | [], _ :: _, _, _, h => by simp at h
  | _ :: _, [], _, _, h => by simp at h
  | p :: ps, s :: ss, rows, l, h => by
    rw [prodP, prodP_mem ps ss _ l (by simpa using h)]
    constructor
    · rintro ⟨r, hr, qs, e, h2⟩
      obtain ⟨r0, h0, hr⟩ := List.mem_flatMap.mp hr
      obtain ⟨v, hv, rfl⟩ := List.mem_map.mp hr
      exact ⟨r0, h0, v :: qs, by rw [e]; simp, hv, h2⟩
    · rintro ⟨r, hr, qs, e, h2⟩
      cases qs with
      | nil => exact h2.elim
      | cons q qs => exact ⟨r ++ [q], List.mem_flatMap.mpr ⟨r, hr, List.mem_map.mpr ⟨q, h2.1, rfl⟩⟩, qs, by rw [e]; simp, h2.2⟩
theorem sharesP_mem : ∀ (m t : Nat) (ss : List Nat), ss ∈ sharesP m t ↔ ss.length = m ∧ ss.sum = t ∧ ∀ s ∈ ss, 1 ≤ s
  | 0, t, ss => by
    rw [sharesP]
    constructor
    · intro h
      split at h
      · rw [List.mem_singleton.mp h]; rename_i e; simp [e]
      · cases h
    · rintro ⟨h1, h2, _⟩
      have e : ss = [] := List.length_eq_zero_iff.mp h1
      subst e
      have e2 : t = 0 := h2.symm
      rw [if_pos e2]; simp
  | m + 1, t, ss => by
    rw [sharesP, List.mem_flatMap]
    constructor
    · rintro ⟨s, hs, h⟩
      obtain ⟨r, hr, rfl⟩ := List.mem_map.mp h
      obtain ⟨h1, h2, h3⟩ := (sharesP_mem m _ r).mp hr
      rw [List.mem_range'_1] at hs
      refine ⟨by simp [h1], by rw [List.sum_cons, h2]; omega, fun x hx => ?_⟩
      rcases List.mem_cons.mp hx with rfl | hx
      · exact hs.1
      · exact h3 x hx
    · rintro ⟨h1, h2, h3⟩
      cases ss with
      | nil => simp at h1
      | cons s r =>
        have l1 : r.length = m := by simpa using h1
        have h4 : ∀ x ∈ r, 1 ≤ x := fun x hx => h3 x (List.mem_cons_of_mem _ hx)
        have hge : ∀ r : List Nat, (∀ x ∈ r, 1 ≤ x) → r.length ≤ r.sum := fun r => by
          induction r with
          | nil => simp
          | cons a r ih =>
            intro h
            have := h a List.mem_cons_self
            have := ih fun x hx => h x (List.mem_cons_of_mem _ hx)
            simp; omega
        have := hge r h4
        have := h3 s List.mem_cons_self
        rw [List.sum_cons] at h2
        refine ⟨s, by rw [List.mem_range'_1]; omega, List.mem_map.mpr ⟨r, (sharesP_mem m _ r).mpr ⟨l1, by omega, h4⟩, rfl⟩⟩
theorem rawC_mem {R : Str → Nat → List PV} {t : Nat} {r : Rw} {l : List PV} : l ∈ rawC R t r ↔ ∃ ss qs, l = .str r.w :: qs ∧ ss.sum = t - 1 ∧ (∀ s ∈ ss, 1 ≤ s) ∧ AllR R r.ps ss qs := by
  unfold rawC
  rw [List.mem_flatMap]
  constructor
  · rintro ⟨ss, hs, h⟩
    obtain ⟨h1, h2, h3⟩ := (sharesP_mem _ _ _).mp hs
    obtain ⟨x, hx, qs, e, ha⟩ := (prodP_mem _ _ _ _ h1).mp h
    rw [List.mem_singleton.mp hx] at e
    exact ⟨ss, qs, e, h2, h3, ha⟩
  · rintro ⟨ss, qs, e, h2, h3, ha⟩
    have l := ha.len.1
    exact ⟨ss, (sharesP_mem _ _ _).mpr ⟨l, h2, h3⟩, (prodP_mem _ _ _ _ l).mpr ⟨_, List.mem_singleton.mpr rfl, qs, e, ha⟩⟩
theorem lstepL_mem {R : Str → Nat → List PV} {p : Str × PV} {rests : List (List PV × Nat)} {y : List PV × Nat} : y ∈ lstepL R p rests ↔ ∃ x ∈ rests, ∃ s v, 1 ≤ s ∧ s ≤ x.2 ∧ v ∈ R p.1 s ∧ y = (x.1 ++ [v], x.2 - s) := by
  unfold lstepL
  rw [List.mem_flatMap]
  constructor
  · rintro ⟨x, hx, h⟩
    obtain ⟨s, hs, h⟩ := List.mem_flatMap.mp h
    obtain ⟨v, hv, rfl⟩ := List.mem_map.mp h
    rw [List.mem_range'_1] at hs
    exact ⟨x, hx, s, v, hs.1, by omega, hv, rfl⟩
  · rintro ⟨x, hx, s, v, h1, h2, hv, rfl⟩
    exact ⟨x, hx, List.mem_flatMap.mpr ⟨s, by rw [List.mem_range'_1]; omega, List.mem_map.mpr ⟨v, hv, rfl⟩⟩⟩
theorem lfold_mem {R : Str → Nat → List PV} : ∀ (ps : List (Str × PV)) (rests : List (List PV × Nat)) (y : List PV × Nat), y ∈ lfold R ps rests ↔ ∃ x ∈ rests, ∃ ss qs, y.1 = x.1 ++ qs ∧ ss.sum + y.2 = x.2 ∧ (∀ s ∈ ss, 1 ≤ s) ∧ AllR R ps ss qs
  | [], rests, y => by
    show y ∈ rests ↔ _
    constructor
    · exact fun h => ⟨y, h, [], [], by simp, by simp, by simp, rfl⟩
    · rintro ⟨x, hx, ss, qs, e1, e2, h3, ha⟩
      have l := ha.len
      have e3 : ss = [] := List.length_eq_zero_iff.mp l.1
      have e4 : qs = [] := List.length_eq_zero_iff.mp l.2
      subst e3 e4
      have : y = x := Prod.ext (by simpa using e1) (by simpa using e2)
      rw [this]; exact hx
  | p :: ps, rests, y => by
    show y ∈ lfold R ps (lstepL R p rests) ↔ _
    rw [lfold_mem ps]
    constructor
    · rintro ⟨z, hz, ss, qs, e1, e2, h3, ha⟩
      obtain ⟨x, hx, s, v, h1, h2, hv, rfl⟩ := lstepL_mem.mp hz
      refine ⟨x, hx, s :: ss, v :: qs, by rw [e1]; simp, by rw [List.sum_cons]; simp only at e2; omega, fun u hu => ?_, hv, ha⟩
      rcases List.mem_cons.mp hu with rfl | hu
      · exact h1
      · exact h3 u hu
    · rintro ⟨x, hx, ss, qs, e1, e2, h3, ha⟩
      cases ss with
      | nil => exact ha.elim
      | cons s ss => cases qs with
        | nil => exact ha.elim
        | cons v qs =>
          rw [List.sum_cons] at e2
          exact ⟨(x.1 ++ [v], x.2 - s), lstepL_mem.mpr ⟨x, hx, s, v, h3 s List.mem_cons_self, by omega, ha.1, rfl⟩, ss, qs, by rw [e1]; simp, by simp only; omega, fun u hu => h3 u (List.mem_cons_of_mem _ hu), ha.2⟩
theorem lrawC_mem {R : Str → Nat → List PV} {t : Nat} {r : Rw} {l : List PV} : l ∈ lrawC R t r ↔ ∃ ss qs, l = .str r.w :: qs ∧ ss.sum = t - 1 ∧ (∀ s ∈ ss, 1 ≤ s) ∧ AllR R r.ps ss qs := by
  unfold lrawC
  constructor
  · intro h
    obtain ⟨y, hy, rfl⟩ := List.mem_map.mp h
    obtain ⟨hy, h0⟩ := List.mem_filter.mp hy
    obtain ⟨x, hx, ss, qs, e1, e2, h3, ha⟩ := (lfold_mem _ _ _).mp hy
    rw [List.mem_singleton.mp hx] at e1 e2
    have h0' : y.2 = 0 := by simpa using h0
    exact ⟨ss, qs, e1, by simp only at e2; omega, h3, ha⟩
  · rintro ⟨ss, qs, e, h2, h3, ha⟩
    exact List.mem_map.mpr ⟨(l, 0), List.mem_filter.mpr ⟨(lfold_mem _ _ _).mpr ⟨_, List.mem_singleton.mpr rfl, ss, qs, e, by simpa using h2, h3, ha⟩, rfl⟩, rfl⟩
theorem raw_same (rows : List Rw) : ∀ (n : Nat) (f : Str) (t : Nat) (v : PV), v ∈ rawP rows n f t ↔ v ∈ lrawL rows n f t
  | 0, _, _, _ => Iff.rfl
  | n + 1, f, t, v => by
    have hR := raw_same rows n
    rw [rawP, lrawL, List.mem_map, List.mem_map]
    constructor
    · rintro ⟨l, hl, rfl⟩
      obtain ⟨r, hr, hl⟩ := List.mem_flatMap.mp hl
      obtain ⟨ss, qs, e, h2, h3, ha⟩ := rawC_mem.mp hl
      exact ⟨l, List.mem_flatMap.mpr ⟨r, hr, lrawC_mem.mpr ⟨ss, qs, e, h2, h3, (AllR.congr hR).mp ha⟩⟩, rfl⟩
    · rintro ⟨l, hl, rfl⟩
      obtain ⟨r, hr, hl⟩ := List.mem_flatMap.mp hl
      obtain ⟨ss, qs, e, h2, h3, ha⟩ := lrawC_mem.mp hl
      exact ⟨l, List.mem_flatMap.mpr ⟨r, hr, rawC_mem.mpr ⟨ss, qs, e, h2, h3, (AllR.congr hR).mpr ha⟩⟩, rfl⟩
/-- what is told of each: it is raw, of the size, of the family -/
structure RawI (rows : List Rw) (f : Str) (t : Nat) (v : PV) : Prop where
  raw : isRaw rows v = true
  sz : szV v = t
  dep : Px.dep v ≤ t
  fam : ∃ r qs, r ∈ rows ∧ v = .tup (.str r.w :: qs) ∧ r.fam = f
theorem allR_facts {rows : List Rw} {R : Str → Nat → List PV} (hR : ∀ f t v, 1 ≤ t → v ∈ R f t → RawI rows f t v) : ∀ {ps : List (Str × PV)} {ss : List Nat} {qs : List PV}, AllR R ps ss qs → (∀ s ∈ ss, 1 ≤ s) → isRaws rows qs = true ∧ szVs qs = (ss.sum : Nat) ∧ deps qs ≤ ss.sum ∧ ss.map (fun s => ((s : Nat) : Int)) = qs.map szV
  | [], [], qs, h, _ => by
    have e : qs = [] := h
    subst e
    exact ⟨by rw [isRaws], by rw [szVs]; rfl, by rw [deps]; exact Nat.zero_le _, rfl⟩
  | [], _ :: _, _, h, _ => h.elim
  | _ :: _, [], _, h, _ => h.elim
  | _ :: _, _ :: _, [], h, _ => h.elim
  | p :: ps, s :: ss, q :: qs, h, h1 => by
    obtain ⟨g1, g2, g3, g4⟩ := allR_facts hR (ps := ps) h.2 fun x hx => h1 x (List.mem_cons_of_mem _ hx)
    have F := hR _ _ _ (h1 s List.mem_cons_self) h.1
    have := F.sz
    have := F.dep
    refine ⟨by rw [isRaws, F.raw, g1]; rfl, by rw [szVs, g2, List.sum_cons]; omega, by rw [deps, List.sum_cons]; omega, by rw [List.map_cons, List.map_cons, g4, F.sz]⟩
theorem rawP_facts {rows : List Rw} (tk : TabOk rows) : ∀ (n : Nat) (f : Str) (t : Nat) (v : PV), 1 ≤ t → v ∈ rawP rows n f t → RawI rows f t v
  | 0, _, _, _, _, h => by cases h
  | n + 1, f, t, v, h1, h => by
    have hR := rawP_facts tk n
    rw [rawP] at h
    obtain ⟨l, hl, rfl⟩ := List.mem_map.mp h
    obtain ⟨r, hr, hl⟩ := List.mem_flatMap.mp hl
    obtain ⟨hr, hf⟩ := List.mem_filter.mp hr
    obtain ⟨ss, qs, rfl, h2, h3, ha⟩ := rawC_mem.mp hl
    obtain ⟨g1, g2, g3, g4⟩ := allR_facts hR ha h3
    refine ⟨isRaw_mk (find_own tk hr) ha.len.2 g1, by rw [szV, g2]; omega, by rw [Px.dep, deps, Px.dep]; omega, r, qs, hr, rfl, by simpa using hf⟩
theorem nodup_fm {α β : Type} {xs : List α} {g : α → List β} (hx : xs.Nodup) (hg : ∀ a ∈ xs, (g a).Nodup) (hd : ∀ a ∈ xs, ∀ b ∈ xs, a ≠ b → ∀ x ∈ g a, x ∉ g b) : (xs.flatMap g).Nodup := by
  induction xs with
  | nil => simp
  | cons a xs ih =>
    rw [List.nodup_cons] at hx
    rw [List.flatMap_cons]
    refine List.nodup_append.mpr ⟨hg a List.mem_cons_self, ih hx.2 (fun b hb => hg b (List.mem_cons_of_mem _ hb)) fun b hb c hc => hd b (List.mem_cons_of_mem _ hb) c (List.mem_cons_of_mem _ hc), fun x hx1 y hy e => ?_⟩
    subst e
    obtain ⟨b, hb, hxb⟩ := List.mem_flatMap.mp hy
    exact hd a List.mem_cons_self b (List.mem_cons_of_mem _ hb) (fun z => hx.1 (by rw [z]; exact hb)) x hx1 hxb
theorem nodup_mp {α β : Type} {f : α → β} (hf : ∀ a b, f a = f b → a = b) {xs : List α} (h : xs.Nodup) : (xs.map f).Nodup := by
  induction xs with
  | nil => simp
  | cons x xs ih =>
    rw [List.nodup_cons] at h
    rw [List.map_cons, List.nodup_cons]
    refine ⟨fun z => ?_, ih h.2⟩
    obtain ⟨y, hy, e⟩ := List.mem_map.mp z
    exact h.1 (by rw [← hf _ _ e]; exact hy)
theorem sharesP_nd : ∀ m t : Nat, (sharesP m t).Nodup
  | 0, t => by rw [sharesP]; split <;> simp
  | m + 1, t => by
    rw [sharesP]
    refine nodup_fm List.nodup_range' (fun s _ => nodup_mp (fun a b e => by injection e) (sharesP_nd m _)) fun s _ u _ ne x hx hx2 => ?_
    obtain ⟨a, _, rfl⟩ := List.mem_map.mp hx
    obtain ⟨b, _, e⟩ := List.mem_map.mp hx2
    injection e with e _
    exact ne e.symm
theorem prodP_nd {R : Str → Nat → List PV} (hR : ∀ f t, 1 ≤ t → (R f t).Nodup) : ∀ (ps : List (Str × PV)) (ss : List Nat) (rows : List (List PV)), (∀ s ∈ ss, 1 ≤ s) → rows.Nodup → (prodP R ps ss rows).Nodup
  | [], [], _, _, h => h
  | [], _ :: _, _, _, h => h
  | _ :: _, [], _, _, h => h
  | p :: ps, s :: ss, rows, h1, h => by
    rw [prodP]
    refine prodP_nd hR ps ss _ (fun x hx => h1 x (List.mem_cons_of_mem _ hx)) (nodup_fm h (fun a _ => nodup_mp (fun x y e => by simpa using e) (hR _ _ (h1 s List.mem_cons_self))) fun a _ b _ ne x hx hx2 => ?_)
    obtain ⟨u, _, rfl⟩ := List.mem_map.mp hx
    obtain ⟨w, _, e⟩ := List.mem_map.mp hx2
    have := List.append_inj' e rfl
    exact ne this.1.symm
theorem cons_nd {rows : List Rw} (tk : TabOk rows) (f : Str) : (consOf rows f).Nodup := by
  have : rows.Nodup := by
    have := tk.nd
    clear tk
    induction rows with
    | nil => simp
    | cons r rows ih =>
      rw [List.map_cons, List.nodup_cons] at this
      rw [List.nodup_cons]
      exact ⟨fun z => this.1 (List.mem_map.mpr ⟨r, z, rfl⟩), ih this.2⟩
  exact this.sublist List.filter_sublist
theorem row_word {rows : List Rw} (tk : TabOk rows) {r u : Rw} (hr : r ∈ rows) (hu : u ∈ rows) (e : r.w = u.w) : r = u := by
  have h1 := find_own tk hr
  have h2 := find_own tk hu
  rw [e] at h1
  rw [h1] at h2
  injection h2
theorem tup_inj : ∀ a b : List PV, PV.tup a = PV.tup b → a = b := fun a b e => by injection e
theorem rawP_nd {rows : List Rw} (tk : TabOk rows) : ∀ (n : Nat) (f : Str) (t : Nat), 1 ≤ t → (rawP rows n f t).Nodup
  | 0, _, _, _ => by rw [rawP]; simp
  | n + 1, f, t, h1 => by
    have hR := rawP_nd tk n
    rw [rawP]
    refine nodup_mp tup_inj (nodup_fm (cons_nd tk f) (fun r hr => ?_) fun r hr u hu ne x hx hx2 => ?_)
    · unfold rawC
      refine nodup_fm (sharesP_nd _ _) (fun ss hs => prodP_nd hR _ _ _ ((sharesP_mem _ _ _).mp hs).2.2 (by simp)) fun ss hs zs hz ne x hx hx2 => ?_
      obtain ⟨a1, a2, a3⟩ := (sharesP_mem _ _ _).mp hs
      obtain ⟨b1, b2, b3⟩ := (sharesP_mem _ _ _).mp hz
      obtain ⟨y, hy, qs, e, ha⟩ := (prodP_mem _ _ _ _ a1).mp hx
      obtain ⟨y2, hy2, qs2, e2, ha2⟩ := (prodP_mem _ _ _ _ b1).mp hx2
      rw [List.mem_singleton.mp hy] at e
      rw [List.mem_singleton.mp hy2] at e2
      have eq : qs = qs2 := by
        rw [e] at e2
        simpa using e2
      subst eq
      have f1 := (allR_facts (rawP_facts tk n) ha a3).2.2.2
      have f2 := (allR_facts (rawP_facts tk n) ha2 b3).2.2.2
      rw [← f2] at f1
      exact ne (map_inj (fun a b e => by omega) f1)
    · obtain ⟨ss, qs, e, _⟩ := rawC_mem.mp hx
      obtain ⟨zs, qs2, e2, _⟩ := rawC_mem.mp hx2
      rw [e] at e2
      injection e2 with e2 _
      injection e2 with e2
      exact ne (row_word tk (List.mem_filter.mp hr).1 (List.mem_filter.mp hu).1 e2)
theorem lstepL_nd {R : Str → Nat → List PV} (hR : ∀ f t, 1 ≤ t → (R f t).Nodup) (hs : ∀ f t v, 1 ≤ t → v ∈ R f t → szV v = t) {p : Str × PV} {rests : List (List PV × Nat)} (h : rests.Nodup) : (lstepL R p rests).Nodup := by
  unfold lstepL
  refine nodup_fm h (fun x hx => nodup_fm List.nodup_range' (fun s hs => nodup_mp (fun a b e => by
    have e1 := congrArg Prod.fst e
    simpa using e1) (hR _ _ (by rw [List.mem_range'_1] at hs; exact hs.1))) fun s hs1 u hu ne y hy hy2 => ?_) fun x hx z hz ne y hy hy2 => ?_
  · rw [List.mem_range'_1] at hs1 hu
    obtain ⟨v, hv, rfl⟩ := List.mem_map.mp hy
    obtain ⟨v2, hv2, e⟩ := List.mem_map.mp hy2
    have e1 := congrArg Prod.fst e
    have ev : v2 = v := by simpa using e1
    subst ev
    have := hs _ _ _ hs1.1 hv
    have := hs _ _ _ hu.1 hv2
    omega
  · obtain ⟨s, hs1, hy⟩ := List.mem_flatMap.mp hy
    obtain ⟨u, hu, hy2⟩ := List.mem_flatMap.mp hy2
    rw [List.mem_range'_1] at hs1 hu
    obtain ⟨v, hv, rfl⟩ := List.mem_map.mp hy
    obtain ⟨v2, hv2, e⟩ := List.mem_map.mp hy2
    have e1 := congrArg Prod.fst e
    have e2 := congrArg Prod.snd e
    simp only at e1 e2
    obtain ⟨ex, ev⟩ := List.append_inj' e1 rfl
    have ev : v2 = v := by simpa using ev
    subst ev
    have := hs _ _ _ hs1.1 hv
    have := hs _ _ _ hu.1 hv2
    exact ne (Prod.ext ex.symm (by omega))
theorem lfold_nd {R : Str → Nat → List PV} (hR : ∀ f t, 1 ≤ t → (R f t).Nodup) (hs : ∀ f t v, 1 ≤ t → v ∈ R f t → szV v = t) : ∀ (ps : List (Str × PV)) (rests : List (List PV × Nat)), rests.Nodup → (lfold R ps rests).Nodup
  | [], _, h => h
  | p :: ps, rests, h => lfold_nd hR hs ps _ (lstepL_nd hR hs h)
theorem lrawL_nd {rows : List Rw} (tk : TabOk rows) : ∀ (n : Nat) (f : Str) (t : Nat), 1 ≤ t → (lrawL rows n f t).Nodup
  | 0, _, _, _ => by rw [lrawL]; simp
  | n + 1, f, t, h1 => by
    have hR := lrawL_nd tk n
    have hs : ∀ f t v, 1 ≤ t → v ∈ lrawL rows n f t → szV v = t := fun f t v h1 hv => (rawP_facts tk n f t v h1 ((raw_same rows n f t v).mpr hv)).sz
    rw [lrawL]
    refine nodup_mp tup_inj (nodup_fm (cons_nd tk f) (fun r hr => ?_) fun r hr u hu ne x hx hx2 => ?_)
    · unfold lrawC
      have F := (lfold_nd hR hs r.ps [([.str r.w], t - 1)] (by simp)).sublist (List.filter_sublist (p := fun x => x.2 == 0))
      generalize hL : List.filter (fun x => x.2 == 0) (lfold (lrawL rows n) r.ps [([PV.str r.w], t - 1)]) = L at F ⊢
      have hz : ∀ x ∈ L, x.2 = 0 := fun x hx => by
        rw [← hL] at hx
        simpa using (List.mem_filter.mp hx).2
      clear hL
      induction L with
      | nil => simp
      | cons x L ih =>
        rw [List.nodup_cons] at F
        rw [List.map_cons, List.nodup_cons]
        refine ⟨fun z => ?_, ih F.2 fun y hy => hz y (List.mem_cons_of_mem _ hy)⟩
        obtain ⟨y, hy, e⟩ := List.mem_map.mp z
        have : y = x := Prod.ext e (by rw [hz y (List.mem_cons_of_mem _ hy), hz x List.mem_cons_self])
        exact F.1 (by rw [← this]; exact hy)
    · obtain ⟨ss, qs, e, _⟩ := lrawC_mem.mp hx
      obtain ⟨zs, qs2, e2, _⟩ := lrawC_mem.mp hx2
      rw [e] at e2
      injection e2 with e2 _
      injection e2 with e2
      exact ne (row_word tk (List.mem_filter.mp hr).1 (List.mem_filter.mp hu).1 e2)

end Lw
set_option maxHeartbeats 4000000
namespace Lw
open PySem L2 PyProof.Rows Px
def S_cons : FS := { io := [false, false], pre := fun ps => ∃ (mk fm : PV) (rows : List Rw) (f : Str), ps = [encTb mk fm rows, .str f] ∧ rows.length ≤ 20, post := fun ps r _ => ∀ (mk fm : PV) (rows : List Rw) (f : Str), ps = [encTb mk fm rows, .str f] → r = .tup ((consOf rows f).map encRw) }
def S_lcons : FS := { io := [false, false], pre := fun ps => ∃ (mk fm : PV) (rows : List Rw) (f : Str), ps = [encTb mk fm rows, .str f] ∧ rows.length ≤ 20, post := fun ps r _ => ∀ (mk fm : PV) (rows : List Rw) (f : Str), ps = [encTb mk fm rows, .str f] → r = .lst ((consOf rows f).map encRw) }
def natI (s : Nat) : PV := .int (s : Nat)
def encS (ss : List Nat) : PV := .tup (ss.map natI)
def S_shares (n : Nat) : FS := { io := [false, false], pre := fun ps => ∃ (t m : Nat), ps = [natI t, natI m] ∧ m < n ∧ m ≤ 3 ∧ t ≤ 4, post := fun ps r _ => ∀ (t m : Nat), ps = [natI t, natI m] → r = .lst ((sharesP m t).map encS) }
theorem S_cons_fr : S_cons.fr = false := rfl
theorem S_cons_io : S_cons.io = [false, false] := rfl
theorem S_lcons_fr : S_lcons.fr = false := rfl
theorem S_lcons_io : S_lcons.io = [false, false] := rfl
theorem S_shares_fr (n : Nat) : (S_shares n).fr = false := rfl
theorem S_shares_io (n : Nat) : (S_shares n).io = [false, false] := rfl
local macro_rules | `(tactic| walk_at "px") => `(tactic| simp -dsimp only [qVar, qK, qNil, qCons, qTup, qLst, vals, looks, R.look, R.wk, qCB, qB, qOp2, qTru, truG, qAnd, qOr, qNot, qAndV, qOrV, qNotV, qIfE, qNo, qPart, qSl, gSl, qIt, qRng1, qRng2, qgN, qgNil, qgCons, qgT, notIo_zero, notIo_succ, notIo_nil', slOk_un, slOk_val, slOk_own, slOk_pl, slOk_pd, notIos_nil, notIos_cons, qYes, qLc, qNext, qSeq, qBreak, qCont, qFrz, frz, qDrop, retG, qRet, qRetN, qIf, qSet, qOwn, qAsg, qFor, qMut, ownTy, gAppend, gExtend, gPop, isOwn, qSetIx, qCall, splitArgs, putOuts, setOwn, finOk, endsOf, mk, outsOf, uns,
  gAdd, gInt, gInt0, gEq, gNe, gIn, gNotIn, gIs, gIsNot, Px.isNon, gIx, getP, gLen, gAbs, gIntC, gSum, gMax, gMax2, gMax3, gMinT, gAll, gAny, gList, gTuple, gIsi, qNeg, qDict0, wipeE, lcGo_nil, br_t, br_f, atI_0, atI_1, atI_2, atI_3, ixN_0, ixN_1, ixN_2, ixN_3, List.length_map, List.length_set, cut_from1, isTy, tyN, gIsiT, asTys, gListD, keyP, isDic, qGet1, qGet2, qLZ, gZip, qPairs, mergeP, qDisp, gDictC, gStr, qChain, qPar, qAug, qMeth, tyIs, gIndex, qLcK, qDc, qDcK, dicAt, qForK, qZipI, qCallB, qCallF, splitB, qTake, tkEnds, tkRt, tkBack, Px.isN, isNst, gIxN, gPop0, gInsert, qSetSeed, qStep, qPar3, qLcO, lcoK, stEnds, stGo, immS, Px.imm, endsLaw, Option.isSome_some, Option.isSome_none, isEmp_concat, List.getLast?_concat, List.dropLast_concat, List.isEmpty_nil, gEqX, gNeX, List.any_cons, List.any_nil, tyOk_str, tyOk_tuple, tyOk_int, tyOk_bool, tyOk_list, tyOk_dict, Option.map_some, Option.map_none,
  eqOk_str, eqOk_int, eqOk_bl, eqOk_non, eqOkW_str, eqOkW_int, eqOkW_bl, eqOkW_non, gEqW, gNeW, qVals, ownDic, qLc2, gLtX, gGtX, gSortX, peq_str, peq_int, peq_bl, List.getElem?_cons_zero, List.getElem?_cons_succ, List.getElem?_nil, List.set_cons_zero, List.set_cons_succ, List.zipWith_cons_cons, List.zipWith_nil_left, List.replicate_succ, List.replicate_zero, List.cons_append, List.nil_append, List.length_cons, List.length_nil, List.map_cons, List.map_nil, ↓reduceIte, Bool.false_eq_true, and_true, true_and, Bool.not_true, Bool.not_false, Nat.reduceAdd, Nat.reduceLT, Nat.reduceLeDiff, Nat.zero_lt_succ, Nat.lt_add_one, ne_eq, not_true_eq_false, not_false_eq_true, String.reduceEq, String.reduceBEq, Bool.or_false, Bool.false_or, Bool.or_true, Bool.true_or, Bool.and_false, Bool.and_true, Bool.false_and, Bool.true_and, reduceCtorEq, S_cons_fr, S_cons_io, S_lcons_fr, S_lcons_io, S_shares_fr, S_shares_io])
/-- a loop over a list of codes -/
theorem for_mapT {α : Type} {g : QTG} {body : QTS} {D : PEnds} (enc : α → PV) (I : List α → En → Prop) (xs : List α) (ρ0 : En) (h0 : I [] ρ0) (hn : ∀ ρ, I xs ρ → D.nx ρ)
    (hc : ∀ (done : List α) (x : α) (left : List α) (ρ : En), xs = done ++ x :: left → I done ρ → ∀ N : En → Prop, (∀ ρ', I (done ++ [x]) ρ' → N ρ') → g (enc x) ρ fun ρ1 => body { nx := N, rt := D.rt, bk := D.nx, ct := N } ρ1) : forGo g body D (xs.map enc) ρ0 := by
  refine for_ind (fun qs ρ => ∃ done left : List α, xs = done ++ left ∧ qs = left.map enc ∧ I done ρ) ?_ ?_ _ _ ⟨[], xs, rfl, rfl, h0⟩
  · rintro ρ ⟨done, left, e, eq, h⟩
    cases left with
    | nil => rw [List.append_nil] at e; subst e; exact hn ρ h
    | cons _ _ => simp at eq
  · rintro q qs ρ ⟨done, left, e, eq, h⟩ N ih
    cases left with
    | nil => simp at eq
    | cons x left =>
      simp only [List.map_cons, List.cons.injEq] at eq
      obtain ⟨rfl, rfl⟩ := eq
      exact hc done x left ρ e h N fun ρ' h' => ih _ ⟨done ++ [x], left, by rw [e]; simp, rfl, h'⟩
theorem cons_i {ρ : En} {mk fm : PV} {rows : List Rw} {f : Str} {Q : PK1} {dm : Dum Q} (hl : rows.length ≤ 20) (k : Q (.pv (.tup ((consOf rows f).map encRw))) ρ) : callR S_cons [.pv (encTb mk fm rows), .pv (.str f)] ρ Q dm :=
  call_p (ps := [encTb mk fm rows, .str f]) rfl rfl ⟨mk, fm, rows, f, rfl, hl⟩ fun r hp => by rw [hp _ _ _ _ rfl]; exact k
theorem lcons_i {ρ : En} {mk fm : PV} {rows : List Rw} {f : Str} {Q : PK1} {dm : Dum Q} (hl : rows.length ≤ 20) (k : Q (.pv (.lst ((consOf rows f).map encRw))) ρ) : callR S_lcons [.pv (encTb mk fm rows), .pv (.str f)] ρ Q dm :=
  call_p (ps := [encTb mk fm rows, .str f]) rfl rfl ⟨mk, fm, rows, f, rfl, hl⟩ fun r hp => by rw [hp _ _ _ _ rfl]; exact k
theorem shares_i {n : Nat} {ρ : En} {t m : Nat} {i j : Int} {Q : PK1} {dm : Dum Q} (ei : i = (t : Nat)) (ej : j = (m : Nat)) (hn : m < n) (hm : m ≤ 3) (ht : t ≤ 4) (k : Q (.pv (.lst ((sharesP m t).map encS))) ρ) : callR (S_shares n) [.pv (.int i), .pv (.int j)] ρ Q dm := by
  subst ei ej
  exact call_p (ps := [natI t, natI m]) rfl rfl ⟨t, m, rfl, hn, hm, ht⟩ fun r hp => by rw [hp _ _ rfl]; exact k
theorem br_i {c : Bool} {A B : Prop} (h1 : c = true → A) (h2 : c = false → B) : Br c A B := ⟨h1, h2⟩
theorem ends_rt {S : FS} {ps : List PV} {r : PV} (hf : S.fr = false) (h : ∀ outs, S.post ps r outs) (ρ : En) : (endsOf S ps).rt (.pv r) ρ ∧ (endsOf S ps).rt (.fr r) ρ := by
  unfold endsOf finOk
  simp only
  rw [hf]
  exact ⟨h _, h _⟩
theorem rng1_is (k : Nat) : rng 1 k = (List.range' 1 k).map natI := by
  rw [rng, List.range'_eq_map_range, List.map_map]
  refine List.map_congr_left fun x _ => ?_
  show PV.int _ = PV.int _
  simp
theorem shares_len : ∀ m ≤ 3, ∀ t ≤ 4, (sharesP m t).length ≤ 10 := by decide +kernel
section
variable {P : Program} {w : World} {K : PySem.W.Frag} {mg : Str → Option Value} {base : Heap}
theorem ok_cons (T : Txt K mg) : Has P w K mg base "constructors_of" 1 ["table", "family"] S_cons := by
  refine dv_constructors_of T S_cons rfl fun pvs lp pre => ?_
  obtain ⟨mk, fm, rows, f, rfl, hl⟩ := pre
  have told : S_cons.post [encTb mk fm rows, .str f] (.tup ((consOf rows f).map encRw)) [] := fun mk2 fm2 rows2 s2 e2 => by
    injection e2 with e3 e2; injection e2 with e4 _; injection e4 with e4
    rw [← encTb_inj e3, ← e4]
  unfold rd_constructors_of
  generalize hE : endsOf S_cons _ = E
  have rt : ∀ ρ, E.rt (.pv (.tup ((consOf rows f).map encRw))) ρ := fun ρ => by rw [← hE]; exact told
  show qRet _ E [.val (encTb mk fm rows), .val (.str f), .un]
  have ht0 : encTb mk fm rows = .tup [.str (Str.ofString "table"), mk, fm, .tup (rows.map encRw)] := rfl
  rw [ht0]
  walk_at "px"
  refine lcR_i (lc_filterT encRw encRw (fun r => r.fam == f) rows _ (by omega) ?_ fun x hx acc N sm k => ?_)
  · walk_at "px"
    exact rt _
  · have er : encRw x = .tup [.str x.w, .tup (x.ps.map encPt), .str x.fam, x.ix] := rfl
    rw [er] at k ⊢
    walk_at "px"
    refine ⟨fun h => ⟨sm, by rw [h] at k; exact k⟩, fun h => by rw [h] at k; simpa using k⟩
theorem ok_lcons (T : Txt K mg) : Has P w K mg base "_law_constructors" 1 ["table", "family"] S_lcons := by
  refine dv__law_constructors T S_lcons rfl fun pvs lp pre => ?_
  obtain ⟨mk, fm, rows, f, rfl, hl⟩ := pre
  have told : S_lcons.post [encTb mk fm rows, .str f] (.lst ((consOf rows f).map encRw)) [] := fun mk2 fm2 rows2 s2 e2 => by
    injection e2 with e3 e2; injection e2 with e4 _; injection e4 with e4
    rw [← encTb_inj e3, ← e4]
  unfold rd__law_constructors
  generalize hE : endsOf S_lcons _ = E
  have rt : ∀ ρ, E.rt (.fr (.lst ((consOf rows f).map encRw))) ρ := fun ρ => by rw [← hE]; exact told
  show qRet _ E [.val (encTb mk fm rows), .val (.str f), .un]
  have ht0 : encTb mk fm rows = .tup [.str (Str.ofString "table"), mk, fm, .tup (rows.map encRw)] := rfl
  rw [ht0]
  walk_at "px"
  refine lcR_i (lc_filterT encRw encRw (fun r => r.fam == f) rows _ (by omega) ?_ fun x hx acc N sm k => ?_)
  · walk_at "px"
    exact rt _
  · have er : encRw x = .tup [.str x.w, .tup (x.ps.map encPt), .str x.fam, x.ix] := rfl
    rw [er] at k ⊢
    walk_at "px"
    refine ⟨fun h => ⟨sm, by rw [h] at k; exact k⟩, fun h => by rw [h] at k; simpa using k⟩
theorem ok_shares (T : Txt K mg) : ∀ n : Nat, Has P w K mg base "shares" n ["total", "many"] (S_shares n)
  | 0 => by
    refine (Px.has_none T.d_shares (fun F => F.binds (ps := ["total", "many"]) fun _ _ _ _ _ _ us hl => match us, hl with | [_, _], _ => rfl) fun pvs h => ?_ : Has P w K mg base "shares" 0 _ _)
    obtain ⟨_, _, _, h, _⟩ := h
    omega
  | n + 1 => by
    refine dv_shares T (ok_shares T n) (S_shares (n + 1)) rfl fun pvs lp pre => ?_
    obtain ⟨t, m, rfl, hn, hm, ht⟩ := pre
    have told : (S_shares (n + 1)).post [natI t, natI m] (.lst ((sharesP m t).map encS)) [] := fun t2 m2 e2 => by
      unfold natI at e2
      simp only [List.cons.injEq, PV.int.injEq, and_true] at e2
      have e3 : t = t2 := by omega
      have e4 : m = m2 := by omega
      rw [e3, e4]
    unfold rd_shares
    generalize hE : endsOf (S_shares (n + 1)) _ = E
    have rt : ∀ r ρ, r = PV.lst ((sharesP m t).map encS) → E.rt (.fr r) ρ := fun r ρ e => by rw [← hE, e]; exact (ends_rt rfl (fun _ => told) ρ).2
    show qSeq _ _ E [.val (.int (t : Nat)), .val (.int (m : Nat)), .un, .un, .un]
    walk_at "px"
    refine br_i (fun h => br_i (fun h2 => ⟨small_of (by omega), small_of (by omega), rt _ _ ?_⟩) fun h2 => ⟨small_of (by omega), rt _ _ ?_⟩) fun h => ⟨small_of (by omega), ⟨by unfold rngOk; omega, by unfold rngOk; omega⟩, ?_⟩
    · have e1 : m = 0 := by simpa using h
      have e2 : t = 0 := by simpa using h2
      subst e1 e2
      rfl
    · have e1 : m = 0 := by simpa using h
      have e2 : t ≠ 0 := by simpa using h2
      subst e1
      rw [sharesP, if_neg e2]; rfl
    · have e1 : m ≠ 0 := by simpa using h
      obtain ⟨m, rfl⟩ : ∃ m', m = m' + 1 := ⟨m - 1, by omega⟩
      have ek : ((t : Int) - ((m + 1 : Nat) : Int) + 2 - 1).toNat = t - m := by omega
      rw [ek, rng1_is]
      refine for_mapT natI (fun done ρ => ∃ o3 : Option PV, ρ = [.val (.int (t : Nat)), .val (.int ((m + 1 : Nat) : Int)), .own false (.lst ((done.flatMap fun s => (sharesP m (t - s)).map fun r => s :: r).map encS)), plS o3, .un]) _ _ ⟨none, rfl⟩ ?_ ?_
      · rintro ρ ⟨o3, rfl⟩
        walk_at "px"
        exact rt _ _ (by rw [sharesP])
      · rintro done s left ρ e ⟨o3, rfl⟩ N ih
        have hs : s ∈ List.range' 1 (t - m) := by rw [e]; simp
        rw [List.mem_range'_1] at hs
        unfold natI
        have ls := shares_len m (by omega) (t - s) (by omega)
        have lt : (done.flatMap fun s => (sharesP m (t - s)).map fun r => s :: r).length ≤ (sharesP (m + 1) t).length := by
          rw [sharesP, e, List.flatMap_append, List.length_append]; omega
        have lt2 := shares_len (m + 1) hm t ht
        walk_at "px"
        refine shares_i (t := t - s) (m := m) (by omega) (by omega) (by omega) (by omega) (by omega) ?_
        walk_at "px"
        refine lcR_i (lc_mapT encS (fun r => encS (s :: r)) _ _ (by omega) ?_ fun x hx acc N2 sm k => ?_)
        · walk_at "px"
          refine ⟨small_of (by omega), ih _ ⟨some (natI s), ?_⟩⟩
          rw [List.flatMap_append, List.map_append, List.flatMap_singleton, List.map_map]
          rfl
        · unfold encS at k ⊢
          have hx2 := (sharesP_mem _ _ _).mp hx
          walk_at "px"
          exact ⟨small_of (by omega), small_of (by omega), sm, k⟩
end

end Lw
set_option maxHeartbeats 4000000
namespace Lw
open PySem L2 PyProof.Rows Px
local macro_rules | `(tactic| walk_at "px") => `(tactic| simp -dsimp only [qVar, qK, qNil, qCons, qTup, qLst, vals, looks, R.look, R.wk, qCB, qB, qOp2, qTru, truG, qAnd, qOr, qNot, qAndV, qOrV, qNotV, qIfE, qNo, qPart, qSl, gSl, qIt, qRng1, qRng2, qgN, qgNil, qgCons, qgT, notIo_zero, notIo_succ, notIo_nil', slOk_un, slOk_val, slOk_own, slOk_pl, slOk_pd, notIos_nil, notIos_cons, qYes, qLc, qNext, qSeq, qBreak, qCont, qFrz, frz, qDrop, retG, qRet, qRetN, qIf, qSet, qOwn, qAsg, qFor, qMut, ownTy, gAppend, gExtend, gPop, isOwn, qSetIx, qCall, splitArgs, putOuts, setOwn, finOk, endsOf, mk, outsOf, uns,
  gAdd, gInt, gInt0, gEq, gNe, gIn, gNotIn, gIs, gIsNot, Px.isNon, gIx, getP, gLen, gAbs, gIntC, gSum, gMax, gMax2, gMax3, gMinT, gAll, gAny, gList, gTuple, gIsi, qNeg, qDict0, wipeE, lcGo_nil, br_t, br_f, atI_0, atI_1, atI_2, atI_3, ixN_0, ixN_1, ixN_2, ixN_3, List.length_map, List.length_set, cut_from1, isTy, tyN, gIsiT, asTys, gListD, keyP, isDic, qGet1, qGet2, qLZ, gZip, qPairs, mergeP, qDisp, gDictC, gStr, qChain, qPar, qAug, qMeth, tyIs, gIndex, qLcK, qDc, qDcK, dicAt, qForK, qZipI, qCallB, qCallF, splitB, qTake, tkEnds, tkRt, tkBack, Px.isN, isNst, gIxN, gPop0, gInsert, qSetSeed, qStep, qPar3, qLcO, lcoK, stEnds, stGo, immS, Px.imm, endsLaw, Option.isSome_some, Option.isSome_none, isEmp_concat, List.getLast?_concat, List.dropLast_concat, List.isEmpty_nil, gEqX, gNeX, List.any_cons, List.any_nil, tyOk_str, tyOk_tuple, tyOk_int, tyOk_bool, tyOk_list, tyOk_dict, Option.map_some, Option.map_none,
  eqOk_str, eqOk_int, eqOk_bl, eqOk_non, eqOkW_str, eqOkW_int, eqOkW_bl, eqOkW_non, gEqW, gNeW, qVals, ownDic, qLc2, gLtX, gGtX, gSortX, peq_str, peq_int, peq_bl, List.getElem?_cons_zero, List.getElem?_cons_succ, List.getElem?_nil, List.set_cons_zero, List.set_cons_succ, List.zipWith_cons_cons, List.zipWith_nil_left, List.replicate_succ, List.replicate_zero, List.cons_append, List.nil_append, List.length_cons, List.length_nil, List.map_cons, List.map_nil, ↓reduceIte, Bool.false_eq_true, and_true, true_and, Bool.not_true, Bool.not_false, Nat.reduceAdd, Nat.reduceLT, Nat.reduceLeDiff, Nat.zero_lt_succ, Nat.lt_add_one, ne_eq, not_true_eq_false, not_false_eq_true, String.reduceEq, String.reduceBEq, Bool.or_false, Bool.false_or, Bool.or_true, Bool.true_or, Bool.and_false, Bool.and_true, Bool.false_and, Bool.true_and, reduceCtorEq])
/-! ### sorted lists of raw values -/
theorem lstlt_irr : ∀ x : List Nat, ¬ x < x
  | [], h => by simp at h
  | a :: x, h => by
    rw [lt_cons] at h
    rcases h with h | h
    · omega
    · exact lstlt_irr x h.2
theorem lstlt_trans : ∀ {x y z : List Nat}, x < y → y < z → x < z
  | [], [], _, h, _ => by simp at h
  | [], _ :: _, [], _, h => by simp at h
  | [], _ :: _, _ :: _, _, _ => by simp
  | _ :: _, [], _, h, _ => by simp at h
  | _ :: _, _ :: _, [], _, h => by simp at h
  | a :: x, b :: y, c :: z, h1, h2 => by
    rw [lt_cons] at h1 h2 ⊢
    rcases h1 with h1 | h1
    · rcases h2 with h2 | h2
      · left; omega
      · left; omega
    · rcases h2 with h2 | h2
      · left; omega
      · exact .inr ⟨by omega, lstlt_trans h1.2 h2.2⟩
theorem lstlt_tot : ∀ {x y : List Nat}, x ≠ y → x < y ∨ y < x
  | [], [], h => absurd rfl h
  | [], _ :: _, _ => by simp
  | _ :: _, [], _ => by simp
  | a :: x, b :: y, h => by
    rw [lt_cons, lt_cons]
    by_cases e : a = b
    · subst e
      rcases lstlt_tot (x := x) (y := y) (fun z => h (by rw [z])) with h | h
      · exact .inl (.inr ⟨rfl, h⟩)
      · exact .inr (.inr ⟨rfl, h⟩)
    · by_cases l : a < b
      · exact .inl (.inl l)
      · exact .inr (.inl (by omega))
theorem ltV_iff {rows : List Rw} {a b : PV} : ltV rows a b = true ↔ ser (wsO rows) a < ser (wsO rows) b := by
  unfold ltV; rw [decide_eq_true_iff]
theorem ltV_trans {rows : List Rw} {a b c : PV} (h1 : ltV rows a b = true) (h2 : ltV rows b c = true) : ltV rows a c = true := by
  rw [ltV_iff] at h1 h2 ⊢
  exact lstlt_trans h1 h2
theorem ltV_irr {rows : List Rw} {a : PV} : ltV rows a a ≠ true := by
  intro h; rw [ltV_iff] at h; exact lstlt_irr _ h
theorem ltV_tot {rows : List Rw} {a b : PV} (ha : isRaw rows a = true) (hb : isRaw rows b = true) (n : a ≠ b) (h : ltV rows a b ≠ true) : ltV rows b a = true := by
  rw [ne_eq, ltV_iff] at h
  rw [ltV_iff]
  have ne : ser (wsO rows) a ≠ ser (wsO rows) b := fun e => n (ser_inj a b ha hb e)
  exact (lstlt_tot ne).resolve_left h
def Srt (rows : List Rw) (xs : List PV) : Prop := xs.Pairwise fun a b => ltV rows a b = true
def insS (rows : List Rw) (v : PV) : List PV → List PV
  | [] => [v]
  | x :: xs => if ltV rows x v = true then x :: insS rows v xs else v :: x :: xs
def plc (rows : List Rw) (v : PV) (xs : List PV) : Nat := (xs.takeWhile fun x => ltV rows x v).length
theorem insS_eq (rows : List Rw) (v : PV) : ∀ xs : List PV, xs.take (plc rows v xs) ++ v :: xs.drop (plc rows v xs) = insS rows v xs
  | [] => rfl
  | x :: xs => by
    unfold plc insS
    rw [List.takeWhile_cons]
    by_cases h : ltV rows x v = true
    · rw [if_pos h, if_pos h, List.length_cons, List.take_succ_cons, List.drop_succ_cons, List.cons_append]
      rw [← insS_eq rows v xs]; rfl
    · rw [if_neg h, if_neg h]; rfl
theorem plc_le (rows : List Rw) (v : PV) (xs : List PV) : plc rows v xs ≤ xs.length := (List.takeWhile_sublist _).length_le
theorem plc_filter {rows : List Rw} {v : PV} : ∀ {xs : List PV}, Srt rows xs → (xs.filter fun x => ltV rows x v).length = plc rows v xs
  | [], _ => rfl
  | x :: xs, h => by
    obtain ⟨h1, h2⟩ := List.pairwise_cons.mp h
    have ih := plc_filter (v := v) h2
    unfold plc at ih ⊢
    rw [List.takeWhile_cons, List.filter_cons]
    by_cases c : ltV rows x v = true
    · rw [if_pos c, if_pos c, List.length_cons, List.length_cons, ih]
    · rw [if_neg c, if_neg c]
      have : xs.filter (fun x => ltV rows x v) = [] := by
        rw [List.filter_eq_nil_iff]
        intro y hy hc
        exact c (ltV_trans (h1 y hy) hc)
      rw [this]
theorem mem_insS {rows : List Rw} {v x : PV} : ∀ {xs : List PV}, x ∈ insS rows v xs ↔ x = v ∨ x ∈ xs
  | [] => by simp [insS]
  | y :: xs => by
    rw [insS]
    split
    · rw [List.mem_cons, mem_insS (xs := xs), List.mem_cons]
      constructor
      · rintro (h | h | h)
        · exact .inr (.inl h)
        · exact .inl h
        · exact .inr (.inr h)
      · rintro (h | h | h)
        · exact .inr (.inl h)
        · exact .inl h
        · exact .inr (.inr h)
    · rw [List.mem_cons]
theorem len_insS {rows : List Rw} {v : PV} : ∀ {xs : List PV}, (insS rows v xs).length = xs.length + 1
  | [] => rfl
  | y :: xs => by
    rw [insS]
    split
    · rw [List.length_cons, len_insS (xs := xs), List.length_cons]
    · rfl
theorem srt_ins {rows : List Rw} {v : PV} (hv : isRaw rows v = true) : ∀ {xs : List PV}, Srt rows xs → (∀ x ∈ xs, isRaw rows x = true) → v ∉ xs → Srt rows (insS rows v xs)
  | [], _, _, _ => by unfold Srt insS; simp
  | x :: xs, h, hr, n => by
    obtain ⟨h1, h2⟩ := List.pairwise_cons.mp h
    have ih := srt_ins hv h2 (fun y hy => hr y (List.mem_cons_of_mem _ hy)) fun z => n (List.mem_cons_of_mem _ z)
    rw [insS]
    split
    · rename_i c
      refine List.pairwise_cons.mpr ⟨fun y hy => ?_, ih⟩
      rcases mem_insS.mp hy with rfl | hy
      · exact c
      · exact h1 y hy
    · rename_i c
      have vx : ltV rows v x = true := ltV_tot (hr x List.mem_cons_self) hv (fun z => n (by rw [z]; exact List.mem_cons_self)) c
      refine List.pairwise_cons.mpr ⟨fun y hy => ?_, h⟩
      rcases List.mem_cons.mp hy with rfl | hy
      · exact vx
      · exact ltV_trans vx (h1 y hy)
theorem srt_ext {rows : List Rw} : ∀ {xs ys : List PV}, Srt rows xs → Srt rows ys → (∀ v, v ∈ xs ↔ v ∈ ys) → xs = ys
  | [], [], _, _, _ => rfl
  | [], y :: ys, _, _, h => by have := (h y).mpr List.mem_cons_self; simp at this
  | x :: xs, [], _, _, h => by have := (h x).mp List.mem_cons_self; simp at this
  | x :: xs, y :: ys, h1, h2, h => by
    obtain ⟨a1, a2⟩ := List.pairwise_cons.mp h1
    obtain ⟨b1, b2⟩ := List.pairwise_cons.mp h2
    have exy : x = y := by
      rcases List.mem_cons.mp ((h x).mp List.mem_cons_self) with e | m
      · exact e
      rcases List.mem_cons.mp ((h y).mpr List.mem_cons_self) with e | m2
      · exact e.symm
      exact absurd (ltV_trans (a1 y m2) (b1 x m)) ltV_irr
    subst exy
    congr 1
    refine srt_ext a2 b2 fun v => ?_
    constructor
    · intro hv
      rcases List.mem_cons.mp ((h v).mp (List.mem_cons_of_mem _ hv)) with e | m
      · subst e; exact absurd (a1 v hv) ltV_irr
      · exact m
    · intro hv
      rcases List.mem_cons.mp ((h v).mpr (List.mem_cons_of_mem _ hv)) with e | m
      · subst e; exact absurd (b1 v hv) ltV_irr
      · exact m
/-! ### how many -/
theorem fm_len {α β : Type} {g : α → List β} {c : Nat} : ∀ {xs : List α}, (∀ x ∈ xs, (g x).length ≤ c) → (xs.flatMap g).length ≤ xs.length * c
  | [], _ => by simp
  | x :: xs, h => by
    have := h x List.mem_cons_self
    have := fm_len (xs := xs) fun y hy => h y (List.mem_cons_of_mem _ hy)
    rw [List.flatMap_cons, List.length_append, List.length_cons, Nat.succ_mul]; omega
def bB : Nat → Nat
  | 0 => 0 | 1 => 8 | 2 => 64 | 3 => 512 | _ => 8192
def prodZ (R : Str → Nat → List PV) (zs : List ((Str × PV) × Nat)) (rows : List (List PV)) : List (List PV) := zs.foldl (fun rows z => rows.flatMap fun row => (R z.1.1 z.2).map fun v => row ++ [v]) rows
theorem prodP_Z {R : Str → Nat → List PV} : ∀ (ps : List (Str × PV)) (ss : List Nat) (rows : List (List PV)), prodP R ps ss rows = prodZ R (ps.zip ss) rows
  | [], _, _ => by rw [prodP]; rfl; simp
  | _ :: _, [], _ => by rw [prodP]; rfl; simp
  | p :: ps, s :: ss, rows => by
    rw [prodP, prodP_Z ps ss]; rfl
theorem prodZ_len {R : Str → Nat → List PV} {c : Nat} : ∀ (zs : List ((Str × PV) × Nat)) (rows : List (List PV)), (∀ z ∈ zs, (R z.1.1 z.2).length ≤ c) → (prodZ R zs rows).length ≤ rows.length * c ^ zs.length
  | [], rows, _ => by simp [prodZ]
  | z :: zs, rows, h => by
    show (prodZ R zs (rows.flatMap fun row => (R z.1.1 z.2).map fun v => row ++ [v])).length ≤ _
    refine Nat.le_trans (prodZ_len zs _ fun y hy => h y (List.mem_cons_of_mem _ hy)) ?_
    rw [List.length_cons, Nat.pow_succ, Nat.mul_comm (c ^ zs.length) c, ← Nat.mul_assoc]
    refine Nat.mul_le_mul_right _ (fm_len fun row _ => ?_)
    rw [List.length_map]
    exact h z List.mem_cons_self
theorem prod1 {R : Str → Nat → List PV} {p : Str × PV} {s : Nat} {h : PV} : (prodP R [p] [s] [[h]]).length = (R p.1 s).length := by simp [prodP]
theorem prod2 {R : Str → Nat → List PV} {p q : Str × PV} {s u : Nat} {h : PV} : (prodP R [p, q] [s, u] [[h]]).length ≤ (R p.1 s).length * (R q.1 u).length := by
  simp only [prodP, List.flatMap_cons, List.flatMap_nil, List.append_nil]
  refine Nat.le_trans (fm_len (c := (R q.1 u).length) fun x _ => by rw [List.length_map]; exact Nat.le_refl _) ?_
  rw [List.length_map]; exact Nat.le_refl _
theorem rawC_len {R : Str → Nat → List PV} (hR : ∀ f s, 1 ≤ s → s ≤ 3 → (R f s).length ≤ bB s) {r : Rw} (hr : r.ps.length ≤ 2) {t : Nat} (h1 : 1 ≤ t) (h4 : t ≤ 4) : (rawC R t r).length * 8 ≤ bB t := by
  have e00 : sharesP 0 0 = [[]] := by decide
  have e01 : sharesP 0 1 = [] := by decide
  have e02 : sharesP 0 2 = [] := by decide
  have e03 : sharesP 0 3 = [] := by decide
  have e10 : sharesP 1 0 = [] := by decide
  have e11 : sharesP 1 1 = [[1]] := by decide
  have e12 : sharesP 1 2 = [[2]] := by decide
  have e13 : sharesP 1 3 = [[3]] := by decide
  have e20 : sharesP 2 0 = [] := by decide
  have e21 : sharesP 2 1 = [] := by decide
  have e22 : sharesP 2 2 = [[1, 1]] := by decide
  have e23 : sharesP 2 3 = [[1, 2], [2, 1]] := by decide
  have b1 : bB 1 = 8 := rfl
  have b2 : bB 2 = 64 := rfl
  have b3 : bB 3 = 512 := rfl
  have b4 : bB 4 = 8192 := rfl
  have ht : t = 1 ∨ t = 2 ∨ t = 3 ∨ t = 4 := by omega
  unfold rawC
  match hps : r.ps, hr with
  | [], _ =>
    rcases ht with rfl | rfl | rfl | rfl
    · simp only [List.length_nil, Nat.reduceSub, e00, List.flatMap_cons, List.flatMap_nil, List.append_nil]; simp [prodP, bB]
    · simp only [List.length_nil, Nat.reduceSub, e01, List.flatMap_nil]; simp
    · simp only [List.length_nil, Nat.reduceSub, e02, List.flatMap_nil]; simp
    · simp only [List.length_nil, Nat.reduceSub, e03, List.flatMap_nil]; simp
  | [p], _ =>
    have r1 := hR p.1 1 (by omega) (by omega)
    have r2 := hR p.1 2 (by omega) (by omega)
    have r3 := hR p.1 3 (by omega) (by omega)
    rcases ht with rfl | rfl | rfl | rfl
    · simp only [List.length_cons, List.length_nil, Nat.reduceSub, Nat.reduceAdd, e10, List.flatMap_nil]; simp
    · simp only [List.length_cons, List.length_nil, Nat.reduceSub, Nat.reduceAdd, e11, List.flatMap_cons, List.flatMap_nil, List.append_nil, prod1]; omega
    · simp only [List.length_cons, List.length_nil, Nat.reduceSub, Nat.reduceAdd, e12, List.flatMap_cons, List.flatMap_nil, List.append_nil, prod1]; omega
    · simp only [List.length_cons, List.length_nil, Nat.reduceSub, Nat.reduceAdd, e13, List.flatMap_cons, List.flatMap_nil, List.append_nil, prod1]; omega
  | [p, q], _ =>
    have r1 := hR p.1 1 (by omega) (by omega)
    have r2 := hR p.1 2 (by omega) (by omega)
    have q1 := hR q.1 1 (by omega) (by omega)
    have q2 := hR q.1 2 (by omega) (by omega)
    rw [b1] at r1 q1
    rw [b2] at r2 q2
    have m11 := Nat.mul_le_mul r1 q1
    have m12 := Nat.mul_le_mul r1 q2
    have m21 := Nat.mul_le_mul r2 q1
    have d11 := prod2 (R := R) (p := p) (q := q) (s := 1) (u := 1) (h := .str r.w)
    have d12 := prod2 (R := R) (p := p) (q := q) (s := 1) (u := 2) (h := .str r.w)
    have d21 := prod2 (R := R) (p := p) (q := q) (s := 2) (u := 1) (h := .str r.w)
    rcases ht with rfl | rfl | rfl | rfl
    · simp only [List.length_cons, List.length_nil, Nat.reduceSub, Nat.reduceAdd, e20, List.flatMap_nil]; simp
    · simp only [List.length_cons, List.length_nil, Nat.reduceSub, Nat.reduceAdd, e21, List.flatMap_nil]; simp
    · simp only [List.length_cons, List.length_nil, Nat.reduceSub, Nat.reduceAdd, e22, List.flatMap_cons, List.flatMap_nil, List.append_nil]; omega
    · simp only [List.length_cons, List.length_nil, Nat.reduceSub, Nat.reduceAdd, e23, List.flatMap_cons, List.flatMap_nil, List.append_nil, List.length_append]; omega
theorem rawP_len {rows : List Rw} (tk : TabOk rows) (l8 : rows.length ≤ 8) : ∀ (n : Nat) (f : Str) (t : Nat), 1 ≤ t → t ≤ 4 → (rawP rows n f t).length ≤ bB t
  | 0, _, _, _, _ => by rw [rawP]; exact Nat.zero_le _
  | n + 1, f, t, h1, h4 => by
    have hR := rawP_len tk l8 n
    rw [rawP, List.length_map]
    have hc : ∀ r ∈ consOf rows f, (rawC (rawP rows n) t r).length ≤ bB t / 8 := fun r hr => by
      have := rawC_len (fun f s h1 h3 => hR f s h1 (by omega)) (tk.row r (List.mem_filter.mp hr).1).len h1 h4
      omega
    have := fm_len (g := fun r => rawC (rawP rows n) t r) hc
    have lc : (consOf rows f).length ≤ 8 := Nat.le_trans (List.length_filter_le _ _) l8
    have := Nat.mul_le_mul_right (bB t / 8) lc
    omega
theorem nodup_le {α : Type} : ∀ {xs ys : List α}, xs.Nodup → (∀ x ∈ xs, x ∈ ys) → xs.length ≤ ys.length
  | [], _, _, _ => Nat.zero_le _
  | x :: xs, ys, h, hs => by
    obtain ⟨h1, h2⟩ := List.nodup_cons.mp h
    obtain ⟨a, b, rfl⟩ := List.append_of_mem (hs x List.mem_cons_self)
    have := nodup_le (xs := xs) (ys := a ++ b) h2 fun y hy => by
      have m := hs y (List.mem_cons_of_mem _ hy)
      rw [List.mem_append, List.mem_cons] at m
      rw [List.mem_append]
      rcases m with m | rfl | m
      · exact .inl m
      · exact absurd hy h1
      · exact .inr m
    simp only [List.length_append, List.length_cons] at this ⊢
    omega
theorem lrawL_len {rows : List Rw} (tk : TabOk rows) (l8 : rows.length ≤ 8) (n : Nat) (f : Str) (t : Nat) (h1 : 1 ≤ t) (h4 : t ≤ 4) : (lrawL rows n f t).length ≤ bB t :=
  Nat.le_trans (nodup_le (lrawL_nd tk n f t h1) fun v hv => (raw_same rows n f t v).mpr hv) (rawP_len tk l8 n f t h1 h4)
theorem bB_3 {s : Nat} (h : s ≤ 3) : bB s ≤ 512 := by
  have : s = 0 ∨ s = 1 ∨ s = 2 ∨ s = 3 := by omega
  rcases this with rfl | rfl | rfl | rfl <;> decide
theorem bB_2 {s : Nat} (h : s ≤ 2) : bB s ≤ 64 := by
  have : s = 0 ∨ s = 1 ∨ s = 2 := by omega
  rcases this with rfl | rfl | rfl <;> decide
theorem bB_4 (s : Nat) (h : s ≤ 4) : bB s ≤ 8192 := by
  have : s = 0 ∨ s = 1 ∨ s = 2 ∨ s = 3 ∨ s = 4 := by omega
  rcases this with rfl | rfl | rfl | rfl | rfl <;> decide
theorem lstepL_len {R : Str → Nat → List PV} {p : Str × PV} {rests : List (List PV × Nat)} {k c : Nat} (hx : ∀ x ∈ rests, x.2 ≤ k) (hR : ∀ s, 1 ≤ s → s ≤ k → (R p.1 s).length ≤ c) : (lstepL R p rests).length ≤ rests.length * (k * c) := by
  refine fm_len fun x h => ?_
  have hk := hx x h
  refine Nat.le_trans (fm_len (c := c) fun s hs => ?_) ?_
  · rw [List.mem_range'_1] at hs
    rw [List.length_map]
    exact hR s hs.1 (by omega)
  · rw [List.length_range']
    exact Nat.mul_le_mul_right _ hk
theorem lfold_len {R : Str → Nat → List PV} (hR : ∀ f s, 1 ≤ s → s ≤ 3 → (R f s).length ≤ bB s) {h : List PV} {t : Nat} (ht : t ≤ 3) : ∀ ps : List (Str × PV), ps.length ≤ 2 → (lfold R ps [(h, t)]).length ≤ 200000
  | [], _ => by show 1 ≤ 200000; omega
  | [p], _ => by
    have := lstepL_len (R := R) (p := p) (rests := [(h, t)]) (k := 3) (c := 512) (fun x hx => by rw [List.mem_singleton.mp hx]; exact ht) fun s h1 h3 => Nat.le_trans (hR _ s h1 h3) (bB_3 h3)
    simp only [List.length_singleton] at this
    show (lstepL R p [(h, t)]).length ≤ _
    omega
  | [p, q], _ => by
    have a := lstepL_len (R := R) (p := p) (rests := [(h, t)]) (k := 3) (c := 512) (fun x hx => by rw [List.mem_singleton.mp hx]; exact ht) fun s h1 h3 => Nat.le_trans (hR _ s h1 h3) (bB_3 h3)
    have b := lstepL_len (R := R) (p := q) (rests := lstepL R p [(h, t)]) (k := 2) (c := 64) (fun x hx => by
      obtain ⟨z, hz, s, v, h1, h2, _, rfl⟩ := lstepL_mem.mp hx
      rw [List.mem_singleton.mp hz]
      simp only; omega) fun s h1 h3 => Nat.le_trans (hR _ s h1 (by omega)) (bB_2 h3)
    simp only [List.length_singleton] at a
    show (lstepL R q (lstepL R p [(h, t)])).length ≤ _
    have := Nat.mul_le_mul_right (2 * 64) a
    omega
theorem fm_pre {α β : Type} {g : α → List β} {xs dn lf : List α} (e : xs = dn ++ lf) : (dn.flatMap g).length ≤ (xs.flatMap g).length := by
  rw [e, List.flatMap_append, List.length_append]; omega

end Lw
set_option maxHeartbeats 4000000
namespace Lw
open PySem L2 PyProof.Rows Px
def S_rawf (n : Nat) : FS := { io := [false, false, false], pre := fun ps => ∃ (mk fm : PV) (rows : List Rw) (f : Str) (t : Nat), ps = [encTb mk fm rows, .str f, natI t] ∧ TabOk rows ∧ rows.length ≤ 8 ∧ 1 ≤ t ∧ t ≤ 4 ∧ t ≤ n, post := fun ps r _ => ∀ (mk fm : PV) (rows : List Rw) (f : Str) (t : Nat), ps = [encTb mk fm rows, .str f, natI t] → r = .lst (rawP rows n f t) }
def S_lrawf (n : Nat) : FS := { io := [false, false, false], pre := fun ps => ∃ (mk fm : PV) (rows : List Rw) (f : Str) (t : Nat), ps = [encTb mk fm rows, .str f, natI t] ∧ TabOk rows ∧ rows.length ≤ 8 ∧ 1 ≤ t ∧ t ≤ 4 ∧ t ≤ n, post := fun ps r _ => ∀ (mk fm : PV) (rows : List Rw) (f : Str) (t : Nat), ps = [encTb mk fm rows, .str f, natI t] → r = .lst (lrawL rows n f t) }
theorem S_rawf_fr (n : Nat) : (S_rawf n).fr = false := rfl
theorem S_rawf_io (n : Nat) : (S_rawf n).io = [false, false, false] := rfl
theorem S_lrawf_fr (n : Nat) : (S_lrawf n).fr = false := rfl
theorem S_lrawf_io (n : Nat) : (S_lrawf n).io = [false, false, false] := rfl
def S_beh : FS := { io := [false, false, false], pre := fun ps => ∃ (mk fm : PV) (rows : List Rw) (v : PV) (xs : List PV), ps = [encTb mk fm rows, v, .lst xs] ∧ TabOk rows ∧ isRaw rows v = true ∧ dep v ≤ 20 ∧ (∀ x ∈ xs, isRaw rows x = true ∧ dep x ≤ 20), post := fun ps r _ => ∀ (mk fm : PV) (rows : List Rw) (v : PV) (xs : List PV), ps = [encTb mk fm rows, v, .lst xs] → r = .int (plc rows v xs : Nat) }
theorem S_beh_fr : S_beh.fr = false := rfl
theorem S_beh_io : S_beh.io = [false, false, false] := rfl
local macro_rules | `(tactic| walk_at "px") => `(tactic| simp -dsimp only [qVar, qK, qNil, qCons, qTup, qLst, vals, looks, R.look, R.wk, qCB, qB, qOp2, qTru, truG, qAnd, qOr, qNot, qAndV, qOrV, qNotV, qIfE, qNo, qPart, qSl, gSl, qIt, qRng1, qRng2, qgN, qgNil, qgCons, qgT, notIo_zero, notIo_succ, notIo_nil', slOk_un, slOk_val, slOk_own, slOk_pl, slOk_pd, notIos_nil, notIos_cons, qYes, qLc, qNext, qSeq, qBreak, qCont, qFrz, frz, qDrop, retG, qRet, qRetN, qIf, qSet, qOwn, qAsg, qFor, qMut, ownTy, gAppend, gExtend, gPop, isOwn, qSetIx, qCall, splitArgs, putOuts, setOwn, finOk, endsOf, mk, outsOf, uns,
  gAdd, gInt, gInt0, gEq, gNe, gIn, gNotIn, gIs, gIsNot, Px.isNon, gIx, getP, gLen, gAbs, gIntC, gSum, gMax, gMax2, gMax3, gMinT, gAll, gAny, gList, gTuple, gIsi, qNeg, qDict0, wipeE, lcGo_nil, br_t, br_f, atI_0, atI_1, atI_2, atI_3, ixN_0, ixN_1, ixN_2, ixN_3, List.length_map, List.length_set, cut_from1, isTy, tyN, gIsiT, asTys, gListD, keyP, isDic, qGet1, qGet2, qLZ, gZip, qPairs, mergeP, qDisp, gDictC, gStr, qChain, qPar, qAug, qMeth, tyIs, gIndex, qLcK, qDc, qDcK, dicAt, qForK, qZipI, qCallB, qCallF, splitB, qTake, tkEnds, tkRt, tkBack, Px.isN, isNst, gIxN, gPop0, gInsert, qSetSeed, qStep, qPar3, qLcO, lcoK, stEnds, stGo, immS, Px.imm, endsLaw, Option.isSome_some, Option.isSome_none, isEmp_concat, List.getLast?_concat, List.dropLast_concat, List.isEmpty_nil, gEqX, gNeX, List.any_cons, List.any_nil, tyOk_str, tyOk_tuple, tyOk_int, tyOk_bool, tyOk_list, tyOk_dict, Option.map_some, Option.map_none,
  eqOk_str, eqOk_int, eqOk_bl, eqOk_non, eqOkW_str, eqOkW_int, eqOkW_bl, eqOkW_non, gEqW, gNeW, qVals, ownDic, qLc2, gLtX, gGtX, gSortX, peq_str, peq_int, peq_bl, List.getElem?_cons_zero, List.getElem?_cons_succ, List.getElem?_nil, List.set_cons_zero, List.set_cons_succ, List.zipWith_cons_cons, List.zipWith_nil_left, List.replicate_succ, List.replicate_zero, List.cons_append, List.nil_append, List.length_cons, List.length_nil, List.map_cons, List.map_nil, ↓reduceIte, Bool.false_eq_true, and_true, true_and, Bool.not_true, Bool.not_false, Nat.reduceAdd, Nat.reduceLT, Nat.reduceLeDiff, Nat.zero_lt_succ, Nat.lt_add_one, ne_eq, not_true_eq_false, not_false_eq_true, String.reduceEq, String.reduceBEq, Bool.or_false, Bool.false_or, Bool.or_true, Bool.true_or, Bool.and_false, Bool.and_true, Bool.false_and, Bool.true_and, reduceCtorEq, S_rawf_fr, S_rawf_io, S_lrawf_fr, S_lrawf_io, S_beh_fr, S_beh_io, S_bef_fr, S_bef_io, S_cons_fr, S_cons_io, S_lcons_fr, S_lcons_io, S_shares_fr, S_shares_io])
/-- a comprehension of two, by what holds ahead of the rest -/
theorem lc2_ind {g g1 : QTG} {tt tt1 : QTT} {ti1 : QTI} {te : QT} {vs vs1 : List Nat} {Q : List PV → En → Prop} (I : List PV → List PV → En → Prop) (hn : ∀ acc ρ, I [] acc ρ → Q acc ρ)
    (hc : ∀ p ps acc ρ, I (p :: ps) acc ρ → ∀ N : List PV → En → Prop, (∀ acc' ρ', I ps acc' ρ' → N acc' ρ') → g p ρ fun ρ1 => tt ρ1 fun b ρ2 => Br b (ti1 ρ2 fun qs ρ3 => notIos ρ3 vs1 ∧ lcGo g1 tt1 te vs1 (fun acc' ρ4 => notIos ρ4 vs ∧ N acc' (wipeE ρ4 vs)) qs acc (wipeE ρ3 vs1))
      (notIos ρ2 vs ∧ N acc (wipeE ρ2 vs))) : ∀ ps acc ρ, I ps acc ρ → lc2Go g tt ti1 g1 tt1 te vs vs1 Q ps acc ρ
  | [], acc, ρ, h => hn acc ρ h
  | p :: ps, acc, ρ, h => hc p ps acc ρ h (lc2Go g tt ti1 g1 tt1 te vs vs1 Q ps) fun acc' ρ' h' => lc2_ind I hn hc ps acc' ρ' h'
theorem lc2R_i {g g1 : QTG} {tt tt1 : QTT} {ti1 : QTI} {te : QT} {vs vs1 : List Nat} {ps : List PV} {ρ : En} {Q : PK1} {dm : Dum Q} (h : lc2Go g tt ti1 g1 tt1 te vs vs1 (fun acc ρ' => Q (.fr (.lst acc)) ρ') ps [] ρ) : lc2R g tt ti1 g1 tt1 te vs vs1 ps ρ Q dm := h
/-- a comprehension that goes on with a list -/
theorem lc_mapA {α : Type} {g : QTG} {tt : QTT} {te : QT} {vs : List Nat} {Q : List PV → En → Prop} (enc f : α → PV) (xs : List α) (a0 : List PV) (ρ0 : En) (hl : a0.length + xs.length ≤ 999999) (hq : Q (a0 ++ xs.map f) ρ0)
    (hc : ∀ x ∈ xs, ∀ (acc : List PV) (N : List PV → En → Prop), small (acc.length + 1) → N (acc ++ [f x]) ρ0 → g (enc x) ρ0 fun ρ1 => tt ρ1 fun b ρ2 => Br b (te ρ2 fun r ρ3 => match r.wk with
      | .pv q => small (acc.length + 1) ∧ notIos ρ3 vs ∧ N (acc ++ [q]) (wipeE ρ3 vs)
      | _ => False) (notIos ρ2 vs ∧ N acc (wipeE ρ2 vs))) : lcGo g tt te vs Q (xs.map enc) a0 ρ0 := by
  refine lc_ind (fun qs acc ρ => ∃ done left : List α, xs = done ++ left ∧ qs = left.map enc ∧ acc = a0 ++ done.map f ∧ ρ = ρ0) ?_ ?_ _ _ _ ⟨[], xs, rfl, rfl, by simp, rfl⟩
  · rintro acc ρ ⟨done, left, e, eq, rfl, rfl⟩
    cases left with
    | nil => rw [List.append_nil] at e; subst e; exact hq
    | cons _ _ => simp at eq
  · rintro q qs acc ρ ⟨done, left, e, eq, rfl, rfl⟩ N ih
    cases left with
    | nil => simp at eq
    | cons x left =>
      simp only [List.map_cons, List.cons.injEq] at eq
      obtain ⟨rfl, rfl⟩ := eq
      have := congrArg List.length e
      simp only [List.length_append, List.length_cons] at this
      exact hc x (by rw [e]; simp) _ N (small_of (by simp only [List.length_append, List.length_map]; omega)) (ih _ _ ⟨done ++ [x], left, by rw [e]; simp, rfl, by simp, rfl⟩)
theorem lc_mapP {g : QTG} {tt : QTT} {te : QT} {vs : List Nat} {Q : List PV → En → Prop} (f : PV → PV) (xs : List PV) (a0 : List PV) (ρ0 : En) (hl : a0.length + xs.length ≤ 999999) (hq : Q (a0 ++ xs.map f) ρ0)
    (hc : ∀ x ∈ xs, ∀ (acc : List PV) (N : List PV → En → Prop), small (acc.length + 1) → N (acc ++ [f x]) ρ0 → g x ρ0 fun ρ1 => tt ρ1 fun b ρ2 => Br b (te ρ2 fun r ρ3 => match r.wk with
      | .pv q => small (acc.length + 1) ∧ notIos ρ3 vs ∧ N (acc ++ [q]) (wipeE ρ3 vs)
      | _ => False) (notIos ρ2 vs ∧ N acc (wipeE ρ2 vs))) : lcGo g tt te vs Q xs a0 ρ0 := by
  have := lc_mapA (g := g) (tt := tt) (te := te) (vs := vs) (Q := Q) id f xs a0 ρ0 hl hq hc
  rwa [List.map_id] at this
/-- .. of two, each item of the first with each of the second -/
theorem lc2_mapT {α : Type} {g g1 : QTG} {tt tt1 : QTT} {ti1 : QTI} {te : QT} {vs vs1 : List Nat} {Q : List PV → En → Prop} (enc : α → PV) (f : α → List PV) (xs : List α) (ρ0 : En) (hq : Q (xs.flatMap f) ρ0)
    (hc : ∀ (dn : List α) (x : α) (lf : List α), xs = dn ++ x :: lf → ∀ N : List PV → En → Prop, N (dn.flatMap f ++ f x) ρ0 → g (enc x) ρ0 fun ρ1 => tt ρ1 fun b ρ2 => Br b (ti1 ρ2 fun qs ρ3 => notIos ρ3 vs1 ∧ lcGo g1 tt1 te vs1 (fun acc' ρ4 => notIos ρ4 vs ∧ N acc' (wipeE ρ4 vs)) qs (dn.flatMap f) (wipeE ρ3 vs1))
      (notIos ρ2 vs ∧ N (dn.flatMap f) (wipeE ρ2 vs))) : lc2Go g tt ti1 g1 tt1 te vs vs1 Q (xs.map enc) [] ρ0 := by
  refine lc2_ind (fun qs acc ρ => ∃ done left : List α, xs = done ++ left ∧ qs = left.map enc ∧ acc = done.flatMap f ∧ ρ = ρ0) ?_ ?_ _ _ _ ⟨[], xs, rfl, rfl, rfl, rfl⟩
  · rintro acc ρ ⟨done, left, e, eq, rfl, rfl⟩
    cases left with
    | nil => rw [List.append_nil] at e; subst e; exact hq
    | cons _ _ => simp at eq
  · rintro q qs acc ρ ⟨done, left, e, eq, rfl, rfl⟩ N ih
    cases left with
    | nil => simp at eq
    | cons x left =>
      simp only [List.map_cons, List.cons.injEq] at eq
      obtain ⟨rfl, rfl⟩ := eq
      exact hc done x left e N (ih _ _ ⟨done ++ [x], left, by rw [e]; simp, rfl, by rw [List.flatMap_append, List.flatMap_singleton], rfl⟩)
theorem rawf_i {n : Nat} {ρ : En} {mk fm : PV} {rows : List Rw} {f : Str} {t : Nat} {Q : PK1} {dm : Dum Q} (tk : TabOk rows) (l8 : rows.length ≤ 8) (h1 : 1 ≤ t) (h4 : t ≤ 4) (hn : t ≤ n) (k : Q (.pv (.lst (rawP rows n f t))) ρ) : callR (S_rawf n) [.pv (encTb mk fm rows), .pv (.str f), .pv (natI t)] ρ Q dm :=
  call_p (ps := [encTb mk fm rows, .str f, natI t]) rfl rfl ⟨mk, fm, rows, f, t, rfl, tk, l8, h1, h4, hn⟩ fun r hp => by rw [hp _ _ _ _ _ rfl]; exact k
theorem lrawf_i {n : Nat} {ρ : En} {mk fm : PV} {rows : List Rw} {f : Str} {t : Nat} {Q : PK1} {dm : Dum Q} (tk : TabOk rows) (l8 : rows.length ≤ 8) (h1 : 1 ≤ t) (h4 : t ≤ 4) (hn : t ≤ n) (k : Q (.pv (.lst (lrawL rows n f t))) ρ) : callR (S_lrawf n) [.pv (encTb mk fm rows), .pv (.str f), .pv (natI t)] ρ Q dm :=
  call_p (ps := [encTb mk fm rows, .str f, natI t]) rfl rfl ⟨mk, fm, rows, f, t, rfl, tk, l8, h1, h4, hn⟩ fun r hp => by rw [hp _ _ _ _ _ rfl]; exact k
theorem zipP_enc {α β : Type} (e1 : α → PV) (e2 : β → PV) : ∀ (xs : List α) (ys : List β), zipP (xs.map e1) (ys.map e2) = (xs.zip ys).map fun z => PV.tup [e1 z.1, e2 z.2]
  | [], ys => by simp [zipP]
  | _ :: _, [] => by simp [zipP]
  | x :: xs, y :: ys => by rw [List.map_cons, List.map_cons, zipP, zipP_enc e1 e2 xs ys]; rfl
theorem le_sum {s : Nat} : ∀ {ss : List Nat}, s ∈ ss → s ≤ ss.sum
  | x :: ss, h => by
    rw [List.sum_cons]
    rcases List.mem_cons.mp h with rfl | h
    · omega
    · have := le_sum h; omega
theorem prodZ_row {R : Str → Nat → List PV} : ∀ (zs : List ((Str × PV) × Nat)) (rows : List (List PV)) {k : Nat}, (∀ x ∈ rows, x.length ≤ k) → ∀ x ∈ prodZ R zs rows, x.length ≤ k + zs.length
  | [], rows, k, h, x, hx => by have := h x hx; simp; omega
  | z :: zs, rows, k, h, x, hx => by
    have := prodZ_row zs (rows.flatMap fun row => (R z.1.1 z.2).map fun v => row ++ [v]) (k := k + 1) (fun y hy => by
      obtain ⟨r, hr, hy⟩ := List.mem_flatMap.mp hy
      obtain ⟨v, _, rfl⟩ := List.mem_map.mp hy
      have := h r hr
      simp; omega) x hx
    simp; omega
theorem natI_inj {a b : Nat} (h : natI a = natI b) : a = b := by
  unfold natI at h
  injection h with h
  omega
theorem rawf_told {n : Nat} {mk fm : PV} {rows : List Rw} {f : Str} {t : Nat} {r : PV} (e : r = .lst (rawP rows n f t)) : (S_rawf n).post [encTb mk fm rows, .str f, natI t] r [] := fun mk2 fm2 rows2 f2 t2 e2 => by
  injection e2 with e3 e2; injection e2 with e4 e2; injection e2 with e5 _; injection e4 with e4
  rw [← encTb_inj e3, ← e4, ← natI_inj e5, e]
theorem lrawf_told {n : Nat} {mk fm : PV} {rows : List Rw} {f : Str} {t : Nat} {r : PV} (e : r = .lst (lrawL rows n f t)) : (S_lrawf n).post [encTb mk fm rows, .str f, natI t] r [] := fun mk2 fm2 rows2 f2 t2 e2 => by
  injection e2 with e3 e2; injection e2 with e4 e2; injection e2 with e5 _; injection e4 with e4
  rw [← encTb_inj e3, ← e4, ← natI_inj e5, e]
theorem cons_row {rows : List Rw} (tk : TabOk rows) {f : Str} {r : Rw} (h : r ∈ consOf rows f) : r ∈ rows ∧ RowOk r := ⟨(List.mem_filter.mp h).1, tk.row r (List.mem_filter.mp h).1⟩
section
variable {P : Program} {w : World} {K : PySem.W.Frag} {mg : Str → Option Value} {base : Heap}
theorem ok_rawf (T : Txt K mg) : ∀ n : Nat, Has P w K mg base "raw_of" (n + 10) ["table", "family", "total"] (S_rawf n)
  | 0 => by
    refine (Px.has_none T.d_raw_of (fun F => F.binds (ps := ["table", "family", "total"]) fun _ _ _ _ _ _ us hl => match us, hl with | [_, _, _], _ => rfl) fun pvs h => ?_ : Has P w K mg base "raw_of" 0 _ _).mono (by omega)
    obtain ⟨_, _, _, _, _, _, _, _, _, _, h⟩ := h
    omega
  | n + 1 => by
    refine dv_raw_of T ((ok_cons T).mono (by omega)) ((ok_shares T 4).mono (by omega)) (ok_rawf T n) (S_rawf (n + 1)) rfl fun pvs lp pre => ?_
    obtain ⟨mk, fm, rows, f, t, rfl, tk, l8, h1, h4, hn⟩ := pre
    have blen := rawP_len tk l8
    have b4 := bB_4 t h4
    unfold rd_raw_of
    generalize hE : endsOf (S_rawf (n + 1)) _ = E
    have rt : ∀ r ρ, r = PV.lst (rawP rows (n + 1) f t) → E.rt (.fr r) ρ := fun r ρ e => by rw [← hE]; exact (ends_rt rfl (fun _ => rawf_told e) ρ).2
    show qSeq _ _ E [.val (encTb mk fm rows), .val (.str f), .val (.int (t : Nat)), .un, .un, .un, .un, .un, .un, .un, .un]
    walk_at "px"
    refine ⟨small_of (by omega), cons_i (by omega) ?_⟩
    walk_at "px"
    refine for_mapT encRw (fun dn ρ => ∃ o4 o5 o6 o7 o8 : Option PV, ρ = [.val (encTb mk fm rows), .val (.str f), .val (.int (t : Nat)), .own false (.lst ((dn.flatMap fun r => rawC (rawP rows n) t r).map PV.tup)), plS o4, plS o5, plS o6, plS o7, plS o8, .un, .un]) _ _ ⟨none, none, none, none, none, rfl⟩ ?_ ?_
    · rintro ρ ⟨o4, o5, o6, o7, o8, rfl⟩
      walk_at "px"
      exact rt _ _ (by rw [rawP])
    · rintro dn r lf ρ e ⟨o4, o5, o6, o7, o8, rfl⟩ N ih
      obtain ⟨hr, rk⟩ := cons_row tk (show r ∈ consOf rows f by rw [e]; simp)
      have er : encRw r = .tup [.str r.w, .tup (r.ps.map encPt), .str r.fam, r.ix] := rfl
      rw [er]
      have lr := rk.len
      walk_at "px"
      refine shares_i (t := t - 1) (m := r.ps.length) (by omega) rfl (by omega) (by omega) (by omega) ?_
      walk_at "px"
      have tot : ((consOf rows f).flatMap fun r => rawC (rawP rows n) t r).length ≤ bB t := by
        have := rawP_len tk l8 (n + 1) f t h1 h4
        rw [rawP, List.length_map] at this
        exact this
      have tot2 : (dn.flatMap fun r => rawC (rawP rows n) t r).length + (rawC (rawP rows n) t r).length ≤ bB t := by
        rw [e, List.flatMap_append, List.flatMap_cons, List.length_append, List.length_append] at tot
        omega
      refine for_mapT encS (fun dn2 ρ => ∃ o5 o6 o7 o8 : Option PV, ρ = [.val (encTb mk fm rows), .val (.str f), .val (.int (t : Nat)), .own false (.lst ((dn.flatMap fun r => rawC (rawP rows n) t r).map PV.tup ++ (dn2.flatMap fun sh => prodP (rawP rows n) r.ps sh [[.str r.w]]).map PV.tup)), .val (encRw r), plS o5, plS o6, plS o7, plS o8, .un, .un]) _ _ ⟨o5, o6, o7, o8, by simp [er]⟩ ?_ ?_
      · rintro ρ ⟨o5, o6, o7, o8, rfl⟩
        refine ih _ ⟨some (encRw r), o5, o6, o7, o8, ?_⟩
        rw [List.flatMap_append, List.map_append, List.flatMap_singleton]
        rfl
      · rintro dn2 ss lf2 ρ e2 ⟨o5, o6, o7, o8, rfl⟩ N2 ih2
        have hs : ss ∈ sharesP r.ps.length (t - 1) := by rw [e2]; simp
        obtain ⟨s1, s2, s3⟩ := (sharesP_mem _ _ _).mp hs
        have tot3 : (dn2.flatMap fun sh => prodP (rawP rows n) r.ps sh [[.str r.w]]).length + (prodP (rawP rows n) r.ps ss [[.str r.w]]).length ≤ (rawC (rawP rows n) t r).length := by
          unfold rawC
          rw [e2, List.flatMap_append, List.flatMap_cons, List.length_append, List.length_append]
          omega
        have sle : ∀ s ∈ ss, s ≤ t - 1 := fun s hs => by rw [← s2]; exact le_sum hs
        unfold encS
        rw [er]
        walk_at "px"
        rw [zipP_enc]
        refine ⟨small_of (by omega), small_of (by omega), for_mapT (fun z : (Str × PV) × Nat => PV.tup [encPt z.1, natI z.2]) (fun zs ρ => ∃ o7 o8 : Option PV, ρ = [.val (encTb mk fm rows), .val (.str f), .val (.int (t : Nat)), .own false (.lst ((dn.flatMap fun r => rawC (rawP rows n) t r).map PV.tup ++ (dn2.flatMap fun sh => prodP (rawP rows n) r.ps sh [[.str r.w]]).map PV.tup)), .val (encRw r), .val (encS ss), .val (.lst ((prodZ (rawP rows n) zs [[.str r.w]]).map PV.tup)), plS o7, plS o8, .un, .un]) _ _ ⟨o7, o8, rfl⟩ ?_ ?_⟩
        · rintro ρ ⟨o7, o8, rfl⟩
          rw [prodP_Z] at tot3
          walk_at "px"
          refine ⟨small_of (by simp only [List.length_append, List.length_map]; omega), ih2 _ ⟨some (encS ss), some (.lst ((prodZ (rawP rows n) (r.ps.zip ss) [[.str r.w]]).map PV.tup)), o7, o8, ?_⟩⟩
          rw [List.flatMap_append, List.map_append, List.flatMap_singleton, List.append_assoc, prodP_Z]
          rfl
        · rintro zs z lz ρ e3 ⟨o7, o8, rfl⟩ N3 ih3
          have hz : z ∈ r.ps.zip ss := by rw [e3]; simp
          have z2 : z.2 ∈ ss := (List.of_mem_zip hz).2
          have z1 := s3 _ z2
          have zt := sle _ z2
          have lz2 : zs.length ≤ 1 := by
            have := congrArg List.length e3
            rw [List.length_zip, s1, List.length_append, List.length_cons] at this
            omega
          have lpz : (prodZ (rawP rows n) zs [[.str r.w]]).length ≤ 512 := by
            have := prodZ_len (R := rawP rows n) (c := 512) zs [[.str r.w]] fun y hy => by
              have hy2 : y ∈ r.ps.zip ss := by rw [e3]; exact List.mem_append_left _ hy
              have y2 := (List.of_mem_zip hy2).2
              have := sle _ y2
              exact Nat.le_trans (blen n _ _ (s3 _ y2) (by omega)) (bB_3 (by omega))
            have c : zs.length = 0 ∨ zs.length = 1 := by omega
            rcases c with c | c
            · rw [c] at this; simp at this; omega
            · rw [c] at this; simpa using this
          have lzr : (rawP rows n z.1.1 z.2).length ≤ 512 := Nat.le_trans (blen n _ _ z1 (by omega)) (bB_3 (by omega))
          have ez : encPt z.1 = .tup [.str z.1.1, z.1.2] := rfl
          rw [ez]
          generalize hLZ : prodZ (rawP rows n) zs [[.str r.w]] = LZ at *
          walk_at "px"
          refine lc2R_i (lc2_mapT PV.tup (fun row => (rawP rows n z.1.1 z.2).map fun v => PV.tup (row ++ [v])) _ _ ?_ fun d3 row l3 e4 N4 k4 => ?_)
          · show notIo _ _ = true ∧ _
            walk_at "px"
            refine ih3 _ ⟨some (encPt z.1), some (natI z.2), ?_⟩
            have ef : prodZ (rawP rows n) (zs ++ [z]) [[.str r.w]] = LZ.flatMap fun row => (rawP rows n z.1.1 z.2).map fun v => row ++ [v] := by
              rw [← hLZ]
              unfold prodZ
              rw [List.foldl_append]; rfl
            have eg : (prodZ (rawP rows n) (zs ++ [z]) [[.str r.w]]).map PV.tup = LZ.flatMap fun row => (rawP rows n z.1.1 z.2).map fun v => PV.tup (row ++ [v]) := by
              rw [ef, List.map_flatMap]
              simp only [List.map_map]
              rfl
            rw [eg, ez]
            rfl
          · have l3 := congrArg List.length e4
            rw [List.length_append, List.length_cons] at l3
            have lfm : (d3.flatMap fun row => (rawP rows n z.1.1 z.2).map fun v => PV.tup (row ++ [v])).length ≤ d3.length * 512 := fm_len fun x _ => by rw [List.length_map]; exact lzr
            have := Nat.mul_le_mul_right 512 (show d3.length ≤ 512 by omega)
            walk_at "px"
            refine rawf_i tk l8 z1 (by omega) (by omega) ?_
            walk_at "px"
            refine lc_mapP (fun v => PV.tup (row ++ [v])) _ _ _ (by omega) ?_ fun v hv acc N5 sm k5 => ?_
            · walk_at "px"
              exact k4
            · have lrow := prodZ_row (R := rawP rows n) zs [[.str r.w]] (k := 1) (fun x hx => by rw [List.mem_singleton.mp hx]; simp) row (by rw [hLZ, e4]; simp)
              walk_at "px"
              exact ⟨small_of (by omega), small_of (by omega), sm, k5⟩
end

end Lw
set_option maxHeartbeats 4000000
namespace Lw
open PySem L2 PyProof.Rows Px
local macro_rules | `(tactic| walk_at "px") => `(tactic| simp -dsimp only [qVar, qK, qNil, qCons, qTup, qLst, vals, looks, R.look, R.wk, qCB, qB, qOp2, qTru, truG, qAnd, qOr, qNot, qAndV, qOrV, qNotV, qIfE, qNo, qPart, qSl, gSl, qIt, qRng1, qRng2, qgN, qgNil, qgCons, qgT, notIo_zero, notIo_succ, notIo_nil', slOk_un, slOk_val, slOk_own, slOk_pl, slOk_pd, notIos_nil, notIos_cons, qYes, qLc, qNext, qSeq, qBreak, qCont, qFrz, frz, qDrop, retG, qRet, qRetN, qIf, qSet, qOwn, qAsg, qFor, qMut, ownTy, gAppend, gExtend, gPop, isOwn, qSetIx, qCall, splitArgs, putOuts, setOwn, finOk, endsOf, mk, outsOf, uns,
  gAdd, gInt, gInt0, gEq, gNe, gIn, gNotIn, gIs, gIsNot, Px.isNon, gIx, getP, gLen, gAbs, gIntC, gSum, gMax, gMax2, gMax3, gMinT, gAll, gAny, gList, gTuple, gIsi, qNeg, qDict0, wipeE, lcGo_nil, br_t, br_f, atI_0, atI_1, atI_2, atI_3, ixN_0, ixN_1, ixN_2, ixN_3, List.length_map, List.length_set, cut_from1, isTy, tyN, gIsiT, asTys, gListD, keyP, isDic, qGet1, qGet2, qLZ, gZip, qPairs, mergeP, qDisp, gDictC, gStr, qChain, qPar, qAug, qMeth, tyIs, gIndex, qLcK, qDc, qDcK, dicAt, qForK, qZipI, qCallB, qCallF, splitB, qTake, tkEnds, tkRt, tkBack, Px.isN, isNst, gIxN, gPop0, gInsert, qSetSeed, qStep, qPar3, qLcO, lcoK, stEnds, stGo, immS, Px.imm, endsLaw, Option.isSome_some, Option.isSome_none, isEmp_concat, List.getLast?_concat, List.dropLast_concat, List.isEmpty_nil, gEqX, gNeX, List.any_cons, List.any_nil, tyOk_str, tyOk_tuple, tyOk_int, tyOk_bool, tyOk_list, tyOk_dict, Option.map_some, Option.map_none,
  eqOk_str, eqOk_int, eqOk_bl, eqOk_non, eqOkW_str, eqOkW_int, eqOkW_bl, eqOkW_non, gEqW, gNeW, qVals, ownDic, qLc2, gLtX, gGtX, gSortX, peq_str, peq_int, peq_bl, List.getElem?_cons_zero, List.getElem?_cons_succ, List.getElem?_nil, List.set_cons_zero, List.set_cons_succ, List.zipWith_cons_cons, List.zipWith_nil_left, List.replicate_succ, List.replicate_zero, List.cons_append, List.nil_append, List.length_cons, List.length_nil, List.map_cons, List.map_nil, ↓reduceIte, Bool.false_eq_true, and_true, true_and, Bool.not_true, Bool.not_false, Nat.reduceAdd, Nat.reduceLT, Nat.reduceLeDiff, Nat.zero_lt_succ, Nat.lt_add_one, ne_eq, not_true_eq_false, not_false_eq_true, String.reduceEq, String.reduceBEq, Bool.or_false, Bool.false_or, Bool.or_true, Bool.true_or, Bool.and_false, Bool.and_true, Bool.false_and, Bool.true_and, reduceCtorEq, S_lrawf_fr, S_lrawf_io, S_rawf_fr, S_rawf_io, S_lcons_fr, S_lcons_io])
def encRs (x : List PV × Nat) : PV := .tup [.tup x.1, natI x.2]
section
variable {P : Program} {w : World} {K : PySem.W.Frag} {mg : Str → Option Value} {base : Heap}
theorem lrow_len {R : Str → Nat → List PV} {ps : List (Str × PV)} {h : PV} {t : Nat} {x : List PV × Nat} (hx : x ∈ lfold R ps [([h], t)]) : x.1.length = 1 + ps.length ∧ x.2 ≤ t := by
  obtain ⟨y, hy, ss, qs, e1, e2, h3, ha⟩ := (lfold_mem _ _ _).mp hx
  rw [List.mem_singleton.mp hy] at e1 e2
  have := ha.len.2
  simp only at e1 e2
  rw [e1, List.length_append, List.length_singleton]
  omega
theorem ok_lrawf (T : Txt K mg) : ∀ n : Nat, Has P w K mg base "_law_raw" (n + 10) ["table", "family", "many"] (S_lrawf n)
  | 0 => by
    refine (Px.has_none T.d__law_raw (fun F => F.binds (ps := ["table", "family", "many"]) fun _ _ _ _ _ _ us hl => match us, hl with | [_, _, _], _ => rfl) fun pvs h => ?_ : Has P w K mg base "_law_raw" 0 _ _).mono (by omega)
    obtain ⟨_, _, _, _, _, _, _, _, _, _, h⟩ := h
    omega
  | n + 1 => by
    refine dv__law_raw T ((ok_lcons T).mono (by omega)) (ok_lrawf T n) (S_lrawf (n + 1)) rfl fun pvs lp pre => ?_
    obtain ⟨mk, fm, rows, f, t, rfl, tk, l8, h1, h4, hn⟩ := pre
    have blen := lrawL_len tk l8
    have b4 := bB_4 t h4
    unfold rd__law_raw
    generalize hE : endsOf (S_lrawf (n + 1)) _ = E
    have rt : ∀ r ρ, r = PV.lst (lrawL rows (n + 1) f t) → E.rt (.pv r) ρ := fun r ρ e => by rw [← hE]; exact (ends_rt rfl (fun _ => lrawf_told e) ρ).1
    show qSeq _ _ E [.val (encTb mk fm rows), .val (.str f), .val (.int (t : Nat)), .un, .un, .un, .un, .un, .un, .un, .un, .un]
    walk_at "px"
    refine ⟨small_of (by omega), lcons_i (by omega) ?_⟩
    walk_at "px"
    refine for_mapT encRw (fun dn ρ => ∃ o4 o5 o6 o7 o8 o9 o10 : Option PV, ρ = [.val (encTb mk fm rows), .val (.str f), .val (.int (t : Nat)), .val (.lst ((dn.flatMap fun r => lrawC (lrawL rows n) t r).map PV.tup)), plS o4, plS o5, plS o6, plS o7, plS o8, plS o9, plS o10, .un]) _ _ ⟨none, none, none, none, none, none, none, rfl⟩ ?_ ?_
    · rintro ρ ⟨o4, o5, o6, o7, o8, o9, o10, rfl⟩
      walk_at "px"
      exact rt _ _ (by rw [lrawL])
    · rintro dn r lf ρ e ⟨o4, o5, o6, o7, o8, o9, o10, rfl⟩ N ih
      obtain ⟨hr, rk⟩ := cons_row tk (show r ∈ consOf rows f by rw [e]; simp)
      have er : encRw r = .tup [.str r.w, .tup (r.ps.map encPt), .str r.fam, r.ix] := rfl
      rw [er]
      have lr := rk.len
      have tot : ((consOf rows f).flatMap fun r => lrawC (lrawL rows n) t r).length ≤ bB t := by
        have := lrawL_len tk l8 (n + 1) f t h1 h4
        rw [lrawL, List.length_map] at this
        exact this
      have tot2 : (dn.flatMap fun r => lrawC (lrawL rows n) t r).length + (lrawC (lrawL rows n) t r).length ≤ bB t := by
        rw [e, List.flatMap_append, List.flatMap_cons, List.length_append, List.length_append] at tot
        omega
      have lfl : ∀ ps : List (Str × PV), ps.length ≤ 2 → (lfold (lrawL rows n) ps [([.str r.w], t - 1)]).length ≤ 200000 := fun ps hp => lfold_len (fun f s h1 h3 => blen n f s h1 (by omega)) (by omega) ps hp
      walk_at "px"
      refine ⟨small_of (by omega), small_of (by omega), small_of (by omega), ?_⟩
      have et : ((t : Nat) : Int) - 1 = ((t - 1 : Nat) : Int) := by omega
      rw [et]
      refine for_mapT encPt (fun pd ρ => ∃ o6 o7 o8 o9 o10 : Option PV, ρ = [.val (encTb mk fm rows), .val (.str f), .val (.int (t : Nat)), .val (.lst ((dn.flatMap fun r => lrawC (lrawL rows n) t r).map PV.tup)), .val (encRw r), .val (.lst ((lfold (lrawL rows n) pd [([.str r.w], t - 1)]).map encRs)), plS o6, plS o7, plS o8, plS o9, plS o10, .un]) _ _ ⟨o6, o7, o8, o9, o10, rfl⟩ ?_ ?_
      · rintro ρ ⟨o6, o7, o8, o9, o10, rfl⟩
        have lz := lfl r.ps lr
        walk_at "px"
        refine lcR_i (lc_filterT encRs (fun x => PV.tup x.1) (fun x => x.2 == 0) _ _ (by omega) ?_ fun x hx acc N sm k => ?_)
        · walk_at "px"
          have ec : (lrawC (lrawL rows n) t r).map PV.tup = ((lfold (lrawL rows n) r.ps [([.str r.w], t - 1)]).filter fun x => x.2 == 0).map fun x => PV.tup x.1 := by
            unfold lrawC; rw [List.map_map]; rfl
          rw [← ec]
          have el := congrArg List.length ec
          rw [List.length_map, List.length_map] at el
          refine ⟨small_of (by omega), ih _ ⟨some (encRw r), some (.lst ((lfold (lrawL rows n) r.ps [([.str r.w], t - 1)]).map encRs)), o6, o7, none, none, o10, ?_⟩⟩
          rw [List.flatMap_append, List.map_append, List.flatMap_singleton]
          rfl
        · have ex : encRs x = .tup [.tup x.1, natI x.2] := rfl
          rw [ex]
          unfold natI
          walk_at "px"
          by_cases c : x.2 = 0
          · have c1 : (((x.2 : Nat) : Int) == 0) = true := by rw [c]; rfl
            have c2 : (x.2 == 0) = true := by rw [c]; rfl
            rw [c2] at k
            rw [c1]
            exact ⟨fun _ => ⟨sm, k⟩, fun h => by cases h⟩
          · have c1 : (((x.2 : Nat) : Int) == 0) = false := by rw [beq_eq_false_iff_ne]; omega
            have c2 : (x.2 == 0) = false := by rw [beq_eq_false_iff_ne]; omega
            rw [c2] at k
            rw [c1]
            exact ⟨fun h => (by cases h), fun _ => by simpa using k⟩
      · rintro pd p pl ρ e2 ⟨o6, o7, o8, o9, o10, rfl⟩ N2 ih2
        have lpd : pd.length ≤ 1 := by
          have := congrArg List.length e2
          rw [List.length_append, List.length_cons] at this
          omega
        have lz := lfl pd (by omega)
        have lz2 := lfl (pd ++ [p]) (by rw [List.length_append, List.length_singleton]; omega)
        have ef : lfold (lrawL rows n) (pd ++ [p]) [([.str r.w], t - 1)] = lstepL (lrawL rows n) p (lfold (lrawL rows n) pd [([.str r.w], t - 1)]) := by
          unfold lfold; rw [List.foldl_append]; rfl
        rw [ef] at lz2
        have hrow := fun x (hx : x ∈ lfold (lrawL rows n) pd [([.str r.w], t - 1)]) => lrow_len hx
        generalize hLZ : lfold (lrawL rows n) pd [([.str r.w], t - 1)] = LZ at *
        have ep : encPt p = .tup [.str p.1, p.2] := rfl
        rw [ep]
        walk_at "px"
        refine ⟨small_of (by omega), ?_⟩
        refine for_mapT encRs (fun d3 ρ => ∃ o8 o9 o10 : Option PV, ρ = [.val (encTb mk fm rows), .val (.str f), .val (.int (t : Nat)), .val (.lst ((dn.flatMap fun r => lrawC (lrawL rows n) t r).map PV.tup)), .val (encRw r), .val (.lst (LZ.map encRs)), .val (encPt p), .val (.lst ((lstepL (lrawL rows n) p d3).map encRs)), plS o8, plS o9, plS o10, .un]) _ _ ⟨o8, o9, o10, rfl⟩ ?_ ?_
        · rintro ρ ⟨o8, o9, o10, rfl⟩
          walk_at "px"
          refine ih2 _ ⟨some (encPt p), some (.lst ((lstepL (lrawL rows n) p LZ).map encRs)), o8, o9, o10, ?_⟩
          rw [ef]
          rfl
        · rintro d3 x l3 ρ e3 ⟨o8, o9, o10, rfl⟩ N3 ih3
          obtain ⟨hx1, hx2⟩ := hrow x (by rw [e3]; simp)
          have ex : encRs x = .tup [.tup x.1, natI x.2] := rfl
          rw [ex]
          unfold natI
          have tot3 : (lstepL (lrawL rows n) p d3).length + ((List.range' 1 x.2).flatMap fun s => (lrawL rows n p.1 s).map fun v => (x.1 ++ [v], x.2 - s)).length ≤ 200000 := by
            have : (lstepL (lrawL rows n) p LZ).length = (lstepL (lrawL rows n) p d3).length + (((List.range' 1 x.2).flatMap fun s => (lrawL rows n p.1 s).map fun v => (x.1 ++ [v], x.2 - s)).length + (lstepL (lrawL rows n) p l3).length) := by
              unfold lstepL
              rw [e3, List.flatMap_append, List.flatMap_cons, List.length_append, List.length_append]
            omega
          walk_at "px"
          have ek : ((x.2 : Nat) : Int) + 1 - 1 = ((x.2 : Nat) : Int) := by omega
          rw [ek, Int.toNat_natCast, rng1_is]
          refine ⟨⟨by unfold rngOk; omega, by unfold rngOk; omega⟩, ?_⟩
          refine for_mapT natI (fun d4 ρ => ∃ o10 : Option PV, ρ = [.val (encTb mk fm rows), .val (.str f), .val (.int (t : Nat)), .val (.lst ((dn.flatMap fun r => lrawC (lrawL rows n) t r).map PV.tup)), .val (encRw r), .val (.lst (LZ.map encRs)), .val (encPt p), .val (.lst ((lstepL (lrawL rows n) p d3).map encRs ++ (d4.flatMap fun s => (lrawL rows n p.1 s).map fun v => (x.1 ++ [v], x.2 - s)).map encRs)), .val (.tup x.1), .val (natI x.2), plS o10, .un]) _ _ ⟨o10, by simp; rfl⟩ ?_ ?_
          · rintro ρ ⟨o10, rfl⟩
            refine ih3 _ ⟨some (.tup x.1), some (natI x.2), o10, ?_⟩
            unfold lstepL
            rw [List.flatMap_append, List.map_append, List.flatMap_singleton]
            rfl
          · rintro d4 s l4 ρ e4 ⟨o10, rfl⟩ N4 ih4
            have hs : s ∈ List.range' 1 x.2 := by rw [e4]; simp
            rw [List.mem_range'_1] at hs
            have tot4 : (d4.flatMap fun s => (lrawL rows n p.1 s).map fun v => (x.1 ++ [v], x.2 - s)).length + (lrawL rows n p.1 s).length ≤ ((List.range' 1 x.2).flatMap fun s => (lrawL rows n p.1 s).map fun v => (x.1 ++ [v], x.2 - s)).length := by
              rw [e4, List.flatMap_append, List.flatMap_cons, List.length_append, List.length_append, List.length_map]
              omega
            have lR := Nat.le_trans (blen n p.1 s hs.1 (by omega)) (bB_4 s (by omega))
            rw [ep]
            have es : natI s = .int (s : Nat) := rfl
            have ex2 : natI x.2 = .int (x.2 : Nat) := rfl
            rw [ex2]
            walk_at "px"
            refine lrawf_i tk l8 hs.1 (by omega) (by omega) ?_
            walk_at "px"
            refine lcR_i (lc_mapP (fun v => encRs (x.1 ++ [v], x.2 - s)) _ _ _ (by simp only [List.length_nil]; omega) ?_ fun v hv acc N5 sm k5 => ?_)
            · walk_at "px"
              refine ⟨small_of (by simp only [List.length_append, List.length_map]; omega), ih4 _ ⟨some (natI s), ?_⟩⟩
              rw [List.flatMap_append, List.map_append, List.flatMap_singleton, List.append_assoc, List.map_map]
              rfl
            · have ev : encRs (x.1 ++ [v], x.2 - s) = .tup [.tup (x.1 ++ [v]), .int ((x.2 : Nat) - (s : Nat) : Int)] := by
                unfold encRs natI
                simp only
                congr 4
                omega
              rw [ev] at k5
              rw [es]
              walk_at "px"
              exact ⟨small_of (by omega), small_of (by omega), small_of (by omega), sm, k5⟩
end

end Lw
set_option maxHeartbeats 4000000
namespace Lw
open PySem L2 PyProof.Rows Px
/-- the values of some families: sorted -/
structure ValsOf (rows : List Rw) (R : Str → Nat → List PV) (fs : List Str) (t : Nat) (vs : List PV) : Prop where
  srt : Srt rows vs
  mem : ∀ v, v ∈ vs ↔ ∃ f ∈ fs, v ∈ R f t ∧ (ixP rows v).isSome = true
def S_vals : FS := { io := [false, false], pre := fun ps => ∃ (mk : PV) (fs : List Str) (rows : List Rw) (t : Nat), ps = [encTb mk (.tup (fs.map PV.str)) rows, natI t] ∧ TabOk rows ∧ rows.length ≤ 8 ∧ fs.Nodup ∧ fs.length ≤ 4 ∧ 1 ≤ t ∧ t ≤ 4, post := fun ps r _ => ∀ (mk : PV) (fs : List Str) (rows : List Rw) (t : Nat), ps = [encTb mk (.tup (fs.map PV.str)) rows, natI t] → ∃ vs, r = .lst vs ∧ ValsOf rows (rawP rows 4) fs t vs }
theorem S_vals_fr : S_vals.fr = false := rfl
theorem S_vals_io : S_vals.io = [false, false] := rfl
local macro_rules | `(tactic| walk_at "px") => `(tactic| simp -dsimp only [qVar, qK, qNil, qCons, qTup, qLst, vals, looks, R.look, R.wk, qCB, qB, qOp2, qTru, truG, qAnd, qOr, qNot, qAndV, qOrV, qNotV, qIfE, qNo, qPart, qSl, gSl, qIt, qRng1, qRng2, qgN, qgNil, qgCons, qgT, notIo_zero, notIo_succ, notIo_nil', slOk_un, slOk_val, slOk_own, slOk_pl, slOk_pd, notIos_nil, notIos_cons, qYes, qLc, qNext, qSeq, qBreak, qCont, qFrz, frz, qDrop, retG, qRet, qRetN, qIf, qSet, qOwn, qAsg, qFor, qMut, ownTy, gAppend, gExtend, gPop, isOwn, qSetIx, qCall, splitArgs, putOuts, setOwn, finOk, endsOf, mk, outsOf, uns,
  gAdd, gInt, gInt0, gEq, gNe, gIn, gNotIn, gIs, gIsNot, Px.isNon, gIx, getP, gLen, gAbs, gIntC, gSum, gMax, gMax2, gMax3, gMinT, gAll, gAny, gList, gTuple, gIsi, qNeg, qDict0, wipeE, lcGo_nil, br_t, br_f, atI_0, atI_1, atI_2, atI_3, ixN_0, ixN_1, ixN_2, ixN_3, List.length_map, List.length_set, cut_from1, isTy, tyN, gIsiT, asTys, gListD, keyP, isDic, qGet1, qGet2, qLZ, gZip, qPairs, mergeP, qDisp, gDictC, gStr, qChain, qPar, qAug, qMeth, tyIs, gIndex, qLcK, qDc, qDcK, dicAt, qForK, qZipI, qCallB, qCallF, splitB, qTake, tkEnds, tkRt, tkBack, Px.isN, isNst, gIxN, gPop0, gInsert, qSetSeed, qStep, qPar3, qLcO, lcoK, stEnds, stGo, immS, Px.imm, endsLaw, Option.isSome_some, Option.isSome_none, isEmp_concat, List.getLast?_concat, List.dropLast_concat, List.isEmpty_nil, gEqX, gNeX, List.any_cons, List.any_nil, tyOk_str, tyOk_tuple, tyOk_int, tyOk_bool, tyOk_list, tyOk_dict, Option.map_some, Option.map_none,
  eqOk_str, eqOk_int, eqOk_bl, eqOk_non, eqOkW_str, eqOkW_int, eqOkW_bl, eqOkW_non, gEqW, gNeW, qVals, ownDic, qLc2, gLtX, gGtX, gSortX, peq_str, peq_int, peq_bl, List.getElem?_cons_zero, List.getElem?_cons_succ, List.getElem?_nil, List.set_cons_zero, List.set_cons_succ, List.zipWith_cons_cons, List.zipWith_nil_left, List.replicate_succ, List.replicate_zero, List.cons_append, List.nil_append, List.length_cons, List.length_nil, List.map_cons, List.map_nil, ↓reduceIte, Bool.false_eq_true, and_true, true_and, Bool.not_true, Bool.not_false, Nat.reduceAdd, Nat.reduceLT, Nat.reduceLeDiff, Nat.zero_lt_succ, Nat.lt_add_one, ne_eq, not_true_eq_false, not_false_eq_true, String.reduceEq, String.reduceBEq, Bool.or_false, Bool.false_or, Bool.or_true, Bool.true_or, Bool.and_false, Bool.and_true, Bool.false_and, Bool.true_and, reduceCtorEq, S_lrawf_fr, S_lrawf_io, S_rawf_fr, S_rawf_io, S_idx_fr, S_idx_io, S_bef_fr, S_bef_io, S_beh_fr, S_beh_io, S_vals_fr, S_vals_io])
theorem for_mapP {g : QTG} {body : QTS} {D : PEnds} (I : List PV → En → Prop) (xs : List PV) (ρ0 : En) (h0 : I [] ρ0) (hn : ∀ ρ, I xs ρ → D.nx ρ)
    (hc : ∀ (done : List PV) (x : PV) (left : List PV) (ρ : En), xs = done ++ x :: left → I done ρ → ∀ N : En → Prop, (∀ ρ', I (done ++ [x]) ρ' → N ρ') → g x ρ fun ρ1 => body { nx := N, rt := D.rt, bk := D.nx, ct := N } ρ1) : forGo g body D xs ρ0 := by
  have := for_mapT (g := g) (body := body) (D := D) id I xs ρ0 h0 hn hc
  rwa [List.map_id] at this
theorem vals_i {ρ : En} {mk : PV} {fs : List Str} {rows : List Rw} {t : Nat} {Q : PK1} {dm : Dum Q} (tk : TabOk rows) (l8 : rows.length ≤ 8) (nd : fs.Nodup) (l4 : fs.length ≤ 4) (h1 : 1 ≤ t) (h4 : t ≤ 4) (k : ∀ vs, ValsOf rows (rawP rows 4) fs t vs → Q (.pv (.lst vs)) ρ) : callR S_vals [.pv (encTb mk (.tup (fs.map PV.str)) rows), .pv (natI t)] ρ Q dm :=
  call_p (ps := [encTb mk (.tup (fs.map PV.str)) rows, natI t]) rfl rfl ⟨mk, fs, rows, t, rfl, tk, l8, nd, l4, h1, h4⟩ fun r hp => by
    obtain ⟨vs, rfl, h⟩ := hp _ _ _ _ rfl
    exact k vs h
theorem beh_i {ρ : En} {j : Nat} {mk fm : PV} {rows : List Rw} {v : PV} {xs : List PV} {Q : PK1} {dm : Dum Q} (h : ρ[j]? = some (Sl.own false (.lst xs))) (tk : TabOk rows) (hv : isRaw rows v = true) (hd : dep v ≤ 20) (hx : ∀ x ∈ xs, isRaw rows x = true ∧ dep x ≤ 20) (k : Q (.pv (.int (plc rows v xs : Nat))) ρ) : callRB S_beh [.pv (encTb mk fm rows), .pv v, .sl j] ρ Q dm := by
  have e : splitB ρ S_beh.io [.pv (encTb mk fm rows), .pv v, .sl j] = some ([encTb mk fm rows, v, .lst xs], [], [j]) := by simp [S_beh, splitB, h]
  unfold callRB
  rw [e]
  refine ⟨⟨by simp, fun x hx => by simp, rfl⟩, ⟨mk, fm, rows, v, xs, rfl, tk, hv, hd, hx⟩, fun r outs hp l => ?_⟩
  have e2 : outs = [] := List.length_eq_zero_iff.mp l
  subst e2
  have := hp _ _ _ _ _ rfl
  subst this
  exact ⟨⟨rfl, fun q hq => by simp at hq⟩, k⟩
theorem len_raws {rows : List Rw} {R : Str → Nat → List PV} {c : Nat} (hR : ∀ f t, 1 ≤ t → t ≤ 4 → (R f t).length ≤ c) {fs : List Str} {t : Nat} {vs : List PV} (h1 : 1 ≤ t) (h4 : t ≤ 4) (V : ValsOf rows R fs t vs) : vs.length ≤ fs.length * c := by
  have nd : vs.Nodup := V.srt.imp fun {a b} h e => by
    subst e; exact ltV_irr h
  refine Nat.le_trans (nodup_le (ys := fs.flatMap fun f => R f t) nd fun v hv => ?_) (fm_len fun f _ => hR f t h1 h4)
  obtain ⟨f, hf, hv, _⟩ := (V.mem v).mp hv
  exact List.mem_flatMap.mpr ⟨f, hf, hv⟩
section
variable {P : Program} {w : World} {K : PySem.W.Frag} {mg : Str → Option Value} {base : Heap}
theorem ok_beh (T : Txt K mg) : Has P w K mg base "comes_behind" 61 ["table", "value", "row"] S_beh := by
  refine dv_comes_behind T ((ok_bef T 22).mono (by omega)) S_beh rfl fun pvs lp pre => ?_
  obtain ⟨mk, fm, rows, v, xs, rfl, tk, hv, hd, hx⟩ := pre
  have told : S_beh.post [encTb mk fm rows, v, .lst xs] (.int (plc rows v xs : Nat)) [] := fun mk2 fm2 rows2 v2 xs2 e2 => by
    injection e2 with e3 e2; injection e2 with e4 e2; injection e2 with e5 _; injection e5 with e5
    rw [← encTb_inj e3, ← e4, ← e5]
  unfold rd_comes_behind
  generalize hE : endsOf S_beh _ = E
  have rt : ∀ r ρ, r = PV.int (plc rows v xs : Nat) → E.rt (.pv r) ρ := fun r ρ e => by rw [← hE, e]; exact (ends_rt rfl (fun _ => told) ρ).1
  show qSeq _ _ E [.val (encTb mk fm rows), .val v, .val (.lst xs), .un]
  walk_at "px"
  refine while_i (fun m ρ => ∃ dn lf : List PV, xs = dn ++ lf ∧ m = lf.length ∧ (dn.all fun x => ltV rows x v) = true ∧ ρ = [.val (encTb mk fm rows), .val v, .val (.lst xs), .val (.int (dn.length : Nat))]) _ ⟨[], xs, rfl, rfl, rfl, rfl⟩ ?_
  rintro m ρ ⟨dn, lf, e, rfl, ha, rfl⟩
  have fin : ∀ b : Bool, (lf = [] ∨ ∃ x l2, lf = x :: l2 ∧ ltV rows x v = false) → (plc rows v xs : Nat) = dn.length := fun _ h => by
    unfold plc
    rw [e, List.takeWhile_append_of_pos (by rw [List.all_eq_true] at ha; exact ha)]
    rcases h with h | ⟨x, l2, h, hf⟩
    · rw [h]; simp
    · rw [h, List.takeWhile_cons, hf]; simp
  have le := congrArg List.length e
  rw [List.length_append] at le
  walk_at "px"
  cases lf with
  | nil =>
    simp only [List.length_nil] at le
    refine br_i (fun h => ?_) fun _ => ?_
    · have := of_decide_eq_true h
      omega
    · exact rt _ _ (by rw [fin true (.inl rfl)])
  | cons x lf =>
    simp only [List.length_cons] at le
    have hx2 := hx x (by rw [e]; simp)
    have ax : atI xs ((dn.length : Nat) : Int) = some x := atI_nat (by rw [e, List.getElem?_append_right (Nat.le_refl _)]; simp)
    refine br_i (fun h => ?_) fun h => ?_
    · rw [ax]
      walk_at "px"
      refine bef_i tk hx2.1 hv (by omega) (by omega) (by omega) ?_
      walk_at "px"
      refine br_i (fun c => ?_) fun c => ?_
      · refine ⟨lf.length, by simp, dn ++ [x], lf, by rw [e]; simp, rfl, by rw [List.all_append, ha]; simp [c], ?_⟩
        simp
      · exact rt _ _ (by rw [fin true (.inr ⟨x, lf, rfl, c⟩)])
    · have := of_decide_eq_false h
      omega
theorem ok_vals (T : Txt K mg) : Has P w K mg base "values_of" 70 ["table", "total"] S_vals := by
  refine dv_values_of T ((ok_rawf T 4).mono (by omega)) ((ok_idx T 30).mono (by omega)) ((ok_beh T).mono (by omega)) S_vals rfl fun pvs lp pre => ?_
  obtain ⟨mk, fs, rows, t, rfl, tk, l8, nd, l4, h1, h4⟩ := pre
  unfold rd_values_of
  generalize hE : endsOf S_vals _ = E
  have rt : ∀ vs ρ, ValsOf rows (rawP rows 4) fs t vs → E.rt (.fr (.lst vs)) ρ := fun vs ρ V => by
    rw [← hE]
    refine (ends_rt rfl (fun _ mk2 fs2 rows2 t2 e2 => ⟨vs, rfl, ?_⟩) ρ).2
    injection e2 with e3 e2; injection e2 with e4 _
    have e5 := encTb_inj e3
    have e6 := natI_inj e4
    have e7 : fs = fs2 := by
      unfold encTb at e3
      injection e3 with e3
      injection e3 with _ e3
      injection e3 with _ e3
      injection e3 with e3 _
      injection e3 with e3
      exact map_inj (fun a b e => by injection e) e3
    rw [← e5, ← e6, ← e7]; exact V
  show qSeq _ _ E [.val (encTb mk (.tup (fs.map PV.str)) rows), .val (.int (t : Nat)), .un, .un, .un]
  have ht0 : encTb mk (.tup (fs.map PV.str)) rows = .tup [.str (Str.ofString "table"), mk, .tup (fs.map PV.str), .tup (rows.map encRw)] := rfl
  have blen : ∀ f t, 1 ≤ t → t ≤ 4 → (rawP rows 4 f t).length ≤ 8192 := fun f t h1 h4 => Nat.le_trans (rawP_len tk l8 4 f t h1 h4) (bB_4 t h4)
  have facts := rawP_facts tk 4
  have rnd := rawP_nd tk 4
  rw [ht0]
  walk_at "px"
  refine ⟨small_of (by omega), ?_⟩
  refine for_mapT PV.str (fun dn ρ => ∃ (vs : List PV) (o3 o4 : Option PV), ValsOf rows (rawP rows 4) dn t vs ∧ ρ = [.val (encTb mk (.tup (fs.map PV.str)) rows), .val (.int (t : Nat)), .own false (.lst vs), plS o3, plS o4]) _ _ ⟨[], none, none, ⟨List.Pairwise.nil, by simp⟩, rfl⟩ ?_ ?_
  · rintro ρ ⟨vs, o3, o4, V, rfl⟩
    walk_at "px"
    exact rt _ _ V
  · rintro dn f lf ρ e ⟨vs, o3, o4, V, rfl⟩ N ih
    have lfs := congrArg List.length e
    rw [List.length_append, List.length_cons] at lfs
    rw [e] at nd
    have hfd : f ∉ dn := fun z => by
      rw [List.nodup_append] at nd
      exact nd.2.2 f z f List.mem_cons_self rfl
    walk_at "px"
    refine rawf_i tk l8 h1 h4 h4 ?_
    walk_at "px"
    refine for_mapP (fun d2 ρ => ∃ (ws : List PV) (o4 : Option PV), (Srt rows ws ∧ ∀ v, v ∈ ws ↔ (∃ g ∈ dn, v ∈ rawP rows 4 g t ∧ (ixP rows v).isSome = true) ∨ (v ∈ d2 ∧ (ixP rows v).isSome = true)) ∧ ρ = [.val (encTb mk (.tup (fs.map PV.str)) rows), .val (.int (t : Nat)), .own false (.lst ws), .val (.str f), plS o4]) _ _ ⟨vs, o4, ⟨V.srt, fun v => by rw [V.mem v]; simp⟩, rfl⟩ ?_ ?_
    · rintro ρ ⟨ws, o4, ⟨S1, S2⟩, rfl⟩
      refine ih _ ⟨ws, some (.str f), o4, ⟨S1, fun v => ?_⟩, rfl⟩
      rw [S2 v]
      constructor
      · rintro (⟨g, hg, hv⟩ | ⟨hv, hs⟩)
        · exact ⟨g, List.mem_append_left _ hg, hv⟩
        · exact ⟨f, by simp, hv, hs⟩
      · rintro ⟨g, hg, hv⟩
        rcases List.mem_append.mp hg with hg | hg
        · exact .inl ⟨g, hg, hv⟩
        · rw [List.mem_singleton.mp hg] at hv
          exact .inr hv
    · rintro d2 v l2 ρ e2 ⟨ws, o4, ⟨S1, S2⟩, rfl⟩ N2 ih2
      have hv : v ∈ rawP rows 4 f t := by rw [e2]; simp
      have F := facts f t v h1 hv
      have nd2 := rnd f t h1
      rw [e2] at nd2
      have hvd : v ∉ d2 := fun z => by
        rw [List.nodup_append] at nd2
        exact nd2.2.2 v z v List.mem_cons_self rfl
      have raws : ∀ x ∈ ws, isRaw rows x = true ∧ dep x ≤ 20 := fun x hx => by
        rcases (S2 x).mp hx with ⟨g, _, hx2, _⟩ | ⟨hx2, _⟩
        · have G := facts g t x h1 hx2
          exact ⟨G.raw, by have := G.dep; omega⟩
        · have G := facts f t x h1 (by rw [e2]; exact List.mem_append_left _ hx2)
          exact ⟨G.raw, by have := G.dep; omega⟩
      have hvw : v ∉ ws := fun z => by
        rcases (S2 v).mp z with ⟨g, hg, hx2, _⟩ | ⟨hx2, _⟩
        · obtain ⟨r1, q1, m1, e1, f1⟩ := F.fam
          obtain ⟨r2, q2, m2, e3, f2⟩ := (facts g t v h1 hx2).fam
          rw [e1] at e3
          injection e3 with e3
          injection e3 with e3 _
          injection e3 with e3
          have := row_word tk m1 m2 e3
          rw [this, f2] at f1
          exact hfd (by rw [← f1]; exact hg)
        · exact hvd hx2
      have lws : ws.length ≤ 40000 := by
        have V2 : ValsOf rows (rawP rows 4) (dn ++ [f]) t ws ∨ True := .inr trivial
        have nd3 : ws.Nodup := S1.imp fun {a b} h e => by
          subst e; exact ltV_irr h
        have := nodup_le (ys := (dn ++ [f]).flatMap fun f => rawP rows 4 f t) nd3 fun x hx => by
          rcases (S2 x).mp hx with ⟨g, hg, hx2, _⟩ | ⟨hx2, _⟩
          · exact List.mem_flatMap.mpr ⟨g, List.mem_append_left _ hg, hx2⟩
          · exact List.mem_flatMap.mpr ⟨f, by simp, by rw [e2]; exact List.mem_append_left _ hx2⟩
        have := fm_len (g := fun f => rawP rows 4 f t) (xs := dn ++ [f]) fun x _ => blen x t h1 h4
        rw [List.length_append, List.length_singleton] at this
        have := Nat.mul_le_mul_right 8192 (show dn.length + 1 ≤ 4 by omega)
        omega
      have lp := plc_le rows v ws
      walk_at "px"
      refine idx_i tk F.raw (by have := F.dep; omega) (by have := F.dep; omega) ?_
      cases ei : ixP rows v with
      | none =>
        unfold encO
        walk_at "px"
        refine ih2 _ ⟨ws, some v, ⟨S1, fun x => ?_⟩, rfl⟩
        rw [S2 x]
        refine or_congr Iff.rfl ⟨fun h => ⟨List.mem_append_left _ h.1, h.2⟩, fun h => ?_⟩
        rcases List.mem_append.mp h.1 with m | m
        · exact ⟨m, h.2⟩
        · rw [List.mem_singleton.mp m, ei] at h
          cases h.2
      | some p =>
        unfold encO
        walk_at "px"
        refine beh_i (xs := ws) rfl tk F.raw (by have := F.dep; omega) raws ?_
        walk_at "px"
        refine ⟨⟨by omega, by omega, small_of (by omega)⟩, ih2 _ ⟨insS rows v ws, some v, ⟨srt_ins F.raw S1 (fun x hx => (raws x hx).1) hvw, fun x => ?_⟩, ?_⟩⟩
        · rw [mem_insS, S2 x]
          constructor
          · rintro (rfl | h | h)
            · exact .inr ⟨by simp, by rw [ei]; rfl⟩
            · exact .inl h
            · exact .inr ⟨List.mem_append_left _ h.1, h.2⟩
          · rintro (h | h)
            · exact .inr (.inl h)
            · rcases List.mem_append.mp h.1 with m | m
              · exact .inr (.inr ⟨m, h.2⟩)
              · exact .inl (List.mem_singleton.mp m)
        · rw [Int.toNat_natCast, insS_eq]
          rfl
end

end Lw
set_option maxHeartbeats 4000000
namespace Lw
open PySem L2 PyProof.Rows Px
local macro_rules | `(tactic| walk_at "px") => `(tactic| simp -dsimp only [qVar, qK, qNil, qCons, qTup, qLst, vals, looks, R.look, R.wk, qCB, qB, qOp2, qTru, truG, qAnd, qOr, qNot, qAndV, qOrV, qNotV, qIfE, qNo, qPart, qSl, gSl, qIt, qRng1, qRng2, qgN, qgNil, qgCons, qgT, notIo_zero, notIo_succ, notIo_nil', slOk_un, slOk_val, slOk_own, slOk_pl, slOk_pd, notIos_nil, notIos_cons, qYes, qLc, qNext, qSeq, qBreak, qCont, qFrz, frz, qDrop, retG, qRet, qRetN, qIf, qSet, qOwn, qAsg, qFor, qMut, ownTy, gAppend, gExtend, gPop, isOwn, qSetIx, qCall, splitArgs, putOuts, setOwn, finOk, endsOf, mk, outsOf, uns,
  gAdd, gInt, gInt0, gEq, gNe, gIn, gNotIn, gIs, gIsNot, Px.isNon, gIx, getP, gLen, gAbs, gIntC, gSum, gMax, gMax2, gMax3, gMinT, gAll, gAny, gList, gTuple, gIsi, qNeg, qDict0, wipeE, lcGo_nil, br_t, br_f, atI_0, atI_1, atI_2, atI_3, ixN_0, ixN_1, ixN_2, ixN_3, List.length_map, List.length_set, cut_from1, isTy, tyN, gIsiT, asTys, gListD, keyP, isDic, qGet1, qGet2, qLZ, gZip, qPairs, mergeP, qDisp, gDictC, gStr, qChain, qPar, qAug, qMeth, tyIs, gIndex, qLcK, qDc, qDcK, dicAt, qForK, qZipI, qCallB, qCallF, splitB, qTake, tkEnds, tkRt, tkBack, Px.isN, isNst, gIxN, gPop0, gInsert, qSetSeed, qStep, qPar3, qLcO, lcoK, stEnds, stGo, immS, Px.imm, endsLaw, Option.isSome_some, Option.isSome_none, isEmp_concat, List.getLast?_concat, List.dropLast_concat, List.isEmpty_nil, gEqX, gNeX, List.any_cons, List.any_nil, tyOk_str, tyOk_tuple, tyOk_int, tyOk_bool, tyOk_list, tyOk_dict, Option.map_some, Option.map_none,
  eqOk_str, eqOk_int, eqOk_bl, eqOk_non, eqOkW_str, eqOkW_int, eqOkW_bl, eqOkW_non, gEqW, gNeW, qVals, ownDic, qLc2, gLtX, gGtX, gSortX, peq_str, peq_int, peq_bl, List.getElem?_cons_zero, List.getElem?_cons_succ, List.getElem?_nil, List.set_cons_zero, List.set_cons_succ, List.zipWith_cons_cons, List.zipWith_nil_left, List.replicate_succ, List.replicate_zero, List.cons_append, List.nil_append, List.length_cons, List.length_nil, List.map_cons, List.map_nil, ↓reduceIte, Bool.false_eq_true, and_true, true_and, Bool.not_true, Bool.not_false, Nat.reduceAdd, Nat.reduceLT, Nat.reduceLeDiff, Nat.zero_lt_succ, Nat.lt_add_one, ne_eq, not_true_eq_false, not_false_eq_true, String.reduceEq, String.reduceBEq, Bool.or_false, Bool.false_or, Bool.or_true, Bool.true_or, Bool.and_false, Bool.and_true, Bool.false_and, Bool.true_and, reduceCtorEq, S_lrawf_fr, S_lrawf_io, S_rawf_fr, S_rawf_io, S_idx_fr, S_idx_io, S_bef_fr, S_bef_io, S_vals_fr, S_vals_io])
def WS8 : List Str := [Str.ofString "Q3", Str.ofString "B1", Str.ofString "Z9", Str.ofString "A2", Str.ofString "M0", Str.ofString "C5", Str.ofString "Y4", Str.ofString "D8"]
def reW (w : Str) (r : Rw) : Rw := ⟨w, r.ps, r.fam, r.ix⟩
def rw0 : Rw := ⟨Str.ofString "Q", [], Str.ofString "Q", .non⟩
def rows8 (rows : List Rw) : List Rw := List.zipWith reW WS8 (rows.take 8)
theorem fm_filter {p : PV → Bool} : ∀ xs : List PV, xs.filterMap (fun x => if p x = true then some x else none) = xs.filter p
  | [] => rfl
  | x :: xs => by
    rw [List.filterMap_cons, List.filter_cons]
    by_cases h : p x = true
    · rw [if_pos h, if_pos h, fm_filter xs]
    · rw [if_neg h, if_neg h, fm_filter xs]
theorem rows8_len (rows : List Rw) : (rows8 rows).length = (rows.take 8).length ∧ (rows.take 8).length ≤ 8 := by
  unfold rows8
  have e : WS8.length = 8 := rfl
  rw [List.length_zipWith, e]
  have := List.length_take (i := 8) (l := rows)
  omega
theorem zipW_w : ∀ (W : List Str) (rs : List Rw), (List.zipWith reW W rs).map (·.w) = W.take (List.zipWith reW W rs).length
  | [], rs => by simp
  | _ :: _, [] => by simp
  | w :: W, r :: rs => by
    rw [List.zipWith_cons_cons, List.map_cons, zipW_w W rs, List.length_cons, List.take_succ_cons]; rfl
theorem rows8_ok {rows : List Rw} (tk : TabOk rows) : TabOk (rows8 rows) ∧ (rows8 rows).length ≤ 8 := by
  obtain ⟨l1, l2⟩ := rows8_len rows
  have hw : (rows8 rows).map (·.w) = WS8.take (rows8 rows).length := zipW_w _ _
  refine ⟨⟨fun r hr => ?_, ?_, fun r hr e => ?_, by omega, fun z => ?_⟩, by omega⟩
  · unfold rows8 at hr
    rw [List.mem_iff_getElem?] at hr
    obtain ⟨i, hi⟩ := hr
    rw [List.getElem?_zipWith] at hi
    cases e1 : WS8[i]? with
    | none => rw [e1] at hi; simp at hi
    | some a =>
      cases e2 : (rows.take 8)[i]? with
      | none => rw [e1, e2] at hi; simp at hi
      | some b =>
        rw [e1, e2] at hi
        have hi2 : reW a b = r := by simpa using hi
        have hb : b ∈ rows := List.mem_of_mem_take (List.mem_of_getElem? e2)
        have R := tk.row b hb
        rw [← hi2]
        exact ⟨R.len, R.okp, R.psz, R.oki, R.dep, R.pszi, R.nm⟩
  · rw [hw]
    exact (show WS8.Nodup by decide).sublist (List.take_sublist _ _)
  · have : r.w ∈ (rows8 rows).map (·.w) := List.mem_map.mpr ⟨r, hr, rfl⟩
    rw [hw, e] at this
    exact absurd (List.mem_of_mem_take this) (by decide)
  · have := congrArg List.length z
    rw [l1, List.length_nil, List.length_take] at this
    have := List.length_pos_iff.mpr tk.ne
    omega
theorem rows8_at {rows : List Rw} {k : Nat} (h : k < (rows.take 8).length) : ∃ w r, WS8[k]? = some w ∧ (rows.take 8)[k]? = some r ∧ (rows8 rows)[k]? = some (reW w r) := by
  have l2 := (rows8_len rows).2
  have h1 : k < WS8.length := by show k < 8; omega
  refine ⟨WS8[k], (rows.take 8)[k], List.getElem?_eq_getElem h1, List.getElem?_eq_getElem h, ?_⟩
  unfold rows8
  rw [List.getElem?_zipWith, List.getElem?_eq_getElem h1, List.getElem?_eq_getElem h]
section
variable {P : Program} {w : World} {K : PySem.W.Frag} {mg : Str → Option Value} {base : Heap}
abbrev rdL : QTS := rd_law sState S_table S_draw (S_lrawf 4) (S_idx 30) (S_bef 22) S_vals S_pick (S_bef 22)
abbrev rdB : QTS := (qSeq (qFor (qIt (qOp2 gIx (qVar 2) (qK (.int 2)))) (qgN 7) (qFor (qIt (qCall (S_lrawf 4) (qCons (qVar 2) (qCons (qVar 7) (qCons (qVar 5) qNil))))) (qgN 8) (qIf (qB (qOp2 gIsNot (qCall (S_idx 30) (qCons (qVar 2) (qCons (qVar 8) qNil))) (qK .non))) (qSeq (qSet 9 (qCB gLen (qCons (qLcO 6 (qgN 13) (qTru (qCall (S_bef 22) (qCons (qVar 2) (qCons (qVar 13) (qCons (qVar 8) qNil))))) (qVar 13) [13]) qNil)))
  (qDrop (qMut "list" 6 gInsert (qCons (qVar 9) (qCons (qVar 8) qNil))))) qNext)))
  (qSeq (qIf (qB (qOp2 gNe (qCall S_vals (qCons (qVar 2) (qCons (qVar 5) qNil))) (qVar 6))) (qRet (qK (.bl false))) qNext)
  (qSeq (qOwn 10 (qLst qNil))
  (qSeq (qFor (qRng1 (qCons (qK (.int 8)) qNil)) (qgN 11) (qSeq (qSet 12 (qCall S_pick (qCons (qVar 1) (qCons (qOp2 gIx (qVar 2) (qK (.int 3))) qNil))))
  (qIf (qOr (qB (qOp2 gGt (qCB gLen (qCons (qVar 10) qNil)) (qK (.int 0)))) (qB (qOp2 gEq (qCB gLen (qCons (qOp2 gIx (qVar 12) (qK (.int 1))) qNil)) (qK (.int 0))))) (qDrop (qMut "list" 10 gAppend (qCons (qOp2 gAdd (qTup (qCons (qOp2 gIx (qVar 12) (qK (.int 0))) qNil)) (qCB gTuple (qCons (qLc (qIt (qOp2 gIx (qVar 12) (qK (.int 1)))) (qgN 17) qYes (qCallB S_pick (qCons (qVar 1) (qCons (qVar 10) qNil))) [17]) qNil))) qNil))) qNext)))
  (qFrz 10 (qSeq (qFor (qIt (qVar 10)) (qgN 13) (qFor (qIt (qVar 10)) (qgN 14) (qSeq (qSet 15 (qCall (S_bef 22) (qCons (qVar 2) (qCons (qVar 13) (qCons (qVar 14) qNil)))))
  (qIf (qOr (qNot (qTru (qCB gIsiT (qCons (qVar 15) (qCons (qK (.ty "bool")) qNil))))) (qB (qOp2 gNe (qVar 15) (qCall (S_bef 22) (qCons (qVar 2) (qCons (qVar 13) (qCons (qVar 14) qNil))))))) (qRet (qK (.bl false))) qNext))))
  (qRet (qK (.bl true)))))))))
theorem law_b {ns : List Int} {d mk : PV} {fs : List Str} {rows : List Rw} {W3 W4 : PV} {t : Nat} (tk : TabOk rows) (l8 : rows.length ≤ 8) (fne : fs ≠ []) (fl : fs.length ≤ 4) (fnd : fs.Nodup) (h1 : 1 ≤ t) (h4 : t ≤ 4) (hd : NsOk d) :
    rdB endsLaw [.val (.scr ns), .own false d, .val (encTb mk (.tup (fs.map PV.str)) rows), .val W3, .val W4, .val (.int (t : Nat)), .own false (.lst []), .un, .un, .un, .un, .un, .un, .un, .un, .un, .un, .un] := by
  unfold rdB
  have ht0 : encTb mk (.tup (fs.map PV.str)) rows = .tup [.str (Str.ofString "table"), mk, .tup (fs.map PV.str), .tup (rows.map encRw)] := rfl
  have blen : ∀ f t, 1 ≤ t → t ≤ 4 → (rawP rows 4 f t).length ≤ 8192 := fun f t h1 h4 => Nat.le_trans (rawP_len tk l8 4 f t h1 h4) (bB_4 t h4)
  have facts := rawP_facts tk 4
  have rnd := lrawL_nd tk 4
  have same := raw_same rows 4
  rw [ht0]
  walk_at "px"
  refine for_mapT PV.str (fun dn ρ => ∃ (vs : List PV) (o7 o8 o9 : Option PV), ValsOf rows (lrawL rows 4) dn t vs ∧ ρ = [.val (.scr ns), .own false d, .val (encTb mk (.tup (fs.map PV.str)) rows), .val W3, .val W4, .val (.int (t : Nat)), .own false (.lst vs), plS o7, plS o8, plS o9, .un, .un, .un, .un, .un, .un, .un, .un]) _ _ ⟨[], none, none, none, ⟨List.Pairwise.nil, by simp⟩, rfl⟩ ?_ ?_
  · rintro ρ ⟨due, o7, o8, o9, V, rfl⟩
    walk_at "px"
    refine vals_i tk l8 fnd fl h1 h4 fun vs V2 => ?_
    have evd : vs = due := srt_ext V2.srt V.srt fun v => by
      rw [V2.mem v, V.mem v]
      constructor
      · rintro ⟨f, hf, hv, hs⟩
        exact ⟨f, hf, (same f t v).mp hv, hs⟩
      · rintro ⟨f, hf, hv, hs⟩
        exact ⟨f, hf, (same f t v).mpr hv, hs⟩
    subst evd
    have tv : ∀ v ∈ vs, tsh v = true ∧ dep v ≤ 60 := fun v hv => by
      obtain ⟨f, _, hv, _⟩ := (V2.mem v).mp hv
      have F := facts f t v h1 hv
      exact ⟨(raw_gd tk v F.raw).2, by have := F.dep; omega⟩
    have tvs : tshs vs = true := tshs_all vs fun v hv => (tv v hv).1
    have eo : eqOk (.lst vs) := ⟨by rw [Px.plain]; exact tshs_plains vs tvs, by
      have := (deps_le vs).mpr fun v hv => (tv v hv).2
      rw [dep]; omega⟩
    have pe : peq (.lst vs) (.lst vs) = true := by rw [peq_lst]; exact (peqs_tshs vs vs tvs tvs).mpr rfl
    walk_at "px"
    rw [pe]
    walk_at "px"
    refine ⟨eo, eo, small_of (by omega), by unfold rngOk; omega, ?_⟩
    have e8 : rng 0 (Int.toNat 8) = (List.range 8).map fun k => PV.int (0 + (k : Nat)) := rfl
    rw [e8]
    clear pe eo tvs tv V V2 facts rnd same blen
    generalize PV.lst vs = W6 at *
    refine for_mapT (fun k : Nat => PV.int (0 + (k : Nat))) (fun dn ρ => ∃ (kl : List PV) (d : PV) (o11 o12 : Option PV), kl.length ≤ dn.length ∧ (∀ v ∈ kl, VlOk rows dn.length v) ∧ NsOk d ∧ ρ = [.val (.scr ns), .own false d, .val (encTb mk (.tup (fs.map PV.str)) rows), .val W3, .val W4, .val (.int (t : Nat)), .own false W6, plS o7, plS o8, plS o9, .own false (.lst kl), plS o11, plS o12, .un, .un, .un, .un, .un]) _ _ ⟨[], d, none, none, Nat.le_refl _, by simp, hd, rfl⟩ ?_ ?_
    · rintro ρ ⟨kl, d, o11, o12, lk, hk, hd, rfl⟩
      rw [List.length_range] at lk hk
      walk_at "px"
      refine for_mapP (fun _ ρ => ∃ (o13 o14 o15 : Option PV), ρ = [.val (.scr ns), .own false d, .val (encTb mk (.tup (fs.map PV.str)) rows), .val W3, .val W4, .val (.int (t : Nat)), .own false W6, plS o7, plS o8, plS o9, .val (.lst kl), plS o11, plS o12, plS o13, plS o14, plS o15, .un, .un]) _ _ ⟨none, none, none, rfl⟩ ?_ ?_
      · rintro ρ ⟨o13, o14, o15, rfl⟩
        walk_at "px"
      · rintro dn a lf ρ e ⟨o13, o14, o15, rfl⟩ N ih
        obtain ⟨ra, da⟩ := hk a (by rw [e]; simp)
        walk_at "px"
        refine for_mapP (fun _ ρ => ∃ (o14 o15 : Option PV), ρ = [.val (.scr ns), .own false d, .val (encTb mk (.tup (fs.map PV.str)) rows), .val W3, .val W4, .val (.int (t : Nat)), .own false W6, plS o7, plS o8, plS o9, .val (.lst kl), plS o11, plS o12, .val a, plS o14, plS o15, .un, .un]) _ _ ⟨o14, o15, rfl⟩ ?_ ?_
        · rintro ρ ⟨o14, o15, rfl⟩
          exact ih _ ⟨some a, o14, o15, rfl⟩
        · rintro dn2 b lf2 ρ e2 ⟨o14, o15, rfl⟩ N2 ih2
          obtain ⟨rb, db⟩ := hk b (by rw [e2]; simp)
          have nx := ih2 [.val (.scr ns), .own false d, .val (encTb mk (.tup (fs.map PV.str)) rows), .val W3, .val W4, .val (.int (t : Nat)), .own false W6, plS o7, plS o8, plS o9, .val (.lst kl), plS o11, plS o12, .val a, .val b, .val (.bl (ltV rows a b)), .un, .un] ⟨some b, some (.bl (ltV rows a b)), rfl⟩
          walk_at "px"
          refine bef_i tk ra rb (by omega) (by omega) (by omega) ?_
          walk_at "px"
          refine bef_i tk ra rb (by omega) (by omega) (by omega) ?_
          walk_at "px"
          have bb : (!ltV rows a b == ltV rows a b) = false := by simp
          rw [bb]
          exact ⟨fun h => (by cases h), fun _ => nx⟩
    · rintro dn k lf ρ e ⟨kl, d, o11, o12, lk, hk, hd, rfl⟩ N ih
      have lj := congrArg List.length e
      rw [List.length_range, List.length_append, List.length_cons] at lj
      rw [ht0]
      walk_at "px"
      have lt := tk.len
      refine pick_i rfl hd trivial (by show rows.map encRw ≠ []; intro z; exact tk.ne (List.map_eq_nil_iff.mp z)) (by show (rows.map encRw).length < 1000000; rw [List.length_map]; omega) fun x d2 hd2 hx => ?_
      obtain ⟨r, hr, rfl⟩ := List.mem_map.mp (show x ∈ rows.map encRw from hx)
      have rk := (tk.row r hr).len
      have er : encRw r = .tup [.str r.w, .tup (r.ps.map encPt), .str r.fam, r.ix] := rfl
      rw [er]
      walk_at "px"
      have nxt : ∀ kl2 : List PV, kl2.length ≤ dn.length + 1 → (∀ v ∈ kl2, VlOk rows (dn.length + 1) v) → ∀ d, NsOk d → N [.val (.scr ns), .own false d, .val (encTb mk (.tup (fs.map PV.str)) rows), .val W3, .val W4, .val (.int (t : Nat)), .own false W6, plS o7, plS o8, plS o9, .own false (.lst kl2), .val (PV.int (0 + (k : Nat))), .val (encRw r), .un, .un, .un, .un, .un] := fun kl2 h1 h2 d hd => ih _ ⟨kl2, d, some (PV.int (0 + (k : Nat))), some (encRw r), by rw [List.length_append, List.length_singleton]; exact h1, by rw [List.length_append, List.length_singleton]; exact h2, hd, rfl⟩
      have kne : (decide ((0 : Int) < ((kl.length : Nat) : Int)) = true ∨ (((r.ps.length : Nat) : Int) == 0) = true) → r.ps ≠ [] → kl ≠ [] := fun h hne hz => by
        rcases h with h | h
        · have := of_decide_eq_true h
          rw [hz] at this; simp at this
        · have h2 : ((r.ps.length : Nat) : Int) = 0 := by simpa using h
          exact hne (List.length_eq_zero_iff.mp (by omega))
      have nx0 := nxt kl (by omega) (fun v hv => ⟨(hk v hv).1, by have := (hk v hv).2; omega⟩) d2 hd2
      refine br_i (fun h => ?_) fun h => br_i (fun h2 => ?_) fun h2 => nx0
      all_goals
        have kn : r.ps ≠ [] → kl ≠ [] := by first | exact kne (.inl h) | exact kne (.inr h2)
        refine ⟨small_of (by omega), lcR_i (lc_ind (fun qs acc ρ => ∃ (m : List (Str × PV)) (d : PV), qs = m.map encPt ∧ acc.length + m.length = r.ps.length ∧ (∀ v ∈ acc, VlOk rows dn.length v) ∧ NsOk d ∧ ρ = [.val (.scr ns), .own false d, .val (encTb mk (.tup (fs.map PV.str)) rows), .val W3, .val W4, .val (.int (t : Nat)), .own false W6, plS o7, plS o8, plS o9, .own false (.lst kl), .val (PV.int (0 + (k : Nat))), .val (encRw r), .un, .un, .un, .un, .un]) ?_ ?_ _ _ _ ⟨r.ps, d2, rfl, by simp, by simp, hd2, rfl⟩)⟩
        · rintro acc ρ ⟨m, d, em, la, ha, hd, rfl⟩
          have e3 := nodrop em
          subst e3
          rw [List.length_nil, Nat.add_zero] at la
          rw [er]
          walk_at "px"
          obtain ⟨pr1, pr2⟩ := pt_raw tk hr (n := dn.length) (l := acc) ⟨la, ha⟩
          refine ⟨small_of (by omega), small_of (by omega), ?_⟩
          refine nxt _ (by rw [List.length_append, List.length_singleton]; omega) (fun v hv => ?_) d hd
          rcases List.mem_append.mp hv with hv | hv
          · exact ⟨(hk v hv).1, by have := (hk v hv).2; omega⟩
          · rw [List.mem_singleton.mp hv]; exact ⟨pr1, pr2⟩
        · rintro q qs acc ρ ⟨m, d, em, la, ha, hd, rfl⟩ N2 ih2
          obtain ⟨x, m, rfl, rfl, rfl⟩ := map_cons_inv em
          rw [List.length_cons] at la
          have hkl : kl ≠ [] := kn fun z => by rw [z] at la; simp at la
          walk_at "px"
          refine pickB_i rfl rfl (by decide) hd hkl (by omega) (fun v hv => tsh_imm v (raw_gd tk v (hk v hv).1).2) fun v d3 hd3 hv => ?_
          walk_at "px"
          refine ⟨small_of (by omega), ih2 _ _ ⟨m, d3, rfl, by rw [List.length_append, List.length_singleton]; omega, fun u hu => ?_, hd3, rfl⟩⟩
          rcases List.mem_append.mp hu with hu | hu
          · exact ha u hu
          · rw [List.mem_singleton.mp hu]; exact hk v hv
  · rintro dn f lf ρ e ⟨vs, o7, o8, o9, V, rfl⟩ N ih
    have lfs := congrArg List.length e
    rw [List.length_append, List.length_cons] at lfs
    rw [e] at fnd
    have hfd : f ∉ dn := fun z => by
      rw [List.nodup_append] at fnd
      exact fnd.2.2 f z f List.mem_cons_self rfl
    walk_at "px"
    refine lrawf_i tk l8 h1 h4 h4 ?_
    walk_at "px"
    refine for_mapP (fun d2 ρ => ∃ (ws : List PV) (o8 o9 : Option PV), (Srt rows ws ∧ ∀ v, v ∈ ws ↔ (∃ g ∈ dn, v ∈ lrawL rows 4 g t ∧ (ixP rows v).isSome = true) ∨ (v ∈ d2 ∧ (ixP rows v).isSome = true)) ∧ ρ = [.val (.scr ns), .own false d, .val (encTb mk (.tup (fs.map PV.str)) rows), .val W3, .val W4, .val (.int (t : Nat)), .own false (.lst ws), .val (.str f), plS o8, plS o9, .un, .un, .un, .un, .un, .un, .un, .un]) _ _ ⟨vs, o8, o9, ⟨V.srt, fun v => by rw [V.mem v]; simp⟩, rfl⟩ ?_ ?_
    · rintro ρ ⟨ws, o8, o9, ⟨S1, S2⟩, rfl⟩
      refine ih _ ⟨ws, some (.str f), o8, o9, ⟨S1, fun v => ?_⟩, rfl⟩
      rw [S2 v]
      constructor
      · rintro (⟨g, hg, hv⟩ | ⟨hv, hs⟩)
        · exact ⟨g, List.mem_append_left _ hg, hv⟩
        · exact ⟨f, by simp, hv, hs⟩
      · rintro ⟨g, hg, hv⟩
        rcases List.mem_append.mp hg with hg | hg
        · exact .inl ⟨g, hg, hv⟩
        · rw [List.mem_singleton.mp hg] at hv
          exact .inr hv
    · rintro d2 v l2 ρ e2 ⟨ws, o8, o9, ⟨S1, S2⟩, rfl⟩ N2 ih2
      have hv : v ∈ lrawL rows 4 f t := by rw [e2]; simp
      have F := facts f t v h1 ((same f t v).mpr hv)
      have nd2 := rnd f t h1
      rw [e2] at nd2
      have hvd : v ∉ d2 := fun z => by
        rw [List.nodup_append] at nd2
        exact nd2.2.2 v z v List.mem_cons_self rfl
      have raws : ∀ x ∈ ws, isRaw rows x = true ∧ dep x ≤ 20 := fun x hx => by
        rcases (S2 x).mp hx with ⟨g, _, hx2, _⟩ | ⟨hx2, _⟩
        · have G := facts g t x h1 ((same g t x).mpr hx2)
          exact ⟨G.raw, by have := G.dep; omega⟩
        · have G := facts f t x h1 ((same f t x).mpr (by rw [e2]; exact List.mem_append_left _ hx2))
          exact ⟨G.raw, by have := G.dep; omega⟩
      have hvw : v ∉ ws := fun z => by
        rcases (S2 v).mp z with ⟨g, hg, hx2, _⟩ | ⟨hx2, _⟩
        · obtain ⟨r1, q1, m1, e1, f1⟩ := F.fam
          obtain ⟨r2, q2, m2, e3, f2⟩ := (facts g t v h1 ((same g t v).mpr hx2)).fam
          rw [e1] at e3
          injection e3 with e3
          injection e3 with e3 _
          injection e3 with e3
          have := row_word tk m1 m2 e3
          rw [this, f2] at f1
          exact hfd (by rw [← f1]; exact hg)
        · exact hvd hx2
      have lws : ws.length ≤ 40000 := by
        have nd3 : ws.Nodup := S1.imp fun {a b} h e => by
          subst e; exact ltV_irr h
        have := nodup_le (ys := (dn ++ [f]).flatMap fun f => rawP rows 4 f t) nd3 fun x hx => by
          rcases (S2 x).mp hx with ⟨g, hg, hx2, _⟩ | ⟨hx2, _⟩
          · exact List.mem_flatMap.mpr ⟨g, List.mem_append_left _ hg, (same g t x).mpr hx2⟩
          · exact List.mem_flatMap.mpr ⟨f, by simp, (same f t x).mpr (by rw [e2]; exact List.mem_append_left _ hx2)⟩
        have := fm_len (g := fun f => rawP rows 4 f t) (xs := dn ++ [f]) fun x _ => blen x t h1 h4
        rw [List.length_append, List.length_singleton] at this
        have := Nat.mul_le_mul_right 8192 (show dn.length + 1 ≤ 4 by omega)
        omega
      have lp := plc_le rows v ws
      have pf := plc_filter (v := v) S1
      walk_at "px"
      refine idx_i tk F.raw (by have := F.dep; omega) (by have := F.dep; omega) ?_
      walk_at "px"
      cases ei : ixP rows v with
      | none =>
        unfold encO
        walk_at "px"
        refine ih2 _ ⟨ws, some v, o9, ⟨S1, fun x => ?_⟩, rfl⟩
        rw [S2 x]
        refine or_congr Iff.rfl ⟨fun h => ⟨List.mem_append_left _ h.1, h.2⟩, fun h => ?_⟩
        rcases List.mem_append.mp h.1 with m | m
        · exact ⟨m, h.2⟩
        · rw [List.mem_singleton.mp m, ei] at h
          cases h.2
      | some p =>
        unfold encO
        walk_at "px"
        refine lcR_i (lc_fm (fun x => if ltV rows x v = true then some x else none) ws _ (by omega) ?_ fun x hx acc N3 sm k => ?_)
        · walk_at "px"
          rw [fm_filter, pf, Int.toNat_natCast, insS_eq]
          refine ⟨⟨by omega, by omega, small_of (by omega)⟩, ih2 _ ⟨insS rows v ws, some v, some (.int (plc rows v ws : Nat)), ⟨srt_ins F.raw S1 (fun x hx => (raws x hx).1) hvw, fun x => ?_⟩, rfl⟩⟩
          rw [mem_insS, S2 x]
          constructor
          · rintro (rfl | h | h)
            · exact .inr ⟨by simp, by rw [ei]; rfl⟩
            · exact .inl h
            · exact .inr ⟨List.mem_append_left _ h.1, h.2⟩
          · rintro (h | h)
            · exact .inr (.inl h)
            · rcases List.mem_append.mp h.1 with m | m
              · exact .inr (.inr ⟨m, h.2⟩)
              · exact .inl (List.mem_singleton.mp m)
        · walk_at "px"
          refine bef_i tk (raws x hx).1 F.raw (by have := (raws x hx).2; omega) (by have := (raws x hx).2; omega) (by have := F.dep; omega) ?_
          walk_at "px"
          by_cases c : ltV rows x v = true
          · rw [if_pos c] at k
            rw [c]
            exact ⟨fun _ => ⟨sm, k⟩, fun h => by cases h⟩
          · rw [if_neg c] at k
            have c2 : ltV rows x v = false := by simpa using c
            rw [c2]
            exact ⟨fun h => (by cases h), fun _ => by simpa using k⟩
theorem law_main {ns : List Int} {d : PV} (hd : NsOk d) : rdL endsLaw [.val (.scr ns), .own false d, .un, .un, .un, .un, .un, .un, .un, .un, .un, .un, .un, .un, .un, .un, .un, .un] := by
  unfold rdL rd_law
  walk_at "px"
  refine table_i rfl hd fun mk fs rows d1 hd1 tk0 fne fl fnd => ?_
  obtain ⟨tk, l8⟩ := rows8_ok tk0
  obtain ⟨el, l8'⟩ := rows8_len rows
  have ht0 : encTb mk (.tup (fs.map PV.str)) rows = .tup [.str (Str.ofString "table"), mk, .tup (fs.map PV.str), .tup (rows.map encRw)] := rfl
  have lt := tk0.len
  rw [ht0]
  walk_at "px"
  have ec : cutP (rows.map encRw) none (some 8) = (rows.take 8).map encRw := by rw [show (8 : Int) = ((8 : Nat) : Int) from rfl, cut_to, List.map_take]
  rw [ec, List.length_map]
  generalize hr8 : rows.take 8 = r8 at *
  refine ⟨small_of (by omega), by unfold rngOk; omega, ?_⟩
  rw [Int.toNat_natCast, rng]
  refine lcR_i (lc_mapT (fun k => PV.int (0 + (k : Nat))) (fun k => encRw ((rows8 rows).getD k rw0)) (List.range r8.length) _ (by rw [List.length_range]; omega) ?_ fun k hk acc N sm kk => ?_)
  · have e8 : (List.range r8.length).map (fun k => encRw ((rows8 rows).getD k rw0)) = (rows8 rows).map encRw := by
      rw [← el]
      apply List.ext_getElem?
      intro i
      rw [List.getElem?_map, List.getElem?_map]
      by_cases hi : i < (rows8 rows).length
      · rw [List.getElem?_range hi, List.getElem?_eq_getElem hi, Option.map_some, Option.map_some, List.getD_eq_getElem?_getD, List.getElem?_eq_getElem hi]; rfl
      · rw [List.getElem?_eq_none (by rw [List.length_range]; omega), List.getElem?_eq_none (by omega)]; rfl
    rw [e8]
    have e3 : cutP [PV.str (Str.ofString "table"), mk, PV.tup (fs.map PV.str), PV.tup (rows.map encRw)] none (some 3) = [PV.str (Str.ofString "table"), mk, PV.tup (fs.map PV.str)] := rfl
    rw [e3]
    have ht1 : encTb mk (.tup (fs.map PV.str)) (rows8 rows) = .tup [.str (Str.ofString "table"), mk, .tup (fs.map PV.str), .tup ((rows8 rows).map encRw)] := rfl
    walk_at "px"
    refine ⟨small_of (by omega), small_of (by omega), draw_i rfl hd1 (by decide) (by decide) fun many d2 hd2 m0 m1 => ?_⟩
    rw [← ht1]
    obtain ⟨t, et, h1, h4⟩ : ∃ t : Nat, 1 + many = (t : Int) ∧ 1 ≤ t ∧ t ≤ 4 := ⟨(1 + many).toNat, by omega, by omega, by omega⟩
    walk_at "px"
    rw [et]
    have eT := ht1
    generalize PV.lst [PV.str (Str.ofString "Q3"), PV.str (Str.ofString "B1"), PV.str (Str.ofString "Z9"), PV.str (Str.ofString "A2"), PV.str (Str.ofString "M0"), PV.str (Str.ofString "C5"), PV.str (Str.ofString "Y4"), PV.str (Str.ofString "D8")] = W3
    generalize PV.tup (r8.map encRw) = W4
    refine ⟨small_of (by omega), ?_⟩
    exact law_b tk l8 fne fl fnd h1 h4 hd2
  · rw [List.mem_range] at hk
    obtain ⟨w, r, h1, h2, h3⟩ := rows8_at (rows := rows) (k := k) (by rw [hr8]; exact hk)
    rw [hr8] at h2
    have aw : atI [PV.str (Str.ofString "Q3"), PV.str (Str.ofString "B1"), PV.str (Str.ofString "Z9"), PV.str (Str.ofString "A2"), PV.str (Str.ofString "M0"), PV.str (Str.ofString "C5"), PV.str (Str.ofString "Y4"), PV.str (Str.ofString "D8")] (0 + ((k : Nat) : Int)) = some (.str w) := at0 (by show (WS8.map PV.str)[k]? = _; rw [List.getElem?_map, h1]; rfl)
    have ar : atI (r8.map encRw) (0 + ((k : Nat) : Int)) = some (encRw r) := at0 (by rw [List.getElem?_map, h2]; rfl)
    have eg : (rows8 rows).getD k rw0 = reW w r := by rw [List.getD_eq_getElem?_getD, h3]; rfl
    rw [eg] at kk
    walk_at "px"
    rw [aw, ar]
    have er : encRw r = .tup [.str r.w, .tup (r.ps.map encPt), .str r.fam, r.ix] := rfl
    rw [er]
    walk_at "px"
    exact ⟨small_of (by omega), small_of (by omega), sm, kk⟩
theorem ok_law (T : Txt K mg) : HasL P w K mg base "law" 100 ["script"] := by
  refine dv_law (k := 99) ((ok_state T).mono (by omega)) ((ok_table T).mono (by omega)) ((ok_draw T).mono (by omega)) ((ok_lrawf T 4).mono (by omega)) ((ok_lidx T 30).mono (by omega)) ((ok_lbef T 22).mono (by omega)) ((ok_vals T).mono (by omega)) ((ok_pick T).mono (by omega)) ((ok_bef T 22).mono (by omega)) T fun ns hl => ?_
  unfold rd_law1
  show qOwn 1 _ _ [.val (.scr ns), .un, .un, .un, .un, .un, .un, .un, .un, .un, .un, .un, .un, .un, .un, .un, .un, .un]
  walk_at "px"
  refine state_i hl fun ms s nn => ?_
  walk_at "px"
  exact ⟨⟨ms, rfl, nn⟩, rfl, fun c => law_main ⟨c, s, rfl⟩⟩
end

end Lw
namespace Lw
open PySem L2 PyProof.Rows Px
theorem all_mk {l : PySem.W.OpenLaw} {w : World} {K : PySem.W.Frag} {h : Heap} {mg : Str → Option Value} {fa : Addr} (X : K.In h) (G : h.Ns mainGlobals mg) (hfa : mg "law" = some (.ref fa))
    {f0 f1 f2 f3 f4 f5 f6 f7 f8 f9 f10 f11 f12 f13 f14 f15 f16 f17 f18 f19 f20 f21 f22 f23 f24 : Addr}
    {od0 an0 od1 an1 od2 an2 od3 an3 od4 an4 od5 an5 od6 an6 od7 an7 od8 an8 od9 an9 od10 an10 od11 an11 od12 an12 od13 an13 od14 an14 od15 an15 od16 an16 od17 an17 od18 an18 od19 an19 od20 an20 od21 an21 od22 an22 od23 an23 od24 an24 : Option Addr} {sl0 sl1 sl2 sl3 sl4 sl5 sl6 sl7 sl8 sl9 sl10 sl11 sl12 sl13 sl14 sl15 sl16 sl17 sl18 sl19 sl20 sl21 sl22 sl23 sl24 : Array (Option Value)} {oc0 kV0 dc0 pm0 cd0 ct0 oc1 kV1 dc1 pm1 cd1 ct1 oc2 kV2 dc2 pm2 cd2 ct2 oc3 kV3 dc3 pm3 cd3 ct3 oc4 kV4 dc4 pm4 cd4 ct4 oc5 kV5 dc5 pm5 cd5 ct5 oc6 kV6 dc6 pm6 cd6 ct6 oc7 kV7 dc7 pm7 cd7 ct7 oc8 kV8 dc8 pm8 cd8 ct8 oc9 kV9 dc9 pm9 cd9 ct9 oc10 kV10 dc10 pm10 cd10 ct10 oc11 kV11 dc11 pm11 cd11 ct11 oc12 kV12 dc12 pm12 cd12 ct12 oc13 kV13 dc13 pm13 cd13 ct13 oc14 kV14 dc14 pm14 cd14 ct14 oc15 kV15 dc15 pm15 cd15 ct15 oc16 kV16 dc16 pm16 cd16 ct16 oc17 kV17 dc17 pm17 cd17 ct17 oc18 kV18 dc18 pm18 cd18 ct18 oc19 kV19 dc19 pm19 cd19 ct19 oc20 kV20 dc20 pm20 cd20 ct20 oc21 kV21 dc21 pm21 cd21 ct21 oc22 kV22 dc22 pm22 cd22 ct22 oc23 kV23 dc23 pm23 cd23 ct23 oc24 kV24 dc24 pm24 cd24 ct24 : Value}
    (a0 : PySem.W.nsIn K mainGlobals "put" = some (some (.ref f0))) (l0 : K.lookup f0 = some ⟨oc0, od0, .func (PySem.W.fnOf "put" "put" (defArgs s_put) (defBody s_put) (defScope s_put) .none kV0 dc0 pm0 an0 cd0 ct0), sl0⟩) (c0 : PySem.W.codeIn K cd0 "put" = true) (k0 : PySem.W.keepIn K (.ref f0) = true)
    (a1 : PySem.W.nsIn K mainGlobals "fitted" = some (some (.ref f1))) (l1 : K.lookup f1 = some ⟨oc1, od1, .func (PySem.W.fnOf "fitted" "fitted" (defArgs s_fitted) (defBody s_fitted) (defScope s_fitted) .none kV1 dc1 pm1 an1 cd1 ct1), sl1⟩) (c1 : PySem.W.codeIn K cd1 "fitted" = true) (k1 : PySem.W.keepIn K (.ref f1) = true)
    (a2 : PySem.W.nsIn K mainGlobals "constructor_of" = some (some (.ref f2))) (l2 : K.lookup f2 = some ⟨oc2, od2, .func (PySem.W.fnOf "constructor_of" "constructor_of" (defArgs s_constructor_of) (defBody s_constructor_of) (defScope s_constructor_of) .none kV2 dc2 pm2 an2 cd2 ct2), sl2⟩) (c2 : PySem.W.codeIn K cd2 "constructor_of" = true) (k2 : PySem.W.keepIn K (.ref f2) = true)
    (a3 : PySem.W.nsIn K mainGlobals "constructors_of" = some (some (.ref f3))) (l3 : K.lookup f3 = some ⟨oc3, od3, .func (PySem.W.fnOf "constructors_of" "constructors_of" (defArgs s_constructors_of) (defBody s_constructors_of) (defScope s_constructors_of) .none kV3 dc3 pm3 an3 cd3 ct3), sl3⟩) (c3 : PySem.W.codeIn K cd3 "constructors_of" = true) (k3 : PySem.W.keepIn K (.ref f3) = true)
    (a4 : PySem.W.nsIn K mainGlobals "index_of" = some (some (.ref f4))) (l4 : K.lookup f4 = some ⟨oc4, od4, .func (PySem.W.fnOf "index_of" "index_of" (defArgs s_index_of) (defBody s_index_of) (defScope s_index_of) .none kV4 dc4 pm4 an4 cd4 ct4), sl4⟩) (c4 : PySem.W.codeIn K cd4 "index_of" = true) (k4 : PySem.W.keepIn K (.ref f4) = true)
    (a5 : PySem.W.nsIn K mainGlobals "size" = some (some (.ref f5))) (l5 : K.lookup f5 = some ⟨oc5, od5, .func (PySem.W.fnOf "size" "size" (defArgs s_size) (defBody s_size) (defScope s_size) .none kV5 dc5 pm5 an5 cd5 ct5), sl5⟩) (c5 : PySem.W.codeIn K cd5 "size" = true) (k5 : PySem.W.keepIn K (.ref f5) = true)
    (a6 : PySem.W.nsIn K mainGlobals "place_of" = some (some (.ref f6))) (l6 : K.lookup f6 = some ⟨oc6, od6, .func (PySem.W.fnOf "place_of" "place_of" (defArgs s_place_of) (defBody s_place_of) (defScope s_place_of) .none kV6 dc6 pm6 an6 cd6 ct6), sl6⟩) (c6 : PySem.W.codeIn K cd6 "place_of" = true) (k6 : PySem.W.keepIn K (.ref f6) = true)
    (a7 : PySem.W.nsIn K mainGlobals "before" = some (some (.ref f7))) (l7 : K.lookup f7 = some ⟨oc7, od7, .func (PySem.W.fnOf "before" "before" (defArgs s_before) (defBody s_before) (defScope s_before) .none kV7 dc7 pm7 an7 cd7 ct7), sl7⟩) (c7 : PySem.W.codeIn K cd7 "before" = true) (k7 : PySem.W.keepIn K (.ref f7) = true)
    (a8 : PySem.W.nsIn K mainGlobals "shares" = some (some (.ref f8))) (l8 : K.lookup f8 = some ⟨oc8, od8, .func (PySem.W.fnOf "shares" "shares" (defArgs s_shares) (defBody s_shares) (defScope s_shares) .none kV8 dc8 pm8 an8 cd8 ct8), sl8⟩) (c8 : PySem.W.codeIn K cd8 "shares" = true) (k8 : PySem.W.keepIn K (.ref f8) = true)
    (a9 : PySem.W.nsIn K mainGlobals "raw_of" = some (some (.ref f9))) (l9 : K.lookup f9 = some ⟨oc9, od9, .func (PySem.W.fnOf "raw_of" "raw_of" (defArgs s_raw_of) (defBody s_raw_of) (defScope s_raw_of) .none kV9 dc9 pm9 an9 cd9 ct9), sl9⟩) (c9 : PySem.W.codeIn K cd9 "raw_of" = true) (k9 : PySem.W.keepIn K (.ref f9) = true)
    (a10 : PySem.W.nsIn K mainGlobals "comes_behind" = some (some (.ref f10))) (l10 : K.lookup f10 = some ⟨oc10, od10, .func (PySem.W.fnOf "comes_behind" "comes_behind" (defArgs s_comes_behind) (defBody s_comes_behind) (defScope s_comes_behind) .none kV10 dc10 pm10 an10 cd10 ct10), sl10⟩) (c10 : PySem.W.codeIn K cd10 "comes_behind" = true) (k10 : PySem.W.keepIn K (.ref f10) = true)
    (a11 : PySem.W.nsIn K mainGlobals "values_of" = some (some (.ref f11))) (l11 : K.lookup f11 = some ⟨oc11, od11, .func (PySem.W.fnOf "values_of" "values_of" (defArgs s_values_of) (defBody s_values_of) (defScope s_values_of) .none kV11 dc11 pm11 an11 cd11 ct11), sl11⟩) (c11 : PySem.W.codeIn K cd11 "values_of" = true) (k11 : PySem.W.keepIn K (.ref f11) = true)
    (a12 : PySem.W.nsIn K mainGlobals "_law_state" = some (some (.ref f12))) (l12 : K.lookup f12 = some ⟨oc12, od12, .func (PySem.W.fnOf "_law_state" "_law_state" (defArgs s__law_state) (defBody s__law_state) (defScope s__law_state) .none kV12 dc12 pm12 an12 cd12 ct12), sl12⟩) (c12 : PySem.W.codeIn K cd12 "_law_state" = true) (k12 : PySem.W.keepIn K (.ref f12) = true)
    (a13 : PySem.W.nsIn K mainGlobals "_law_draw" = some (some (.ref f13))) (l13 : K.lookup f13 = some ⟨oc13, od13, .func (PySem.W.fnOf "_law_draw" "_law_draw" (defArgs s__law_draw) (defBody s__law_draw) (defScope s__law_draw) .none kV13 dc13 pm13 an13 cd13 ct13), sl13⟩) (c13 : PySem.W.codeIn K cd13 "_law_draw" = true) (k13 : PySem.W.keepIn K (.ref f13) = true)
    (a14 : PySem.W.nsIn K mainGlobals "_law_pick" = some (some (.ref f14))) (l14 : K.lookup f14 = some ⟨oc14, od14, .func (PySem.W.fnOf "_law_pick" "_law_pick" (defArgs s__law_pick) (defBody s__law_pick) (defScope s__law_pick) .none kV14 dc14 pm14 an14 cd14 ct14), sl14⟩) (c14 : PySem.W.codeIn K cd14 "_law_pick" = true) (k14 : PySem.W.keepIn K (.ref f14) = true)
    (a15 : PySem.W.nsIn K mainGlobals "_law_shape" = some (some (.ref f15))) (l15 : K.lookup f15 = some ⟨oc15, od15, .func (PySem.W.fnOf "_law_shape" "_law_shape" (defArgs s__law_shape) (defBody s__law_shape) (defScope s__law_shape) .none kV15 dc15 pm15 an15 cd15 ct15), sl15⟩) (c15 : PySem.W.codeIn K cd15 "_law_shape" = true) (k15 : PySem.W.keepIn K (.ref f15) = true)
    (a16 : PySem.W.nsIn K mainGlobals "_law_table" = some (some (.ref f16))) (l16 : K.lookup f16 = some ⟨oc16, od16, .func (PySem.W.fnOf "_law_table" "_law_table" (defArgs s__law_table) (defBody s__law_table) (defScope s__law_table) .none kV16 dc16 pm16 an16 cd16 ct16), sl16⟩) (c16 : PySem.W.codeIn K cd16 "_law_table" = true) (k16 : PySem.W.keepIn K (.ref f16) = true)
    (a17 : PySem.W.nsIn K mainGlobals "_law_constructors" = some (some (.ref f17))) (l17 : K.lookup f17 = some ⟨oc17, od17, .func (PySem.W.fnOf "_law_constructors" "_law_constructors" (defArgs s__law_constructors) (defBody s__law_constructors) (defScope s__law_constructors) .none kV17 dc17 pm17 an17 cd17 ct17), sl17⟩) (c17 : PySem.W.codeIn K cd17 "_law_constructors" = true) (k17 : PySem.W.keepIn K (.ref f17) = true)
    (a18 : PySem.W.nsIn K mainGlobals "_law_fit" = some (some (.ref f18))) (l18 : K.lookup f18 = some ⟨oc18, od18, .func (PySem.W.fnOf "_law_fit" "_law_fit" (defArgs s__law_fit) (defBody s__law_fit) (defScope s__law_fit) .none kV18 dc18 pm18 an18 cd18 ct18), sl18⟩) (c18 : PySem.W.codeIn K cd18 "_law_fit" = true) (k18 : PySem.W.keepIn K (.ref f18) = true)
    (a19 : PySem.W.nsIn K mainGlobals "_law_put" = some (some (.ref f19))) (l19 : K.lookup f19 = some ⟨oc19, od19, .func (PySem.W.fnOf "_law_put" "_law_put" (defArgs s__law_put) (defBody s__law_put) (defScope s__law_put) .none kV19 dc19 pm19 an19 cd19 ct19), sl19⟩) (c19 : PySem.W.codeIn K cd19 "_law_put" = true) (k19 : PySem.W.keepIn K (.ref f19) = true)
    (a20 : PySem.W.nsIn K mainGlobals "_law_index" = some (some (.ref f20))) (l20 : K.lookup f20 = some ⟨oc20, od20, .func (PySem.W.fnOf "_law_index" "_law_index" (defArgs s__law_index) (defBody s__law_index) (defScope s__law_index) .none kV20 dc20 pm20 an20 cd20 ct20), sl20⟩) (c20 : PySem.W.codeIn K cd20 "_law_index" = true) (k20 : PySem.W.keepIn K (.ref f20) = true)
    (a21 : PySem.W.nsIn K mainGlobals "_law_size" = some (some (.ref f21))) (l21 : K.lookup f21 = some ⟨oc21, od21, .func (PySem.W.fnOf "_law_size" "_law_size" (defArgs s__law_size) (defBody s__law_size) (defScope s__law_size) .none kV21 dc21 pm21 an21 cd21 ct21), sl21⟩) (c21 : PySem.W.codeIn K cd21 "_law_size" = true) (k21 : PySem.W.keepIn K (.ref f21) = true)
    (a22 : PySem.W.nsIn K mainGlobals "_law_before" = some (some (.ref f22))) (l22 : K.lookup f22 = some ⟨oc22, od22, .func (PySem.W.fnOf "_law_before" "_law_before" (defArgs s__law_before) (defBody s__law_before) (defScope s__law_before) .none kV22 dc22 pm22 an22 cd22 ct22), sl22⟩) (c22 : PySem.W.codeIn K cd22 "_law_before" = true) (k22 : PySem.W.keepIn K (.ref f22) = true)
    (a23 : PySem.W.nsIn K mainGlobals "_law_raw" = some (some (.ref f23))) (l23 : K.lookup f23 = some ⟨oc23, od23, .func (PySem.W.fnOf "_law_raw" "_law_raw" (defArgs s__law_raw) (defBody s__law_raw) (defScope s__law_raw) .none kV23 dc23 pm23 an23 cd23 ct23), sl23⟩) (c23 : PySem.W.codeIn K cd23 "_law_raw" = true) (k23 : PySem.W.keepIn K (.ref f23) = true)
    (a24 : PySem.W.nsIn K mainGlobals "law" = some (some (.ref f24))) (l24 : K.lookup f24 = some ⟨oc24, od24, .func (PySem.W.fnOf "law" "law" (defArgs s_law) (defBody s_law) (defScope s_law) .none kV24 dc24 pm24 an24 cd24 ct24), sl24⟩) (c24 : PySem.W.codeIn K cd24 "law" = true) (k24 : PySem.W.keepIn K (.ref f24) = true)
    (z0 : PySem.W.nsIn K mainGlobals "isinstance" = some none)
    (z1 : PySem.W.nsIn K mainGlobals "str" = some none)
    (z2 : PySem.W.nsIn K mainGlobals "tuple" = some none)
    (z3 : PySem.W.nsIn K mainGlobals "list" = some none)
    (z4 : PySem.W.nsIn K mainGlobals "zip" = some none)
    (z5 : PySem.W.nsIn K mainGlobals "sum" = some none)
    (z6 : PySem.W.nsIn K mainGlobals "range" = some none)
    (z7 : PySem.W.nsIn K mainGlobals "len" = some none)
    (z8 : PySem.W.nsIn K mainGlobals "int" = some none)
    (z9 : PySem.W.nsIn K mainGlobals "abs" = some none)
    (z10 : PySem.W.nsIn K mainGlobals "bool" = some none)
    : ∃ fd : FuncData, (∀ (s : Shared) (v : Value), BindsTo s fd ⟨[v], []⟩ [("script", v)]) ∧ ∀ base : Heap, K.In base → base.Ns mainGlobals mg → FnOk l.prog w K mg base CX0 100 fa fd ["script"] (spLaw K) := by
  have e := hfa.symm.trans (PySem.W.mg_of X G a24)
  cases e
  have T : Txt K mg := {
    d_put := ⟨f0, _, fun_mk (st := s_put) l0 c0 k0, PySem.W.mg_of X G a0⟩
    d_fitted := ⟨f1, _, fun_mk (st := s_fitted) l1 c1 k1, PySem.W.mg_of X G a1⟩
    d_constructor_of := ⟨f2, _, fun_mk (st := s_constructor_of) l2 c2 k2, PySem.W.mg_of X G a2⟩
    d_constructors_of := ⟨f3, _, fun_mk (st := s_constructors_of) l3 c3 k3, PySem.W.mg_of X G a3⟩
    d_index_of := ⟨f4, _, fun_mk (st := s_index_of) l4 c4 k4, PySem.W.mg_of X G a4⟩
    d_size := ⟨f5, _, fun_mk (st := s_size) l5 c5 k5, PySem.W.mg_of X G a5⟩
    d_place_of := ⟨f6, _, fun_mk (st := s_place_of) l6 c6 k6, PySem.W.mg_of X G a6⟩
    d_before := ⟨f7, _, fun_mk (st := s_before) l7 c7 k7, PySem.W.mg_of X G a7⟩
    d_shares := ⟨f8, _, fun_mk (st := s_shares) l8 c8 k8, PySem.W.mg_of X G a8⟩
    d_raw_of := ⟨f9, _, fun_mk (st := s_raw_of) l9 c9 k9, PySem.W.mg_of X G a9⟩
    d_comes_behind := ⟨f10, _, fun_mk (st := s_comes_behind) l10 c10 k10, PySem.W.mg_of X G a10⟩
    d_values_of := ⟨f11, _, fun_mk (st := s_values_of) l11 c11 k11, PySem.W.mg_of X G a11⟩
    d__law_state := ⟨f12, _, fun_mk (st := s__law_state) l12 c12 k12, PySem.W.mg_of X G a12⟩
    d__law_draw := ⟨f13, _, fun_mk (st := s__law_draw) l13 c13 k13, PySem.W.mg_of X G a13⟩
    d__law_pick := ⟨f14, _, fun_mk (st := s__law_pick) l14 c14 k14, PySem.W.mg_of X G a14⟩
    d__law_shape := ⟨f15, _, fun_mk (st := s__law_shape) l15 c15 k15, PySem.W.mg_of X G a15⟩
    d__law_table := ⟨f16, _, fun_mk (st := s__law_table) l16 c16 k16, PySem.W.mg_of X G a16⟩
    d__law_constructors := ⟨f17, _, fun_mk (st := s__law_constructors) l17 c17 k17, PySem.W.mg_of X G a17⟩
    d__law_fit := ⟨f18, _, fun_mk (st := s__law_fit) l18 c18 k18, PySem.W.mg_of X G a18⟩
    d__law_put := ⟨f19, _, fun_mk (st := s__law_put) l19 c19 k19, PySem.W.mg_of X G a19⟩
    d__law_index := ⟨f20, _, fun_mk (st := s__law_index) l20 c20 k20, PySem.W.mg_of X G a20⟩
    d__law_size := ⟨f21, _, fun_mk (st := s__law_size) l21 c21 k21, PySem.W.mg_of X G a21⟩
    d__law_before := ⟨f22, _, fun_mk (st := s__law_before) l22 c22 k22, PySem.W.mg_of X G a22⟩
    d__law_raw := ⟨f23, _, fun_mk (st := s__law_raw) l23 c23 k23, PySem.W.mg_of X G a23⟩
    d_law := ⟨fa, _, fun_mk (st := s_law) l24 c24 k24, PySem.W.mg_of X G a24⟩
    z_isinstance := PySem.W.mg_none_of X G z0
    z_str := PySem.W.mg_none_of X G z1
    z_tuple := PySem.W.mg_none_of X G z2
    z_list := PySem.W.mg_none_of X G z3
    z_zip := PySem.W.mg_none_of X G z4
    z_sum := PySem.W.mg_none_of X G z5
    z_range := PySem.W.mg_none_of X G z6
    z_len := PySem.W.mg_none_of X G z7
    z_int := PySem.W.mg_none_of X G z8
    z_abs := PySem.W.mg_none_of X G z9
    z_bool := PySem.W.mg_none_of X G z10
  }
  refine ⟨PySem.W.fnOf "law" "law" (defArgs s_law) (defBody s_law) (defScope s_law) .none kV24 dc24 pm24 an24 cd24 ct24, fun s v => .of_eq rfl, fun base _ _ => ?_⟩
  obtain ⟨f, fd, F, m, kk, b, at_⟩ := (ok_law (P := l.prog) (w := w) (base := base) T).ex
  rw [PySem.W.mg_of X G a24] at m
  cases m
  exact same_fd (fun_mk (st := s_law) l24 c24 k24) F at_
theorem walk {l : PySem.W.OpenLaw} {q : Program} {loose : List Str} {XP : (Str → Option Value) → Heap → Prop} {YP : World → Heap → Prop} {d : DefRec} {K : Params → PySem.W.Frag} (hn : l.most = some 63) (hdf : d.params.defaults = [])
    (hY : ∀ (w : World) (h : Heap), YP w h → (K w.params).In h)
    (F : ∀ (w : World) (mg : Str → Option Value) (fa : Addr) (h : Heap), (K w.params).In h → h.Ns mainGlobals mg → mg d.name = some (.ref fa) →
      ∃ fd : FuncData, (∀ (s : Shared) (u : Value), BindsTo s fd ⟨[u], []⟩ [("script", u)]) ∧ ∀ base : Heap, (K w.params).In base → base.Ns mainGlobals mg → FnOk l.prog w (K w.params) mg base CX0 100 fa fd ["script"] (spLaw (K w.params))) :
    PySem.W.WalkO q loose XP YP l.row.toRowW d [] (fun f vs => PySem.call f vs) :=
  L2.walk_of (n := 63) (k := 100) (x := "script") (CX := fun _ => CX0) (sp := fun w => spLaw (K w.params)) hn (by decide) hdf ⟨rfl, by decide, by decide⟩ hY F (fun _ _ a ns hl ho hS => lawL_sp hl ho hS) fun _ _ _ _ _ z => z
end Lw
open PySem PySem.W PyProof.Rows
set_option maxRecDepth 100000 in
set_option maxHeartbeats 0 in
theorem PySem.Challenge.cw_exactkinds_k12_order_of_values_holds : PySem.Challenge.rw_exactkinds_k12_order_of_values.Holds := by
  w_on; o_law; k_head; (case hw => w_witness2)
  k_fill
  refine Lw.walk (l := PySem.Challenge.rw_exactkinds_k12_order_of_values) rfl rfl (fun w h Y => PySem.W.kIn_of Y) ?F
  case F =>
    intro w mg fa h KX G hmg
    refine' Lw.all_mk KX G hmg ?a0 ?l0 ?c0 ?k0 ?a1 ?l1 ?c1 ?k1 ?a2 ?l2 ?c2 ?k2 ?a3 ?l3 ?c3 ?k3 ?a4 ?l4 ?c4 ?k4 ?a5 ?l5 ?c5 ?k5 ?a6 ?l6 ?c6 ?k6 ?a7 ?l7 ?c7 ?k7 ?a8 ?l8 ?c8 ?k8 ?a9 ?l9 ?c9 ?k9 ?a10 ?l10 ?c10 ?k10 ?a11 ?l11 ?c11 ?k11 ?a12 ?l12 ?c12 ?k12 ?a13 ?l13 ?c13 ?k13 ?a14 ?l14 ?c14 ?k14 ?a15 ?l15 ?c15 ?k15 ?a16 ?l16 ?c16 ?k16 ?a17 ?l17 ?c17 ?k17 ?a18 ?l18 ?c18 ?k18 ?a19 ?l19 ?c19 ?k19 ?a20 ?l20 ?c20 ?k20 ?a21 ?l21 ?c21 ?k21 ?a22 ?l22 ?c22 ?k22 ?a23 ?l23 ?c23 ?k23 ?a24 ?l24 ?c24 ?k24 ?z0 ?z1 ?z2 ?z3 ?z4 ?z5 ?z6 ?z7 ?z8 ?z9 ?z10
    (case a0 => k_is)
    (case l0 => k_is)
    (case c0 => k_is)
    (case k0 => k_is)
    (case a1 => k_is)
    (case l1 => k_is)
    (case c1 => k_is)
    (case k1 => k_is)
    (case a2 => k_is)
    (case l2 => k_is)
    (case c2 => k_is)
    (case k2 => k_is)
    (case a3 => k_is)
    (case l3 => k_is)
    (case c3 => k_is)
    (case k3 => k_is)
    (case a4 => k_is)
    (case l4 => k_is)
    (case c4 => k_is)
    (case k4 => k_is)
    (case a5 => k_is)
    (case l5 => k_is)
    (case c5 => k_is)
    (case k5 => k_is)
    (case a6 => k_is)
    (case l6 => k_is)
    (case c6 => k_is)
    (case k6 => k_is)
    (case a7 => k_is)
    (case l7 => k_is)
    (case c7 => k_is)
    (case k7 => k_is)
    (case a8 => k_is)
    (case l8 => k_is)
    (case c8 => k_is)
    (case k8 => k_is)
    (case a9 => k_is)
    (case l9 => k_is)
    (case c9 => k_is)
    (case k9 => k_is)
    (case a10 => k_is)
    (case l10 => k_is)
    (case c10 => k_is)
    (case k10 => k_is)
    (case a11 => k_is)
    (case l11 => k_is)
    (case c11 => k_is)
    (case k11 => k_is)
    (case a12 => k_is)
    (case l12 => k_is)
    (case c12 => k_is)
    (case k12 => k_is)
    (case a13 => k_is)
    (case l13 => k_is)
    (case c13 => k_is)
    (case k13 => k_is)
    (case a14 => k_is)
    (case l14 => k_is)
    (case c14 => k_is)
    (case k14 => k_is)
    (case a15 => k_is)
    (case l15 => k_is)
    (case c15 => k_is)
    (case k15 => k_is)
    (case a16 => k_is)
    (case l16 => k_is)
    (case c16 => k_is)
    (case k16 => k_is)
    (case a17 => k_is)
    (case l17 => k_is)
    (case c17 => k_is)
    (case k17 => k_is)
    (case a18 => k_is)
    (case l18 => k_is)
    (case c18 => k_is)
    (case k18 => k_is)
    (case a19 => k_is)
    (case l19 => k_is)
    (case c19 => k_is)
    (case k19 => k_is)
    (case a20 => k_is)
    (case l20 => k_is)
    (case c20 => k_is)
    (case k20 => k_is)
    (case a21 => k_is)
    (case l21 => k_is)
    (case c21 => k_is)
    (case k21 => k_is)
    (case a22 => k_is)
    (case l22 => k_is)
    (case c22 => k_is)
    (case k22 => k_is)
    (case a23 => k_is)
    (case l23 => k_is)
    (case c23 => k_is)
    (case k23 => k_is)
    (case a24 => k_is)
    (case l24 => k_is)
    (case c24 => k_is)
    (case k24 => k_is)
    (case z0 => k_is)
    (case z1 => k_is)
    (case z2 => k_is)
    (case z3 => k_is)
    (case z4 => k_is)
    (case z5 => k_is)
    (case z6 => k_is)
    (case z7 => k_is)
    (case z8 => k_is)
    (case z9 => k_is)
    (case z10 => k_is)
