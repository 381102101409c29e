import PyProof.Rows.All
import Wide.All
import OpenK.AllK
import Wide.FinOn
import HandS.ForMost
import HandS.Flow
import HandS.IsInst
import HandS.Deep
import HandS.Wide
import HandS.TupAny
import HandS.Zip
import HandS.WordsDict
import PyProof.P3In
import KE.KDictZip
import KE.KDictItemsList
import KE.KTurns
import HandS.SortInts
import HandS.More
import KE.KEqDict
import PyProof.P3Eq
import PyProof.FString5
import HandS.DictComp
import KE.SortData
import KE.DataCmp
import PyProof.Rows.SortWalk
import HandS.Style
import HandS.Set
import HandS.SetTxt0
import HandS.SetBool
import PyProof.Rows.SortStr
import PyProof.Rows.SortShellAny
import HandS.SetFor
import HandS.Strs
import PyProof.EnumMake
import PyProof.Draws
import HandS.Iter
import HandS.Zip0
import PySem.Challenge.RW_exactkinds_k30_groups_and_clauses
set_option Elab.async false
set_option linter.all false
set_option autoImplicit false
set_option maxRecDepth 100000
namespace Px
open PySem L2

inductive PV where
  | non | bl (b : Bool) | int (i : Int) | str (s : Str) | tup (xs : List PV) | lst (xs : List PV) | dic (ks : List Key) (vs : List PV) | scr (ns : List Int) | ty (n : String) | nst (t : Bool) (c : Nat) (s : Int)

def sOk (s : Str) : Bool := PyData.strOk s
def keyOk : Key → Bool
  | .inl _ => true
  | .inr s => sOk s

/-- a list of the written part -/
def KLst (K : PySem.W.Frag) (a : Addr) (xs : List V) : Prop := ∃ (o : Obj) (its : Array Value) (n : Nat), K.lookup a = some o ∧ o.cls = .type "list" ∧ o.dict = none ∧ o.data = .seq its n ∧ its.size ≤ sizeLine ∧ Vals xs its.toList
mutual
def Is (K : PySem.W.Frag) (H : Hp) (W : Addr → Prop) : PV → V → Prop
  | .non, v => v = .non
  | .bl b, v => v = .bl b
  | .int i, v => v = .int i
  | .ty n, v => v = .ty n
  | .str s, v => v = .str s ∧ sOk s = true
  | .tup ps, v => ∃ a vs, v = .ref a ∧ H a = some (.tup vs) ∧ Iss K H W ps vs
  | .lst ps, v => ∃ a vs, v = .ref a ∧ ¬ W a ∧ H a = some (.lst vs) ∧ Iss K H W ps vs
  | .dic ks ps, v => ∃ a vs, v = .ref a ∧ ¬ W a ∧ Rd H a (.dK (ks.zip vs)) ∧ ks.length = vs.length ∧ ks.all keyOk = true ∧ Iss K H W ps vs
  | .nst _ c s, v => ∃ a, v = .ref a ∧ ¬ W a ∧ H a = some (.lst [.ref c, .int s])
  | .scr ns, v => ∃ a, v = .ref a ∧ ((∃ o, H a = some (.frz o (.lst (ns.map V.int)))) ∨ KLst K a (ns.map V.int))
def Iss (K : PySem.W.Frag) (H : Hp) (W : Addr → Prop) : List PV → List V → Prop
  | [], vs => vs = []
  | p :: ps, vs => ∃ v r, vs = v :: r ∧ Is K H W p v ∧ Iss K H W ps r
end

/-- what may be written -/
abbrev MutT (H : Hp) (W : Addr → Prop) : Prop := ∀ b, W b → Mut (H b)
theorem mut_tup {H : Hp} {b : Addr} {xs : List V} {o : Obj} : (H b = some (.tup xs) → ¬ Mut (H b)) ∧ (∀ u, H b = some (.frz o u) → ¬ Mut (H b)) :=
  ⟨fun e m => by rw [e] at m; exact m, fun u e m => by rw [e] at m; exact m⟩
theorem rd_keep {H H' : Hp} {W : Addr → Prop} {a : Addr} {u : HO} (k : ∀ b o, H b = some o → ¬ W b → H' b = some o) (n : ¬ W a) (r : Rd H a u) : Rd H' a u := by
  rcases r with r | ⟨o, r⟩
  · exact .inl (k a _ r n)
  · exact .inr ⟨o, k a _ r n⟩
theorem rd_tup {H H' : Hp} {W : Addr → Prop} {a : Addr} {xs : List V} (k : ∀ b o, H b = some o → ¬ W b → H' b = some o) (m : MutT H W) (r : Rd H a (.tup xs)) : Rd H' a (.tup xs) := by
  refine rd_keep k (fun z => ?_) r
  have q := m a z
  rcases r with r | ⟨o, r⟩
  · rw [r] at q; exact q
  · rw [r] at q; exact q
mutual
/-- moved to another heap, another set of what may be written -/
theorem Is.move {K : PySem.W.Frag} {H H' : Hp} {W W' : Addr → Prop} (k : ∀ b o, H b = some o → ¬ W b → H' b = some o) (m : MutT H W) (s : ∀ b, (∃ o, H b = some o) → W' b → W b) : ∀ (p : PV) (v : V), Is K H W p v → Is K H' W' p v
  | .non, _, h => h
  | .bl _, _, h => h
  | .int _, _, h => h
  | .ty _, _, h => h
  | .str _, _, h => h
  | .tup ps, v, h => by
    obtain ⟨a, vs, e, r, q⟩ := h
    exact ⟨a, vs, e, k a _ r fun z => by { have q := m a z; rw [r] at q; exact q }, Iss.move k m s ps vs q⟩
  | .lst ps, v, h => by
    obtain ⟨a, vs, e, n, r, q⟩ := h
    exact ⟨a, vs, e, fun z => n (s a ⟨_, r⟩ z), k a _ r n, Iss.move k m s ps vs q⟩
  | .dic ks ps, v, h => by
    obtain ⟨a, vs, e, n, r, l, kk, q⟩ := h
    have t : ∃ o, H a = some o := by rcases r with r | ⟨o, r⟩ <;> exact ⟨_, r⟩
    exact ⟨a, vs, e, fun z => n (s a t z), rd_keep k n r, l, kk, Iss.move k m s ps vs q⟩
  | .nst _ c i, v, h => by
    obtain ⟨a, e, n, r⟩ := h
    exact ⟨a, e, fun z => n (s a ⟨_, r⟩ z), k a _ r n⟩
  | .scr ns, v, h => by
    obtain ⟨a, e, q⟩ := h
    rcases q with ⟨o, q⟩ | q
    · exact ⟨a, e, .inl ⟨o, k a _ q fun w => by have z := m a w; rw [q] at z; exact z⟩⟩
    · exact ⟨a, e, .inr q⟩
theorem Iss.move {K : PySem.W.Frag} {H H' : Hp} {W W' : Addr → Prop} (k : ∀ b o, H b = some o → ¬ W b → H' b = some o) (m : MutT H W) (s : ∀ b, (∃ o, H b = some o) → W' b → W b) : ∀ (ps : List PV) (vs : List V), Iss K H W ps vs → Iss K H' W' ps vs
  | [], _, h => h
  | p :: ps, vs, h => by
    obtain ⟨v, r, e, h1, h2⟩ := h
    exact ⟨v, r, e, Is.move k m s p v h1, Iss.move k m s ps r h2⟩
end
mutual
/-- fewer may be written -/
theorem Is.anti {K : PySem.W.Frag} {H : Hp} {W W' : Addr → Prop} (s : ∀ b, W' b → W b) : ∀ (p : PV) (v : V), Is K H W p v → Is K H W' p v
  | .non, _, h => h
  | .bl _, _, h => h
  | .int _, _, h => h
  | .ty _, _, h => h
  | .str _, _, h => h
  | .tup ps, v, h => by
    obtain ⟨a, vs, e, r, q⟩ := h
    exact ⟨a, vs, e, r, Iss.anti s ps vs q⟩
  | .lst ps, v, h => by
    obtain ⟨a, vs, e, n, r, q⟩ := h
    exact ⟨a, vs, e, fun z => n (s a z), r, Iss.anti s ps vs q⟩
  | .dic ks ps, v, h => by
    obtain ⟨a, vs, e, n, r, l, kk, q⟩ := h
    exact ⟨a, vs, e, fun z => n (s a z), r, l, kk, Iss.anti s ps vs q⟩
  | .nst _ c i, v, h => by
    obtain ⟨a, e, n, r⟩ := h
    exact ⟨a, e, fun z => n (s a z), r⟩
  | .scr ns, v, h => h
theorem Iss.anti {K : PySem.W.Frag} {H : Hp} {W W' : Addr → Prop} (s : ∀ b, W' b → W b) : ∀ (ps : List PV) (vs : List V), Iss K H W ps vs → Iss K H W' ps vs
  | [], _, h => h
  | p :: ps, vs, h => by
    obtain ⟨v, r, e, h1, h2⟩ := h
    exact ⟨v, r, e, Is.anti s p v h1, Iss.anti s ps r h2⟩
end
mutual
/-- a value without lists and dicts -/
def imm : PV → Bool
  | .lst _ => false
  | .dic _ _ => false
  | .scr _ => true
  | .nst _ _ _ => false
  | .tup ps => imms ps
  | .non => true | .bl _ => true | .int _ => true | .str _ => true | .ty _ => true
def imms : List PV → Bool
  | [] => true
  | p :: ps => imm p && imms ps
end
mutual
theorem Is.imm {K : PySem.W.Frag} {H : Hp} {W W' : Addr → Prop} : ∀ (p : PV) (v : V), imm p = true → Is K H W p v → Is K H W' p v
  | .non, _, _, h => h
  | .bl _, _, _, h => h
  | .int _, _, _, h => h
  | .ty _, _, _, h => h
  | .str _, _, _, h => h
  | .tup ps, v, i, h => by
    obtain ⟨a, vs, e, r, q⟩ := h
    exact ⟨a, vs, e, r, Iss.imm ps vs (by rw [imm] at i; exact i) q⟩
  | .lst ps, v, i, h => by simp [Px.imm] at i
  | .dic ks ps, v, i, h => by simp [Px.imm] at i
  | .nst _ _ _, v, i, h => by simp [Px.imm] at i
  | .scr _, _, _, h => h
theorem Iss.imm {K : PySem.W.Frag} {H : Hp} {W W' : Addr → Prop} : ∀ (ps : List PV) (vs : List V), imms ps = true → Iss K H W ps vs → Iss K H W' ps vs
  | [], _, _, h => h
  | p :: ps, vs, i, h => by
    obtain ⟨v, r, e, h1, h2⟩ := h
    rw [imms, Bool.and_eq_true] at i
    exact ⟨v, r, e, Is.imm p v i.1 h1, Iss.imm ps r i.2 h2⟩
end
theorem Iss.length {K : PySem.W.Frag} {H : Hp} {W : Addr → Prop} : ∀ {ps : List PV} {vs : List V}, Iss K H W ps vs → ps.length = vs.length
  | [], _, h => by cases (show _ = [] from h); rfl
  | p :: ps, vs, h => by
    obtain ⟨v, r, e, h1, h2⟩ := h
    subst e
    simp [Iss.length h2]
theorem Iss.get {K : PySem.W.Frag} {H : Hp} {W : Addr → Prop} : ∀ {ps : List PV} {vs : List V}, Iss K H W ps vs → ∀ {i : Nat} {v : V}, vs[i]? = some v → ∃ p, ps[i]? = some p ∧ Is K H W p v
  | [], _, h, i, v, e => by cases (show _ = [] from h); simp at e
  | p :: ps, vs, h, i, v, e => by
    obtain ⟨w, r, e1, h1, h2⟩ := h
    subst e1
    cases i with
    | zero => simp at e; subst e; exact ⟨p, rfl, h1⟩
    | succ i =>
      obtain ⟨q, e2, h3⟩ := Iss.get h2 (i := i) (v := v) (by simpa using e)
      exact ⟨q, by simpa using e2, h3⟩
theorem Iss.getP {K : PySem.W.Frag} {H : Hp} {W : Addr → Prop} : ∀ {ps : List PV} {vs : List V}, Iss K H W ps vs → ∀ {i : Nat} {p : PV}, ps[i]? = some p → ∃ v, vs[i]? = some v ∧ Is K H W p v
  | [], _, h, i, v, e => by simp at e
  | p :: ps, vs, h, i, q, e => by
    obtain ⟨w, r, e1, h1, h2⟩ := h
    subst e1
    cases i with
    | zero => simp at e; subst e; exact ⟨w, rfl, h1⟩
    | succ i =>
      obtain ⟨q, e2, h3⟩ := Iss.getP h2 (i := i) (p := q) (by simpa using e)
      exact ⟨q, by simpa using e2, h3⟩
theorem Iss.append {K : PySem.W.Frag} {H : Hp} {W : Addr → Prop} : ∀ {ps qs : List PV} {vs us : List V}, Iss K H W ps vs → Iss K H W qs us → Iss K H W (ps ++ qs) (vs ++ us)
  | [], _, _, _, h, g => by cases (show _ = [] from h); exact g
  | p :: ps, qs, vs, us, h, g => by
    obtain ⟨w, r, e1, h1, h2⟩ := h
    subst e1
    exact ⟨w, r ++ us, rfl, h1, Iss.append h2 g⟩
theorem Iss.drop {K : PySem.W.Frag} {H : Hp} {W : Addr → Prop} : ∀ {ps : List PV} {vs : List V} (n : Nat), Iss K H W ps vs → Iss K H W (ps.drop n) (vs.drop n)
  | _, _, 0, h => h
  | [], _, n + 1, h => by cases (show _ = [] from h); exact rfl
  | p :: ps, vs, n + 1, h => by
    obtain ⟨w, r, e1, h1, h2⟩ := h
    subst e1
    exact Iss.drop n h2
theorem Iss.take {K : PySem.W.Frag} {H : Hp} {W : Addr → Prop} : ∀ {ps : List PV} {vs : List V} (n : Nat), Iss K H W ps vs → Iss K H W (ps.take n) (vs.take n)
  | _, _, 0, h => by simp [Iss]
  | [], _, n + 1, h => by cases (show _ = [] from h); exact rfl
  | p :: ps, vs, n + 1, h => by
    obtain ⟨w, r, e1, h1, h2⟩ := h
    subst e1
    exact ⟨w, r.take n, rfl, h1, Iss.take n h2⟩
theorem Iss.set {K : PySem.W.Frag} {H : Hp} {W : Addr → Prop} {p : PV} {v : V} (h0 : Is K H W p v) : ∀ {ps : List PV} {vs : List V} (n : Nat), Iss K H W ps vs → Iss K H W (ps.set n p) (vs.set n v)
  | [], _, n, h => by cases (show _ = [] from h); cases n <;> exact rfl
  | q :: ps, vs, 0, h => by
    obtain ⟨w, r, e1, h1, h2⟩ := h
    subst e1
    exact ⟨v, r, rfl, h0, h2⟩
  | q :: ps, vs, n + 1, h => by
    obtain ⟨w, r, e1, h1, h2⟩ := h
    subst e1
    exact ⟨w, r.set n v, rfl, h1, Iss.set h0 n h2⟩


theorem Iss.nil {K : PySem.W.Frag} {H : Hp} {W : Addr → Prop} : Iss K H W [] [] := rfl
theorem Iss.cons {K : PySem.W.Frag} {H : Hp} {W : Addr → Prop} {p : PV} {v : V} {ps : List PV} {vs : List V} (h : Is K H W p v) (r : Iss K H W ps vs) : Iss K H W (p :: ps) (v :: vs) := ⟨v, vs, rfl, h, r⟩
theorem Iss.ints {K : PySem.W.Frag} {H : Hp} {W : Addr → Prop} : ∀ ns : List Int, Iss K H W (ns.map PV.int) (ns.map V.int)
  | [] => rfl
  | n :: ns => ⟨_, _, rfl, rfl, Iss.ints ns⟩

/-! ### the frame: slots with values, slots that own an object (true: a parameter that the caller owns) -/
inductive Sl where
  | un | val (p : PV) | own (io : Bool) (p : PV)
abbrev En := List Sl
abbrev Pds := List (PV × V)
structure Gd where
  keep : Hp
  ex : Addr → Prop
  io : Nat → Addr → Prop
  vo : Addr → Prop
def Gd.add (G : Gd) (a : Addr) (o : HO) : Gd := ⟨upd G.keep a o, fun b => b = a ∨ G.ex b, G.io, G.vo⟩
/-- a list of numbers that may change at any call -/
def IntsAt (H : Hp) (b : Addr) : Prop := ∃ ns : List Int, H b = some (.lst (ns.map V.int)) ∧ ∀ n ∈ ns, 0 ≤ n
def isNst : PV → Bool
  | .nst _ _ _ => true
  | _ => false
def WS (G : Gd) (σ : L2.St) (ρ : En) (a : Addr) : Prop := G.ex a ∨ ∃ (i : Nat) (b : Bool) (p : PV), ρ[i]? = some (Sl.own b p) ∧ σ[i]? = some (some (V.ref a))
def OwnO (K : PySem.W.Frag) (H : Hp) (W : Addr → Prop) : PV → HO → Prop
  | .lst ps, .lst vs => Iss K H W ps vs
  | .nst _ c s, .lst vs => vs = [.ref c, .int s]
  | .dic ks ps, .dK kvs => ∃ vs, kvs = ks.zip vs ∧ ks.length = vs.length ∧ ks.all keyOk = true ∧ Iss K H W ps vs
  | _, _ => False
def Own (K : PySem.W.Frag) (H : Hp) (W : Addr → Prop) (p : PV) (a : Addr) : Prop := ∃ o, H a = some o ∧ OwnO K H W p o
theorem OwnO.mut {K : PySem.W.Frag} {H : Hp} {W : Addr → Prop} {p : PV} {o : HO} (h : OwnO K H W p o) : Mut (some o) := by
  cases p <;> cases o <;> first | exact h.elim | trivial
theorem OwnO.move {K : PySem.W.Frag} {H H' : Hp} {W W' : Addr → Prop} (k : ∀ b o, H b = some o → ¬ W b → H' b = some o) (m : MutT H W) (s : ∀ b, (∃ o, H b = some o) → W' b → W b) {p : PV} {o : HO} (h : OwnO K H W p o) : OwnO K H' W' p o := by
  cases p <;> cases o <;> first
    | exact h.elim
    | exact Iss.move k m s _ _ h
    | (obtain ⟨vs, e, l, kk, q⟩ := h; exact ⟨vs, e, l, kk, Iss.move k m s _ _ q⟩)
    | exact h
theorem OwnO.anti {K : PySem.W.Frag} {H : Hp} {W W' : Addr → Prop} (s : ∀ b, W' b → W b) {p : PV} {o : HO} (h : OwnO K H W p o) : OwnO K H W' p o := by
  cases p <;> cases o <;> first
    | exact h.elim
    | exact Iss.anti s _ _ h
    | (obtain ⟨vs, e, l, kk, q⟩ := h; exact ⟨vs, e, l, kk, Iss.anti s _ _ q⟩)
    | exact h
theorem OwnO.is {K : PySem.W.Frag} {H : Hp} {W W' : Addr → Prop} {p : PV} {o : HO} {a : Addr} (h : OwnO K H W p o) (e : H a = some o) (s : ∀ b, W' b → W b) (n : ¬ W' a) : Is K H W' p (.ref a) := by
  cases p <;> cases o <;> first
    | exact h.elim
    | exact ⟨a, _, rfl, n, e, Iss.anti s _ _ h⟩
    | (obtain ⟨vs, e1, l, kk, q⟩ := h; subst e1; exact ⟨a, vs, rfl, n, .inl e, l, kk, Iss.anti s _ _ q⟩)
    | (have h' : _ = _ := h; subst h'; exact ⟨a, rfl, n, e⟩)

/-- what may change at any call -/
structure RX (G : Gd) (H : Hp) (σ : L2.St) (ρ : En) : Prop where
  vo : ∀ b, G.vo b → G.ex b ∧ G.keep b = none ∧ IntsAt H b
  off : ∀ (i : Nat) (b : Bool) (p : PV) (a : Addr), ρ[i]? = some (Sl.own b p) → σ[i]? = some (some (V.ref a)) → ¬ G.vo a
  nst : ∀ (i : Nat) (b : Bool) (c : Nat) (s : Int), ρ[i]? = some (Sl.own b (.nst false c s)) → G.vo c
structure RE (K : PySem.W.Frag) (G : Gd) (H : Hp) (σ : L2.St) (ρ : En) (pd : Pds) : Prop where
  len : ρ.length = σ.length
  val : ∀ (i : Nat) (p : PV), ρ[i]? = some (Sl.val p) → ∃ v, σ[i]? = some (some v) ∧ Is K H (WS G σ ρ) p v
  own : ∀ (i : Nat) (b : Bool) (p : PV), ρ[i]? = some (Sl.own b p) → ∃ a, σ[i]? = some (some (V.ref a)) ∧ G.keep a = none ∧ Own K H (WS G σ ρ) p a
  inj : ∀ (i j : Nat) (b c : Bool) (p q : PV) (a : Addr), ρ[i]? = some (Sl.own b p) → ρ[j]? = some (Sl.own c q) → σ[i]? = some (some (V.ref a)) → σ[j]? = some (some (V.ref a)) → i = j
  io : ∀ (i : Nat) (a : Addr), G.io i a → σ[i]? = some (some (V.ref a)) ∧ ∃ p, ρ[i]? = some (Sl.own true p)
  keep : ∀ b o, G.keep b = some o → H b = some o
  exk : ∀ b, G.ex b → ¬ G.vo b → ∃ o, G.keep b = some o ∧ Mut (some o)
  pd : ∀ x ∈ pd, Is K H (WS G σ ρ) x.1 x.2
  ext : RX G H σ ρ

abbrev exkOk (G : Gd) : Prop := ∀ b, G.ex b → ¬ G.vo b → ∃ o, G.keep b = some o ∧ Mut (some o)
section
variable {K : PySem.W.Frag} {G : Gd} {H H' : Hp} {σ σ' : L2.St} {ρ ρ' : En} {pd pd' : Pds}
theorem RX.same (R : RX G H σ ρ) (s : Same H H') : RX G H' σ ρ := ⟨fun b h => by
  obtain ⟨h1, h2, ns, e, h3⟩ := R.vo b h
  exact ⟨h1, h2, ns, s b _ e, h3⟩, R.off, R.nst⟩
/-- the slots that own are some of those that did -/
theorem RX.slots (R : RX G H σ ρ) (h : ∀ (i : Nat) (b : Bool) (p : PV), ρ'[i]? = some (Sl.own b p) → ρ[i]? = some (Sl.own b p) ∧ σ'[i]? = σ[i]?) : RX G H σ' ρ' :=
  ⟨R.vo, fun i b p a e1 e2 => by
    obtain ⟨f1, f2⟩ := h i b p e1
    exact R.off i b p a f1 (by rw [← f2]; exact e2), fun i b c s e1 => R.nst i b c s (h i b _ e1).1⟩
theorem RX.add {a : Addr} {o : HO} (R : RX G H σ ρ) (n : H a = none) (s : Same H H') : RX (G.add a o) H' σ ρ := ⟨fun b h => by
  obtain ⟨h1, h2, ns, e, h3⟩ := R.vo b h
  have ne : b ≠ a := fun z => by rw [z, n] at e; cases e
  exact ⟨.inr h1, by show upd G.keep a o b = none; rw [upd_ne ne]; exact h2, ns, s b _ e, h3⟩, R.off, R.nst⟩
theorem RX.notA {a : Addr} {o : HO} (R : RX (G.add a o) H σ ρ) : ¬ G.vo a := fun h => by
  obtain ⟨_, h2, _⟩ := R.vo a h
  have h2' : upd G.keep a o a = none := h2
  rw [upd_same] at h2'; cases h2'
theorem RX.unadd {a : Addr} {o : HO} (R : RX (G.add a o) H σ ρ) : RX G H σ ρ := ⟨fun b h => by
  obtain ⟨h1, h2, ns, e, h3⟩ := R.vo b h
  have ne : b ≠ a := fun z => R.notA (by rw [← z]; exact h)
  have h2' : upd G.keep a o b = none := h2
  rw [upd_ne ne] at h2'
  exact ⟨h1.resolve_left ne, h2', ns, e, h3⟩, R.off, R.nst⟩
theorem RE.mut (R : RE K G H σ ρ pd) : MutT H (WS G σ ρ) := fun b w => by
  rcases w with w | ⟨i, c, p, e1, e2⟩
  · by_cases hv : G.vo b
    · obtain ⟨_, _, ns, e, _⟩ := R.ext.vo b hv
      rw [e]; trivial
    · obtain ⟨o, e, m⟩ := R.exk b w hv
      rw [R.keep b o e]; exact m
  · obtain ⟨a, e3, _, o, e4, q⟩ := R.own i c p e1
    rw [e2] at e3; cases e3
    rw [e4]; exact q.mut
theorem RE.there (R : RE K G H σ ρ pd) {b : Addr} (w : WS G σ ρ b) : ∃ o, H b = some o := by
  have m := R.mut b w
  cases e : H b with
  | none => rw [e] at m; exact m.elim
  | some o => exact ⟨o, rfl⟩
theorem RE.pds (R : RE K G H σ ρ pd) (s : ∀ x ∈ pd', x ∈ pd) : RE K G H σ ρ pd' := ⟨R.len, R.val, R.own, R.inj, R.io, R.keep, R.exk, fun x hx => R.pd x (s x hx), R.ext⟩
theorem RE.tl {x : PV × V} (R : RE K G H σ ρ (x :: pd)) : RE K G H σ ρ pd := R.pds fun y hy => List.mem_cons_of_mem _ hy
theorem RE.push {p : PV} {v : V} (R : RE K G H σ ρ pd) (h : Is K H (WS G σ ρ) p v) : RE K G H σ ρ ((p, v) :: pd) := ⟨R.len, R.val, R.own, R.inj, R.io, R.keep, R.exk, fun x hx => by
  rcases List.mem_cons.mp hx with e | hx
  · rw [e]; exact h
  · exact R.pd x hx, R.ext⟩
theorem RE.pushs (R : RE K G H σ ρ pd) (h : ∀ x ∈ pd', Is K H (WS G σ ρ) x.1 x.2) : RE K G H σ ρ (pd' ++ pd) := ⟨R.len, R.val, R.own, R.inj, R.io, R.keep, R.exk, fun x hx => by
  rcases List.mem_append.mp hx with e | hx
  · exact h x e
  · exact R.pd x hx, R.ext⟩
/-- everything that is tracked stays -/
theorem RE.same (R : RE K G H σ ρ pd) (s : Same H H') : RE K G H' σ ρ pd := by
  have mv : ∀ p v, Is K H (WS G σ ρ) p v → Is K H' (WS G σ ρ) p v := fun p v h => Is.move (fun b o e _ => s b o e) R.mut (fun _ _ w => w) p v h
  refine ⟨R.len, fun i p e => ?_, fun i c p e => ?_, R.inj, R.io, fun b o e => s b o (R.keep b o e), R.exk, fun x hx => mv _ _ (R.pd x hx), R.ext.same s⟩
  · obtain ⟨v, e1, h⟩ := R.val i p e
    exact ⟨v, e1, mv p v h⟩
  · obtain ⟨a, e1, n, o, e2, h⟩ := R.own i c p e
    exact ⟨a, e1, n, o, s a o e2, h.move (fun b o e _ => s b o e) R.mut fun _ _ w => w⟩
/-- a new object, private -/
theorem RE.add {a : Addr} {o : HO} (R : RE K G H σ ρ pd) (n : H a = none) (s : Same H H') (e : H' a = some o) (m : Mut (some o)) : RE K (G.add a o) H' σ ρ pd := by
  have sub : ∀ b, (∃ o, H b = some o) → WS (G.add a o) σ ρ b → WS G σ ρ b := fun b t w => by
    rcases w with (w | w) | w
    · obtain ⟨u, t⟩ := t; rw [w, n] at t; cases t
    · exact .inl w
    · exact .inr w
  have mv : ∀ p v, Is K H (WS G σ ρ) p v → Is K H' (WS (G.add a o) σ ρ) p v := fun p v h => Is.move (fun b o e _ => s b o e) R.mut sub p v h
  have kn : G.keep a = none := by
    cases q : G.keep a with
    | none => rfl
    | some u => rw [R.keep a u q] at n; cases n
  refine ⟨R.len, fun i p e => ?_, fun i d p e1 => ?_, R.inj, R.io, fun b u e1 => ?_, fun b w hv => ?_, fun x hx => mv _ _ (R.pd x hx), R.ext.add n s⟩
  · obtain ⟨v, e1, h⟩ := R.val i p e
    exact ⟨v, e1, mv p v h⟩
  · obtain ⟨c, e2, k, u, e3, h⟩ := R.own i d p e1
    have ne : c ≠ a := fun z => by rw [z, n] at e3; cases e3
    exact ⟨c, e2, by show upd G.keep a o c = none; rw [upd_ne ne]; exact k, u, s c u e3, h.move (fun b o e _ => s b o e) R.mut sub⟩
  · by_cases q : b = a
    · rw [q] at e1
      have e2 : upd G.keep a o a = some u := e1
      rw [upd_same] at e2; cases e2
      rw [q]; exact e
    · have e2 : upd G.keep a o b = some u := e1
      rw [upd_ne q] at e2
      exact s b u (R.keep b u e2)
  · rcases w with w | w
    · rw [w]; exact ⟨o, upd_same, m⟩
    · obtain ⟨u, e1, m1⟩ := R.exk b w hv
      have ne : b ≠ a := fun z => by rw [z, kn] at e1; cases e1
      exact ⟨u, by show upd G.keep a o b = some u; rw [upd_ne ne]; exact e1, m1⟩
/-- the private one forgotten -/
theorem RE.unadd {a : Addr} {o : HO} (R : RE K (G.add a o) H σ ρ pd) (n : G.keep a = none) (kx : exkOk G) : RE K G H σ ρ pd ∧ ¬ WS G σ ρ a ∧ H a = some o := by
  have sub : ∀ b, WS G σ ρ b → WS (G.add a o) σ ρ b := fun b w => w.elim (fun w => .inl (.inr w)) .inr
  have Ha : H a = some o := R.keep a o upd_same
  refine ⟨⟨R.len, fun i p e => ?_, fun i b p e => ?_, R.inj, R.io, fun b u e => ?_, kx, fun x hx => Is.anti sub _ _ (R.pd x hx), R.ext.unadd⟩, ?_, Ha⟩
  · obtain ⟨v, e1, h⟩ := R.val i p e
    exact ⟨v, e1, Is.anti sub p v h⟩
  · obtain ⟨c, e1, k, u, e2, h⟩ := R.own i b p e
    refine ⟨c, e1, ?_, u, e2, h.anti sub⟩
    have k' : upd G.keep a o c = none := k
    by_cases z : c = a
    · rw [z, upd_same] at k'; cases k'
    · rw [upd_ne z] at k'; exact k'
  · refine R.keep b u ?_
    have ne : b ≠ a := fun z => by rw [z, n] at e; cases e
    show upd G.keep a o b = some u
    rw [upd_ne ne]; exact e
  · rintro (w | ⟨i, b, p, e1, e2⟩)
    · obtain ⟨u, e, _⟩ := kx a w R.ext.notA
      rw [n] at e; cases e
    · obtain ⟨c, e3, k, _⟩ := R.own i b p e1
      rw [e2] at e3; cases e3
      have k' : upd G.keep a o a = none := k
      rw [upd_same] at k'; cases k'

def notIo (ρ : En) (i : Nat) : Bool := match ρ[i]? with
  | some (Sl.own true _) => false
  | _ => true
theorem ix_set {α : Type} {l : List α} {i j : Nat} {x y : α} (h : (l.set i x)[j]? = some y) : (i = j ∧ y = x ∧ i < l.length) ∨ (i ≠ j ∧ l[j]? = some y) := by
  by_cases e : i = j
  · subst e
    rw [List.getElem?_set] at h
    by_cases l' : i < l.length
    · simp [l'] at h; exact .inl ⟨rfl, h.symm, l'⟩
    · simp [l'] at h
  · rw [List.getElem?_set_ne e] at h; exact .inr ⟨e, h⟩
theorem ix_ne {α : Type} {l : List α} {i j : Nat} {x : α} (e : i ≠ j) : (l.set i x)[j]? = l[j]? := List.getElem?_set_ne e
theorem RE.io_ne (R : RE K G H σ ρ pd) {i : Nat} (n : notIo ρ i = true) : ∀ j a, G.io j a → i ≠ j := fun x a hx z => by
  obtain ⟨_, p, e⟩ := R.io x a hx
  unfold notIo at n
  rw [z, e] at n; simp at n
/-- a slot gets a value -/
theorem RE.set {i : Nat} {p : PV} {v : V} (R : RE K G H σ ρ ((p, v) :: pd)) (n : notIo ρ i = true) : RE K G H (σ.set i (some v)) (ρ.set i (Sl.val p)) pd := by
  have sub : ∀ b, WS G (σ.set i (some v)) (ρ.set i (Sl.val p)) b → WS G σ ρ b := fun b w => by
    rcases w with w | ⟨j, c, q, e1, e2⟩
    · exact .inl w
    · rcases ix_set e1 with ⟨_, z, _⟩ | ⟨ne, e1⟩
      · cases z
      · rw [ix_ne ne] at e2; exact .inr ⟨j, c, q, e1, e2⟩
  refine ⟨by simp [R.len], fun j q e => ?_, fun j c q e => ?_, fun j k b c q r a e1 e2 e3 e4 => ?_, fun x ax hx => ?_, R.keep, R.exk, fun x hx => Is.anti sub _ _ (R.pd x (List.mem_cons_of_mem _ hx)), R.ext.slots fun j b q e => ?_⟩
  · rcases ix_set e with ⟨rfl, z, l⟩ | ⟨ne, e⟩
    · cases z
      refine ⟨v, ?_, Is.anti sub _ _ (R.pd (p, v) List.mem_cons_self)⟩
      rw [List.getElem?_set_self (by rw [← R.len]; exact l)]
    · obtain ⟨w, e1, h⟩ := R.val j q e
      exact ⟨w, by rw [ix_ne ne]; exact e1, Is.anti sub _ _ h⟩
  · rcases ix_set e with ⟨_, z, _⟩ | ⟨ne, e⟩
    · cases z
    · obtain ⟨a, e1, k, o, e2, h⟩ := R.own j c q e
      exact ⟨a, by rw [ix_ne ne]; exact e1, k, o, e2, h.anti sub⟩
  · rcases ix_set e1 with ⟨_, z, _⟩ | ⟨n1, e1⟩
    · cases z
    rcases ix_set e2 with ⟨_, z, _⟩ | ⟨n2, e2⟩
    · cases z
    rw [ix_ne n1] at e3
    rw [ix_ne n2] at e4
    exact R.inj j k b c q r a e1 e2 e3 e4
  · obtain ⟨e, q, e1⟩ := R.io x ax hx
    have ne := R.io_ne n x ax hx
    exact ⟨by rw [ix_ne ne]; exact e, q, by rw [ix_ne ne]; exact e1⟩
  · rcases ix_set e with ⟨_, z, _⟩ | ⟨ne, e⟩
    · cases z
    · exact ⟨e, ix_ne ne⟩
/-- a slot forgets -/
theorem RE.clear {i : Nat} (R : RE K G H σ ρ pd) (n : notIo ρ i = true) : RE K G H (σ.set i none) (ρ.set i Sl.un) pd := by
  have sub : ∀ b, WS G (σ.set i none) (ρ.set i Sl.un) b → WS G σ ρ b := fun b w => by
    rcases w with w | ⟨j, c, q, e1, e2⟩
    · exact .inl w
    · rcases ix_set e1 with ⟨_, z, _⟩ | ⟨ne, e1⟩
      · cases z
      · rw [ix_ne ne] at e2; exact .inr ⟨j, c, q, e1, e2⟩
  refine ⟨by simp [R.len], fun j q e => ?_, fun j c q e => ?_, fun j k b c q r a e1 e2 e3 e4 => ?_, fun x ax hx => ?_, R.keep, R.exk, fun x hx => Is.anti sub _ _ (R.pd x hx), R.ext.slots fun j b q e => ?_⟩
  · rcases ix_set e with ⟨_, z, _⟩ | ⟨ne, e⟩
    · cases z
    · obtain ⟨w, e1, h⟩ := R.val j q e
      exact ⟨w, by rw [ix_ne ne]; exact e1, Is.anti sub _ _ h⟩
  · rcases ix_set e with ⟨_, z, _⟩ | ⟨ne, e⟩
    · cases z
    · obtain ⟨a, e1, k, o, e2, h⟩ := R.own j c q e
      exact ⟨a, by rw [ix_ne ne]; exact e1, k, o, e2, h.anti sub⟩
  · rcases ix_set e1 with ⟨_, z, _⟩ | ⟨n1, e1⟩
    · cases z
    rcases ix_set e2 with ⟨_, z, _⟩ | ⟨n2, e2⟩
    · cases z
    rw [ix_ne n1] at e3
    rw [ix_ne n2] at e4
    exact R.inj j k b c q r a e1 e2 e3 e4
  · obtain ⟨e, q, e1⟩ := R.io x ax hx
    have ne := R.io_ne n x ax hx
    exact ⟨by rw [ix_ne ne]; exact e, q, by rw [ix_ne ne]; exact e1⟩
  · rcases ix_set e with ⟨_, z, _⟩ | ⟨ne, e⟩
    · cases z
    · exact ⟨e, ix_ne ne⟩
/-- a slot takes a new object as its own -/
theorem RE.setOwn {i : Nat} {p : PV} {a : Addr} {o : HO} (R : RE K (G.add a o) H σ ρ pd) (n : notIo ρ i = true) (l : i < ρ.length) (k : G.keep a = none) (kx : exkOk G) (w : OwnO K H (WS (G.add a o) σ ρ) p o) (np : isNst p = false) :
    RE K G H (σ.set i (some (.ref a))) (ρ.set i (Sl.own false p)) pd := by
  have lσ : i < σ.length := by rw [← R.len]; exact l
  have Ha : H a = some o := R.keep a o upd_same
  have sub : ∀ b, WS G (σ.set i (some (.ref a))) (ρ.set i (Sl.own false p)) b → WS (G.add a o) σ ρ b := fun b w => by
    rcases w with w | ⟨j, c, q, e1, e2⟩
    · exact .inl (.inr w)
    · rcases ix_set e1 with ⟨rfl, z, _⟩ | ⟨ne, e1⟩
      · rw [List.getElem?_set_self lσ] at e2; cases e2; exact .inl (.inl rfl)
      · rw [ix_ne ne] at e2; exact .inr ⟨j, c, q, e1, e2⟩
  have kne : ∀ c, (G.add a o).keep c = none → c ≠ a ∧ G.keep c = none := fun c e => by
    have e' : upd G.keep a o c = none := e
    by_cases z : c = a
    · rw [z, upd_same] at e'; cases e'
    · rw [upd_ne z] at e'; exact ⟨z, e'⟩
  refine ⟨by simp [R.len], fun j q e => ?_, fun j c q e => ?_, fun j m b c q r d e1 e2 e3 e4 => ?_, fun x ax hx => ?_, fun b u e => ?_, kx, fun x hx => Is.anti sub _ _ (R.pd x hx), ?_⟩
  · rcases ix_set e with ⟨_, z, _⟩ | ⟨ne, e⟩
    · cases z
    · obtain ⟨w, e1, h⟩ := R.val j q e
      exact ⟨w, by rw [ix_ne ne]; exact e1, Is.anti sub _ _ h⟩
  · rcases ix_set e with ⟨rfl, z, _⟩ | ⟨ne, e⟩
    · cases z
      exact ⟨a, List.getElem?_set_self lσ, k, o, Ha, w.anti sub⟩
    · obtain ⟨d, e1, k1, u, e2, h⟩ := R.own j c q e
      exact ⟨d, by rw [ix_ne ne]; exact e1, (kne d k1).2, u, e2, h.anti sub⟩
  · rcases ix_set e1 with ⟨rfl, z, _⟩ | ⟨n1, e1⟩
    · rw [List.getElem?_set_self lσ] at e3; cases e3
      rcases ix_set e2 with ⟨rfl, z2, _⟩ | ⟨n2, e2⟩
      · rfl
      · rw [ix_ne n2] at e4
        obtain ⟨d, e5, k1, _⟩ := R.own m c r e2
        rw [e4] at e5; cases e5
        exact absurd rfl (kne _ k1).1
    · rw [ix_ne n1] at e3
      rcases ix_set e2 with ⟨rfl, z2, _⟩ | ⟨n2, e2⟩
      · rw [List.getElem?_set_self lσ] at e4; cases e4
        obtain ⟨d, e5, k1, _⟩ := R.own j b q e1
        rw [e3] at e5; cases e5
        exact absurd rfl (kne _ k1).1
      · rw [ix_ne n2] at e4
        exact R.inj j m b c q r d e1 e2 e3 e4
  · obtain ⟨e, q, e1⟩ := R.io x ax hx
    have ne := R.io_ne n x ax hx
    exact ⟨by rw [ix_ne ne]; exact e, q, by rw [ix_ne ne]; exact e1⟩
  · refine R.keep b u ?_
    have ne : b ≠ a := fun z => by rw [z, k] at e; cases e
    show upd G.keep a o b = some u
    rw [upd_ne ne]; exact e
  · have X := R.ext.unadd
    refine ⟨X.vo, fun j c q d e1 e2 => ?_, fun j c d z e1 => ?_⟩
    · rcases ix_set e1 with ⟨rfl, z, _⟩ | ⟨ne, e1⟩
      · rw [List.getElem?_set_self lσ] at e2; cases e2
        exact R.ext.notA
      · rw [ix_ne ne] at e2
        exact X.off j c q d e1 e2
    · rcases ix_set e1 with ⟨rfl, z2, _⟩ | ⟨ne, e1⟩
      · cases z2; cases np
      · exact X.nst j c d z e1
/-- a slot's own object is from now on a value like others -/
theorem RE.freeze {i : Nat} {p : PV} (R : RE K G H σ ρ pd) (e : ρ[i]? = some (Sl.own false p)) : RE K G H σ (ρ.set i (Sl.val p)) pd := by
  obtain ⟨a, ea, k, o, Ha, w⟩ := R.own i false p e
  have sub : ∀ b, WS G σ (ρ.set i (Sl.val p)) b → WS G σ ρ b := fun b w => by
    rcases w with w | ⟨j, c, q, e1, e2⟩
    · exact .inl w
    · rcases ix_set e1 with ⟨_, z, _⟩ | ⟨ne, e1⟩
      · cases z
      · exact .inr ⟨j, c, q, e1, e2⟩
  have na : ¬ WS G σ (ρ.set i (Sl.val p)) a := by
    rintro (w | ⟨j, c, q, e1, e2⟩)
    · obtain ⟨u, e3, _⟩ := R.exk a w (R.ext.off i false p a e ea)
      rw [k] at e3; cases e3
    · rcases ix_set e1 with ⟨_, z, _⟩ | ⟨ne, e1⟩
      · cases z
      · exact ne (R.inj i j _ _ _ _ a e e1 ea e2)
  refine ⟨by simp [R.len], fun j q e1 => ?_, fun j c q e1 => ?_, fun j k b c q r a e1 e2 e3 e4 => ?_, fun x ax hx => ?_, R.keep, R.exk, fun x hx => Is.anti sub _ _ (R.pd x hx), R.ext.slots fun j b q e => ?_⟩
  · rcases ix_set e1 with ⟨rfl, z, l⟩ | ⟨ne, e1⟩
    · cases z
      exact ⟨_, ea, w.is Ha sub na⟩
    · obtain ⟨w, e2, h⟩ := R.val j q e1
      exact ⟨w, e2, Is.anti sub _ _ h⟩
  · rcases ix_set e1 with ⟨_, z, _⟩ | ⟨ne, e1⟩
    · cases z
    · obtain ⟨a, e2, k, o, e3, h⟩ := R.own j c q e1
      exact ⟨a, e2, k, o, e3, h.anti sub⟩
  · rcases ix_set e1 with ⟨_, z, _⟩ | ⟨n1, e1⟩
    · cases z
    rcases ix_set e2 with ⟨_, z, _⟩ | ⟨n2, e2⟩
    · cases z
    exact R.inj j k b c q r a e1 e2 e3 e4
  · obtain ⟨e1, q, e2⟩ := R.io x ax hx
    have ne : i ≠ x := fun z => by rw [z, e2] at e; cases e
    exact ⟨e1, q, by rw [ix_ne ne]; exact e2⟩
  · rcases ix_set e with ⟨_, z, _⟩ | ⟨ne, e⟩
    · cases z
    · exact ⟨e, rfl⟩
/-- a slot's own object is changed -/
theorem RE.mutate {i : Nat} {b : Bool} {p p' : PV} {a : Addr} {o' : HO} (R : RE K G H σ ρ pd) (e : ρ[i]? = some (Sl.own b p)) (ea : σ[i]? = some (some (V.ref a))) (w : OwnO K H (WS G σ ρ) p' o') (np : ∀ c s, p' = .nst false c s → G.vo c) : RE K G (upd H a o') σ (ρ.set i (Sl.own b p')) pd := by
  obtain ⟨a1, ea1, k, o, Ha, _⟩ := R.own i b p e
  rw [ea] at ea1; cases ea1
  have Wa : WS G σ ρ a := .inr ⟨i, b, p, e, ea⟩
  have kp : ∀ c u, H c = some u → ¬ WS G σ ρ c → upd H a o' c = some u := fun c u h n => by
    have ne : c ≠ a := fun z => n (by rw [z]; exact Wa)
    rw [upd_ne ne]; exact h
  have sub : ∀ c, (∃ o, H c = some o) → WS G σ (ρ.set i (Sl.own b p')) c → WS G σ ρ c := fun c _ w => by
    rcases w with w | ⟨j, d, q, e1, e2⟩
    · exact .inl w
    · rcases ix_set e1 with ⟨rfl, z, _⟩ | ⟨ne, e1⟩
      · exact .inr ⟨i, b, p, e, e2⟩
      · exact .inr ⟨j, d, q, e1, e2⟩
  have mv := fun p v h => Is.move (K := K) kp R.mut sub p v h
  refine ⟨by simp [R.len], fun j q e1 => ?_, fun j c q e1 => ?_, fun j k b1 c1 q r a1 e1 e2 e3 e4 => ?_, fun x ax hx => ?_, fun c u h => ?_, R.exk, fun x hx => mv _ _ (R.pd x hx), ?_⟩
  · rcases ix_set e1 with ⟨_, z, _⟩ | ⟨ne, e1⟩
    · cases z
    · obtain ⟨w, e2, h⟩ := R.val j q e1
      exact ⟨w, e2, mv _ _ h⟩
  · rcases ix_set e1 with ⟨rfl, z, _⟩ | ⟨ne, e1⟩
    · cases z
      exact ⟨a, ea, k, o', upd_same, w.move kp R.mut sub⟩
    · obtain ⟨d, e2, k1, u, e3, h⟩ := R.own j c q e1
      have nd : d ≠ a := fun z => ne (R.inj i j _ _ _ _ a e e1 ea (by rw [← z]; exact e2))
      exact ⟨d, e2, k1, u, by rw [upd_ne nd]; exact e3, h.move kp R.mut sub⟩
  · have q1 : ∀ {m : Nat} {c : Bool} {q : PV}, (ρ.set i (Sl.own b p'))[m]? = some (Sl.own c q) → ∃ c' q', ρ[m]? = some (Sl.own c' q') := fun {m c q} h => by
      rcases ix_set h with ⟨rfl, _, _⟩ | ⟨_, h⟩
      · exact ⟨_, _, e⟩
      · exact ⟨_, _, h⟩
    obtain ⟨_, _, f1⟩ := q1 e1
    obtain ⟨_, _, f2⟩ := q1 e2
    exact R.inj j k _ _ _ _ a1 f1 f2 e3 e4
  · obtain ⟨e1, q, e2⟩ := R.io x ax hx
    refine ⟨e1, ?_⟩
    by_cases z : i = x
    · rw [← z] at e2
      rw [e] at e2; cases e2
      refine ⟨p', ?_⟩
      rw [← z, List.getElem?_set_self (List.getElem?_eq_some_iff.mp e).1]
    · exact ⟨q, by rw [ix_ne z]; exact e2⟩
  · have ne : c ≠ a := fun z => by rw [z, k] at h; cases h
    rw [upd_ne ne]; exact R.keep c u h
  · refine ⟨fun c h => ?_, fun j c q d e1 e2 => ?_, fun j c d z e1 => ?_⟩
    · obtain ⟨h1, h2, ns, e3, h3⟩ := R.ext.vo c h
      have ne : c ≠ a := fun z => R.ext.off i b p a e ea (by rw [← z]; exact h)
      exact ⟨h1, h2, ns, by rw [upd_ne ne]; exact e3, h3⟩
    · rcases ix_set e1 with ⟨rfl, _, _⟩ | ⟨_, e1⟩
      · exact R.ext.off i b p d e e2
      · exact R.ext.off j c q d e1 e2
    · rcases ix_set e1 with ⟨rfl, z2, _⟩ | ⟨_, e1⟩
      · cases z2; exact np _ _ rfl
      · exact R.ext.nst j c d z e1

/-- the same slots own; what they own, and what is tracked, may have changed -/
def Alike (ρ ρ2 : En) : Prop := ρ2.length = ρ.length ∧ ∀ i : Nat, ρ2[i]? = ρ[i]? ∨ ∃ (b : Bool) (p q : PV), ρ[i]? = some (Sl.own b p) ∧ ρ2[i]? = some (Sl.own b q)
theorem Alike.back {ρ ρ2 : En} (A : Alike ρ ρ2) {i : Nat} {b : Bool} {q : PV} (e : ρ2[i]? = some (Sl.own b q)) : ∃ p, ρ[i]? = some (Sl.own b p) := by
  rcases A.2 i with z | ⟨c, p, r, e1, e2⟩
  · rw [z] at e; exact ⟨q, e⟩
  · rw [e] at e2; cases e2; exact ⟨p, e1⟩
theorem Alike.fwd {ρ ρ2 : En} (A : Alike ρ ρ2) {i : Nat} {b : Bool} {p : PV} (e : ρ[i]? = some (Sl.own b p)) : ∃ q, ρ2[i]? = some (Sl.own b q) := by
  rcases A.2 i with z | ⟨c, p', r, e1, e2⟩
  · rw [e] at z; exact ⟨p, z⟩
  · rw [e] at e1; cases e1; exact ⟨r, e2⟩
theorem RE.swap {ρ2 : En} (R : RE K G H σ ρ pd) (A : Alike ρ ρ2) (k : ∀ b o, H b = some o → ¬ WS G σ ρ b → H' b = some o) (kp : ∀ b o, G.keep b = some o → H' b = some o)
    (ow : ∀ (i : Nat) (b : Bool) (q : PV) (a : Addr), ρ2[i]? = some (Sl.own b q) → σ[i]? = some (some (V.ref a)) → Own K H' (WS G σ ρ) q a) (hv : ∀ b, G.vo b → IntsAt H' b) (hn : ∀ (i : Nat) (b : Bool) (c : Nat) (s : Int), ρ2[i]? = some (Sl.own b (.nst false c s)) → G.vo c) : RE K G H' σ ρ2 pd := by
  have sub : ∀ b, WS G σ ρ2 b → WS G σ ρ b := fun b w => by
    rcases w with w | ⟨i, c, q, e1, e2⟩
    · exact .inl w
    · obtain ⟨p, e⟩ := A.back e1
      exact .inr ⟨i, c, p, e, e2⟩
  have mv := fun p v h => Is.move (K := K) k R.mut (fun b _ w => sub b w) p v h
  refine ⟨by rw [A.1, R.len], fun i p e => ?_, fun i b q e => ?_, fun i j b c p q a e1 e2 e3 e4 => ?_, fun i a h => ?_, kp, R.exk, fun x hx => mv _ _ (R.pd x hx), ⟨fun b h => ⟨(R.ext.vo b h).1, (R.ext.vo b h).2.1, hv b h⟩, fun i b q a e1 e2 => ?_, hn⟩⟩
  · rcases A.2 i with z | ⟨c, p', r, _, e2⟩
    · rw [z] at e
      obtain ⟨v, e1, h⟩ := R.val i p e
      exact ⟨v, e1, mv _ _ h⟩
    · rw [e] at e2; cases e2
  · obtain ⟨p, e1⟩ := A.back e
    obtain ⟨a, e2, n, _⟩ := R.own i b p e1
    obtain ⟨o, e3, h⟩ := ow i b q a e e2
    exact ⟨a, e2, n, o, e3, h.anti sub⟩
  · obtain ⟨p1, f1⟩ := A.back e1
    obtain ⟨p2, f2⟩ := A.back e2
    exact R.inj i j b c p1 p2 a f1 f2 e3 e4
  · obtain ⟨e, p, e1⟩ := R.io i a h
    obtain ⟨q, e2⟩ := A.fwd e1
    exact ⟨e, q, e2⟩
  · obtain ⟨p, e⟩ := A.back e1
    exact R.ext.off i b p a e e2
/-- a slot's own object given away -/
theorem RE.release {i : Nat} {p : PV} (R : RE K G H σ ρ pd) (e : ρ[i]? = some (Sl.own false p)) : ∃ a o, σ[i]? = some (some (V.ref a)) ∧ G.keep a = none ∧ RE K (G.add a o) H σ (ρ.set i Sl.un) pd ∧ OwnO K H (WS (G.add a o) σ (ρ.set i Sl.un)) p o := by
  obtain ⟨a, ea, k, o, Ha, w⟩ := R.own i false p e
  have sub : ∀ b, WS (G.add a o) σ (ρ.set i Sl.un) b → WS G σ ρ b := fun b w => by
    rcases w with (w | w) | ⟨j, c, q, e1, e2⟩
    · rw [w]; exact .inr ⟨i, false, p, e, ea⟩
    · exact .inl w
    · rcases ix_set e1 with ⟨_, z, _⟩ | ⟨ne, e1⟩
      · cases z
      · exact .inr ⟨j, c, q, e1, e2⟩
  refine ⟨a, o, ea, k, ⟨by simp [R.len], fun j q e1 => ?_, fun j c q e1 => ?_, fun j k b c q r a e1 e2 e3 e4 => ?_, fun x ax hx => ?_, fun b u e1 => ?_, fun b w hv => ?_, fun x hx => Is.anti sub _ _ (R.pd x hx), ?_⟩, w.anti sub⟩
  · rcases ix_set e1 with ⟨_, z, _⟩ | ⟨ne, e1⟩
    · cases z
    · obtain ⟨w, e2, h⟩ := R.val j q e1
      exact ⟨w, e2, Is.anti sub _ _ h⟩
  · rcases ix_set e1 with ⟨_, z, _⟩ | ⟨ne, e1⟩
    · cases z
    · obtain ⟨d, e2, k1, u, e3, h⟩ := R.own j c q e1
      have nd : d ≠ a := fun z => ne (R.inj i j _ _ _ _ a e e1 ea (by rw [← z]; exact e2))
      exact ⟨d, e2, by show upd G.keep a o d = none; rw [upd_ne nd]; exact k1, u, e3, h.anti sub⟩
  · rcases ix_set e1 with ⟨_, z, _⟩ | ⟨n1, e1⟩
    · cases z
    rcases ix_set e2 with ⟨_, z, _⟩ | ⟨n2, e2⟩
    · cases z
    exact R.inj j k b c q r a e1 e2 e3 e4
  · obtain ⟨e1, q, e2⟩ := R.io x ax hx
    have ne : i ≠ x := fun z => by rw [z, e2] at e; cases e
    exact ⟨e1, q, by rw [ix_ne ne]; exact e2⟩
  · by_cases q : b = a
    · rw [q] at e1
      have e2 : upd G.keep a o a = some u := e1
      rw [upd_same] at e2; cases e2
      rw [q]; exact Ha
    · have e2 : upd G.keep a o b = some u := e1
      rw [upd_ne q] at e2
      exact R.keep b u e2
  · rcases w with w' | w'
    · rw [w']; exact ⟨o, upd_same, w.mut⟩
    · obtain ⟨u, e1, m1⟩ := R.exk b w' hv
      have ne : b ≠ a := fun z => by rw [z, k] at e1; cases e1
      exact ⟨u, by show upd G.keep a o b = some u; rw [upd_ne ne]; exact e1, m1⟩
  · refine ⟨fun c h => ?_, fun j c q d e1 e2 => ?_, fun j c d z e1 => ?_⟩
    · obtain ⟨h1, h2, h3⟩ := R.ext.vo c h
      have ne : c ≠ a := fun z => R.ext.off i false p a e ea (by rw [← z]; exact h)
      exact ⟨.inr h1, by show upd G.keep a o c = none; rw [upd_ne ne]; exact h2, h3⟩
    · rcases ix_set e1 with ⟨_, z, _⟩ | ⟨_, e1⟩
      · cases z
      · exact R.ext.off j c q d e1 e2
    · rcases ix_set e1 with ⟨_, z2, _⟩ | ⟨_, e1⟩
      · cases z2
      · exact R.ext.nst j c d z e1
end
end Px
set_option Elab.async false
set_option linter.all false
set_option maxRecDepth 100000
namespace Px
open PySem L2 PySem.AutoSeq1 PySem.Spec PyProof.Rows
set_option maxRecDepth 8000 in
theorem list_extend_tuple (l : Addr) (items : Array Value) (n : Nat) (b : Addr) (items2 : Array Value) (n2 : Nat) (dd : Option Addr) (sl : Array (Option Value)) (hs0 : ¬(!items.isEmpty && Builtin.List.listTooLong (items.size + items2.size)) = true) (hs1 : items.size ≤ sizeLine) (hs2 : items.size + items2.size ≤ sizeLine + 1) :
    Meets (Builtin.«list.extend» ⟨[.ref l, .ref b], []⟩) (fun _ R s => s.heap.get? l = some { cls := .type "list", dict := none, data := .seq items n, slots := #[] } ∧ s.heap.get? b = some { cls := .type "tuple", dict := dd, data := .seq items2 n2, slots := sl } ∧ R (.ok (.ret Value.none)) { s with heap := s.heap.update l (Obj.mapSeq fun x => x ++ items2), toks := s.toks }) :=
  .of_wp fun prog w A R s h => by
    obtain ⟨hp, g, d, tk, os⟩ := s; obtain ⟨hl, hb, h⟩ := h; have f1 := AutoSeq1.idx_int; have f2 := AutoSeq1.sub_tuple_tuple; have f3 := AutoSeq1.sub_list_list; have f4 := AutoSeq1.sub_tuple_list; have f5 := AutoSeq1.sub_list_tuple;
    have hz' : (items ++ items2).size ≤ sizeLine + 1 := by rw [Array.size_append]; exact hs2
    wp_walk using (wpAny_updateSeq hl rfl (hz := hs1) (_hz' := hz')), wpAny_loadPart' hl, wpAny_loadPart' hb; exact ⟨_, rfl, h⟩
def rExtT (K : PySem.W.Frag) : V → List V → Hp → VK → Prop := fun x vs H Q => ∃ l b xs zs, x = .ref l ∧ vs = [.ref b] ∧ H l = some (.lst xs) ∧ SqT K H b zs ∧ xs.length + zs.length ≤ sizeLine ∧ Q .non (upd H l (.lst (xs ++ zs)))
theorem mt_extT {X : Cx} : MtR X "list.extend" (rExtT X.K) := by
  intro pins s σ H x vs v us Q I rx rv h
  obtain ⟨l, b, xs, zs, rfl, rfl, hH, hB, hz, q⟩ := h
  cases rx
  obtain ⟨u, rfl, ru⟩ := rv.one
  cases ru
  obtain ⟨z, its, n, r, hl, e⟩ := I.lstM hH
  obtain ⟨its2, r2, ⟨⟨cls, dd, data, sl⟩, e2, c2, n2, d2⟩, z2⟩ := I.tuple hB
  simp only at c2 d2
  subst c2 d2
  have hl2 : its2.length = zs.length := r2.length.symm
  have hsz : its.toArray.size + its2.toArray.size ≤ sizeLine := by rw [List.size_toArray, List.size_toArray]; omega
  have hlong : ¬ (!its.toArray.isEmpty && Builtin.List.listTooLong (its.toArray.size + its2.toArray.size)) = true := by
    rw [notLongL hsz, Bool.and_false]
    exact Bool.false_ne_true
  refine call_meets F.slot_list_extend ⟨_, e, rfl⟩ F.entry_list_extend (F.args_list_extend_2 _ _)
    (list_extend_tuple l its.toArray n b its2.toArray n2 dd sl hlong (by rw [List.size_toArray]; omega) (by omega)) ⟨e, e2, ?_⟩
  refine ⟨.non, _, I.lset (its' := its ++ its2) hH e (by simp) (r.append r2) ?_, rfl, q⟩
  rw [List.length_append]
  omega
end Px
namespace Px
open PySem L2

/-! ### what an expression gives: a value; a slot that owns (looked at, not taken); a new object of its own -/
inductive R where
  | pv (p : PV) | sl (i : Nat) | fr (p : PV)
def Res (K : PySem.W.Frag) (G : Gd) (H : Hp) (σ : L2.St) (ρ : En) (pd : Pds) : R → V → Prop
  | .pv p, v => RE K G H σ ρ ((p, v) :: pd)
  | .sl i, v => RE K G H σ ρ pd ∧ σ[i]? = some (some v) ∧ ∃ b p, ρ[i]? = some (Sl.own b p)
  | .fr p, v => ∃ a o, v = .ref a ∧ G.keep a = none ∧ exkOk G ∧ RE K (G.add a o) H σ ρ pd ∧ OwnO K H (WS (G.add a o) σ ρ) p o
def R.wk : R → R
  | .fr p => .pv p
  | r => r
def R.look (ρ : En) : R → Option PV
  | .pv p => some p
  | .fr p => some p
  | .sl i => match ρ[i]? with
    | some (Sl.own _ p) => some p
    | _ => none
def ArgR (σ : L2.St) (pd : Pds) : R → V → Prop
  | .pv p, v => (p, v) ∈ pd
  | .sl i, v => σ[i]? = some (some v)
  | .fr _, _ => False
theorem look_wk (ρ : En) (r : R) : r.wk.look ρ = r.look ρ := by cases r <;> rfl
section
variable {K : PySem.W.Frag} {G : Gd} {H H' : Hp} {σ : L2.St} {ρ : En} {pd pd' : Pds} {r : R} {v : V}
theorem Res.weak {p : PV} (h : Res K G H σ ρ pd (.fr p) v) : Res K G H σ ρ pd (.pv p) v := by
  obtain ⟨a, o, rfl, n, kx, R1, q⟩ := h
  obtain ⟨R2, nW, Ha⟩ := R1.unadd n kx
  exact R2.push (q.is Ha (fun b w => w.elim (fun w => .inl (.inr w)) .inr) nW)
theorem Res.wk (h : Res K G H σ ρ pd r v) : Res K G H σ ρ pd r.wk v := by
  cases r with
  | fr p => exact h.weak
  | _ => exact h
theorem Res.arg (h : Res K G H σ ρ pd r v) : ∃ pd', (∀ x ∈ pd, x ∈ pd') ∧ RE K G H σ ρ pd' ∧ ArgR σ pd' r.wk v := by
  cases r with
  | pv p => exact ⟨_, fun x hx => List.mem_cons_of_mem _ hx, h, List.mem_cons_self⟩
  | fr p => exact ⟨_, fun x hx => List.mem_cons_of_mem _ hx, h.weak, List.mem_cons_self⟩
  | sl i => exact ⟨pd, fun _ hx => hx, h.1, h.2.1⟩
theorem ArgR.mono (s : ∀ x ∈ pd, x ∈ pd') (h : ArgR σ pd r v) : ArgR σ pd' r v := by
  cases r with
  | pv p => exact s _ h
  | fr p => exact h
  | sl i => exact h
/-- a value as it is looked at (it may be a slot's own) -/
def Lk (K : PySem.W.Frag) (H : Hp) (W : Addr → Prop) : PV → V → Prop
  | .lst ps, v => ∃ a vs, v = .ref a ∧ H a = some (.lst vs) ∧ Iss K H W ps vs
  | .dic ks ps, v => ∃ a vs, v = .ref a ∧ Rd H a (.dK (ks.zip vs)) ∧ ks.length = vs.length ∧ ks.all keyOk = true ∧ Iss K H W ps vs
  | .nst _ c s, v => ∃ a, v = .ref a ∧ H a = some (.lst [.ref c, .int s])
  | p, v => Is K H W p v
theorem Is.lk {W : Addr → Prop} {p : PV} (h : Is K H W p v) : Lk K H W p v := by
  cases p with
  | lst ps => obtain ⟨a, vs, e, _, q⟩ := h; exact ⟨a, vs, e, q⟩
  | dic ks ps => obtain ⟨a, vs, e, _, q⟩ := h; exact ⟨a, vs, e, q⟩
  | nst t c s => obtain ⟨a, e, _, q⟩ := h; exact ⟨a, e, q⟩
  | _ => exact h
theorem OwnO.lk {W : Addr → Prop} {p : PV} {o : HO} {a : Addr} (h : OwnO K H W p o) (e : H a = some o) : Lk K H W p (.ref a) := by
  cases p <;> cases o <;> first
    | exact h.elim
    | exact ⟨a, _, rfl, e, h⟩
    | (obtain ⟨vs, e1, l, kk, q⟩ := h; subst e1; exact ⟨a, vs, rfl, .inl e, l, kk, q⟩)
    | (have h' : _ = _ := h; subst h'; exact ⟨a, rfl, e⟩)
theorem ArgR.lk {p : PV} (R1 : RE K G H σ ρ pd) (h : ArgR σ pd r v) (l : r.look ρ = some p) : Lk K H (WS G σ ρ) p v := by
  cases r with
  | pv q => cases l; exact (R1.pd _ h).lk
  | fr q => exact h.elim
  | sl i =>
    simp only [R.look] at l
    cases e : ρ[i]? with
    | none => rw [e] at l; cases l
    | some s =>
      rw [e] at l
      cases s with
      | un => cases l
      | val q => cases l
      | own b q =>
        cases l
        obtain ⟨a, e1, _, o, e2, q1⟩ := R1.own i b _ e
        have e3 : σ[i]? = some (some v) := h
        rw [e3] at e1; cases e1
        exact q1.lk e2
end

abbrev PK1 := R → En → Prop
/-- keeps simp out of what it is of -/
inductive Dum {α : Type} (a : α) : Type where | mk
abbrev QT := En → PK1 → Prop
/-- the reading te does what t says -/
def Rz (K : PySem.W.Frag) (te : TE) (t : QT) : Prop := ∀ (G : Gd) (H : Hp) (σ : L2.St) (ρ : En) (pd : Pds) (Q : PK1) (F : VK), RE K G H σ ρ pd → t ρ Q → (∀ r ρ' v H', Res K G H' σ ρ' pd r v → Q r ρ' → F v H') → te σ H F
structure QE (X : Cx) (e : Expr) (t : QT) : Prop where
  ex : ∃ te, PE X e te ∧ Rz X.K te t
abbrev QTT := En → (Bool → En → Prop) → Prop
def RzT (K : PySem.W.Frag) (tt : TT) (t : QTT) : Prop := ∀ (G : Gd) (H : Hp) (σ : L2.St) (ρ : En) (pd : Pds) (Q : Bool → En → Prop) (F : Bool → Hp → Prop), RE K G H σ ρ pd → t ρ Q → (∀ b ρ' H', RE K G H' σ ρ' pd → Q b ρ' → F b H') → tt σ H F
structure QC (X : Cx) (e : Expr) (t : QTT) : Prop where
  ex : ∃ tt, PT X e tt ∧ RzT X.K tt t
structure QW (X : Cx) (e : Expr) (t : QTT) : Prop where
  ex : ∃ tt, PW X e tt ∧ RzT X.K tt t
/-- arguments -/
abbrev QTA := En → (List R → En → Prop) → Prop
inductive ArgsR (σ : L2.St) (pd : Pds) : List R → List V → Prop where
  | nil : ArgsR σ pd [] []
  | cons {r : R} {v : V} {rs : List R} {vs : List V} (h : ArgR σ pd r v) (t : ArgsR σ pd rs vs) : ArgsR σ pd (r :: rs) (v :: vs)
theorem ArgsR.mono {σ : L2.St} {pd pd' : Pds} {rs : List R} {vs : List V} (s : ∀ x ∈ pd, x ∈ pd') (h : ArgsR σ pd rs vs) : ArgsR σ pd' rs vs := by
  induction h with
  | nil => exact .nil
  | cons h _ ih => exact .cons (h.mono s) ih
def RzA (K : PySem.W.Frag) (ta : TA) (t : QTA) : Prop := ∀ (G : Gd) (H : Hp) (σ : L2.St) (ρ : En) (pd : Pds) (Q : List R → En → Prop) (F : List V → Hp → Prop), RE K G H σ ρ pd → t ρ Q →
  (∀ rs ρ' pd' vs H', (∀ x ∈ pd, x ∈ pd') → RE K G H' σ ρ' pd' → ArgsR σ pd' rs vs → Q rs ρ' → F vs H') → ta σ H F
structure QA (X : Cx) (es : List Expr) (t : QTA) : Prop where
  ex : ∃ ta, PA X es ta ∧ RzA X.K ta t
def looks (ρ : En) : List R → Option (List PV)
  | [] => some []
  | r :: rs => match r.look ρ, looks ρ rs with
    | some p, some ps => some (p :: ps)
    | _, _ => none
inductive Lks (K : PySem.W.Frag) (H : Hp) (W : Addr → Prop) : List PV → List V → Prop where
  | nil : Lks K H W [] []
  | cons {p : PV} {v : V} {ps : List PV} {vs : List V} (h : Lk K H W p v) (t : Lks K H W ps vs) : Lks K H W (p :: ps) (v :: vs)
theorem ArgsR.lks {K : PySem.W.Frag} {G : Gd} {H : Hp} {σ : L2.St} {ρ : En} {pd : Pds} (R1 : RE K G H σ ρ pd) : ∀ {rs : List R} {vs : List V} {ps : List PV}, ArgsR σ pd rs vs → looks ρ rs = some ps → Lks K H (WS G σ ρ) ps vs
  | _, _, _, .nil, l => by cases l; exact .nil
  | r :: rs, _, _, .cons h t, l => by
    unfold looks at l
    cases e1 : r.look ρ with
    | none => rw [e1] at l; simp at l
    | some p =>
      cases e2 : looks ρ rs with
      | none => rw [e1, e2] at l; simp at l
      | some qs =>
        rw [e1, e2] at l
        cases l
        exact .cons (h.lk R1 e1) (ArgsR.lks R1 t e2)

/-! ### operations by values -/
def ResV (K : PySem.W.Frag) (H : Hp) (W : Addr → Prop) (H' : Hp) : R → V → Prop
  | .pv z, v => Is K H' W z v
  | .fr z, v => ∃ a o, v = .ref a ∧ H a = none ∧ H' a = some o ∧ OwnO K H' (fun b => b = a ∨ W b) z o
  | .sl _, _ => False
theorem res_of {K : PySem.W.Frag} {G : Gd} {H H' : Hp} {σ : L2.St} {ρ : En} {pd : Pds} {z : R} {v : V} (R1 : RE K G H σ ρ pd) (s : Same H H') (h : ResV K H (WS G σ ρ) H' z v) : Res K G H' σ ρ pd z v := by
  cases z with
  | pv z => exact (R1.same s).push h
  | sl i => exact h.elim
  | fr z =>
    obtain ⟨a, o, rfl, n, e, w⟩ := h
    have kn : G.keep a = none := by
      cases q : G.keep a with
      | none => rfl
      | some u => rw [R1.keep a u q] at n; cases n
    exact ⟨a, o, rfl, kn, R1.exk, R1.add n s e w.mut, w.anti fun b w => by rcases w with (w | w) | w; exact .inl w; exact .inr (.inl w); exact .inr (.inr w)⟩
abbrev G2 := PV → PV → (R → Prop) → Prop
def Real2 (K : PySem.W.Frag) (r : R2) (g : G2) : Prop := ∀ (H : Hp) (W : Addr → Prop) (p q : PV) (x y : V) (Q : R → Prop) (F : VK), MutT H W → Lk K H W p x → Lk K H W q y → g p q Q → (∀ v H' z, Same H H' → ResV K H W H' z v → Q z → F v H') → r x y H F
abbrev GL := List PV → (R → Prop) → Prop
def RealL (K : PySem.W.Frag) (r : List V → Hp → VK → Prop) (g : GL) : Prop := ∀ (H : Hp) (W : Addr → Prop) (ps : List PV) (xs : List V) (Q : R → Prop) (F : VK), MutT H W → Lks K H W ps xs → g ps Q → (∀ v H' z, Same H H' → ResV K H W H' z v → Q z → F v H') → r xs H F
theorem Real2.or {K : PySem.W.Frag} {r r' : R2} {g g' : G2} (h : Real2 K r g) (h' : Real2 K r' g') : Real2 K (fun x y H Q => r x y H Q ∨ r' x y H Q) (fun p q Q => g p q Q ∨ g' p q Q) := fun H W p q x y Q F m l1 l2 z f => z.elim (fun z => .inl (h H W p q x y Q F m l1 l2 z f)) (fun z => .inr (h' H W p q x y Q F m l1 l2 z f))
def OpP (X : Cx) (f : Value → Value → Sem Value) (g : G2) : Prop := ∃ r, OpR X f r ∧ Real2 X.K r g
def CallP (X : Cx) (f : Value) (g : GL) : Prop := ∃ r, CallR X f r ∧ RealL X.K r g
def IxP (X : Cx) (g : G2) : Prop := ∃ r, IxR X r ∧ Real2 X.K r g

def qOp2 (g : G2) (ta tb : QT) (ρ : En) (Q : PK1) : Prop := ta ρ fun r1 ρ1 => tb ρ1 fun r2 ρ2 => match r1.look ρ2, r2.look ρ2 with
  | some p, some q => g p q fun z => Q z ρ2
  | _, _ => False
theorem rz_op2 {K : PySem.W.Frag} {r : R2} {g : G2} {ta tb : TE} {qa qb : QT} (hr : Real2 K r g) (ha : Rz K ta qa) (hb : Rz K tb qb) : Rz K (tOp r ta tb) (qOp2 g qa qb) := by
  intro G H σ ρ pd Q F R1 h f
  refine ha G H σ ρ pd _ _ R1 h fun r1 ρ1 x H1 s1 h1 => ?_
  obtain ⟨pd1, sb1, R2, a1⟩ := s1.arg
  refine hb G H1 σ ρ1 pd1 _ _ R2 h1 fun r2 ρ2 y H2 s2 h2 => ?_
  obtain ⟨pd2, sb2, R3, a2⟩ := s2.arg
  cases e1 : r1.look ρ2 with
  | none => rw [e1] at h2; exact h2.elim
  | some p =>
    cases e2 : r2.look ρ2 with
    | none => rw [e1, e2] at h2; exact h2.elim
    | some q =>
      rw [e1, e2] at h2
      refine hr H2 _ p q x y _ F R3.mut ((a1.mono sb2).lk R3 (by rw [look_wk]; exact e1)) (a2.lk R3 (by rw [look_wk]; exact e2)) h2 fun v H' z sm rv hq => ?_
      refine f z ρ2 v H' ?_ hq
      exact res_of (R3.pds fun x hx => sb2 x (sb1 x hx)) sm rv

section
variable {X : Cx} {a b c e : Expr} {es : List Expr} {ta tb tc te : QT} {tt tu : QTT} {tr : QTA} {pos : Pos}
theorem qe_op {op : Operator} {g : G2} (ho : OpP X (binaryOp op) g) (ha : QE X a ta) (hb : QE X b tb) : QE X (.BinOp a op b pos) (qOp2 g ta tb) := by
  obtain ⟨r, h1, h2⟩ := ho
  obtain ⟨t1, p1, q1⟩ := ha.ex
  obtain ⟨t2, p2, q2⟩ := hb.ex
  exact ⟨_, pe_op h1 p1 p2, rz_op2 h2 q1 q2⟩
theorem qe_cmp {op : CmpOp} {g : G2} (ho : OpP X (compareOp op) g) (ha : QE X a ta) (hb : QE X b tb) (hm : behindInMarks op b = false := by first | exact nomark _ (by decide) (by decide) | rfl) : QE X (.Compare a [op] [b] pos) (qOp2 g ta tb) := by
  obtain ⟨r, h1, h2⟩ := ho
  obtain ⟨t1, p1, q1⟩ := ha.ex
  obtain ⟨t2, p2, q2⟩ := hb.ex
  exact ⟨_, pe_cmpR h1 p1 p2 hm, rz_op2 h2 q1 q2⟩
theorem qe_ix {g : G2} (ho : IxP X g) (ha : QE X a ta) (hb : QE X b tb) (hs : PlainIx b := by intro _ _; rfl) : QE X (.Subscript a b pos) (qOp2 g ta tb) := by
  obtain ⟨r, h1, h2⟩ := ho
  obtain ⟨t1, p1, q1⟩ := ha.ex
  obtain ⟨t2, p2, q2⟩ := hb.ex
  exact ⟨_, pe_ix h1 p1 p2 hs, rz_op2 h2 q1 q2⟩
/-- a test that is a comparison -/
def qB (t : QT) (ρ : En) (Q : Bool → En → Prop) : Prop := t ρ fun r ρ1 => match r with
  | .pv (.bl k) => Q k ρ1
  | _ => False
theorem qc_cmp {op : CmpOp} {g : G2} (ho : OpP X (compareOp op) g) (ha : QE X a ta) (hb : QE X b tb) (hm : behindInMarks op b = false := by first | exact nomark _ (by decide) (by decide) | rfl) : QC X (.Compare a [op] [b] pos) (qB (qOp2 g ta tb)) := by
  obtain ⟨r, h1, h2⟩ := ho
  obtain ⟨t1, p1, q1⟩ := ha.ex
  obtain ⟨t2, p2, q2⟩ := hb.ex
  refine ⟨_, pt_cmpR h1 p1 p2 hm, fun G H σ ρ pd Q F R1 h f => ?_⟩
  refine rz_op2 h2 q1 q2 G H σ ρ pd _ _ R1 h fun r ρ' v H' s hq => ?_
  cases r with
  | pv p =>
    cases p with
    | bl k =>
      have e : v = .bl k := s.pd (.bl k, v) List.mem_cons_self
      exact ⟨k, e, f k ρ' H' s.tl hq⟩
    | _ => exact hq.elim
  | _ => exact hq.elim

/-! ### names, constants -/
def qVar (i : Nat) (ρ : En) (Q : PK1) : Prop := match ρ[i]? with
  | some (.val p) => Q (.pv p) ρ
  | some (.own _ _) => Q (.sl i) ρ
  | _ => False
theorem rz_var {K : PySem.W.Frag} {i : Nat} : Rz K (tVar i) (qVar i) := by
  intro G H σ ρ pd Q F R1 h f
  unfold qVar at h
  cases e : ρ[i]? with
  | none => rw [e] at h; exact h.elim
  | some s =>
    rw [e] at h
    cases s with
    | un => exact h.elim
    | val p =>
      obtain ⟨v, e1, q⟩ := R1.val i p e
      exact ⟨v, e1, f (.pv p) ρ v H (R1.push q) h⟩
    | own b p =>
      obtain ⟨a, e1, _⟩ := R1.own i b p e
      exact ⟨.ref a, e1, f (.sl i) ρ (.ref a) H ⟨R1, e1, b, p, e⟩ h⟩
theorem qv (i : Nat) {x : Str} {pos : Pos} (hN : X.N[i]? = some x := by rfl) (hv : Vis X.env.scope x := by first | exact Or.inl rfl | exact Or.inr (Or.inl rfl) | exact Or.inr (Or.inr rfl)) (hd : (x == ("__debug__" : Str)) = false := by decide)
    (hcd : (x == ("__classdict__" : Str)) = false := by decide) : QE X (.Name x pos) (qVar i) := ⟨_, pe_var hN hv hd hcd, rz_var⟩
def qK (p : PV) (ρ : En) (Q : PK1) : Prop := Q (.pv p) ρ
theorem rz_c {K : PySem.W.Frag} {p : PV} {v : V} (h : ∀ H W, Is K H W p v) : Rz K (tC v) (qK p) := by
  intro G H σ ρ pd Q F R1 hq f
  exact f (.pv p) ρ v H (R1.push (h _ _)) hq
theorem qe_int {i : Int} {j : Nat} : QE X (.Constant (.int i) j pos) (qK (.int i)) := ⟨_, pe_int, rz_c fun _ _ => rfl⟩
theorem qe_bl {i : Bool} {j : Nat} : QE X (.Constant (.bool i) j pos) (qK (.bl i)) := ⟨_, pe_bl, rz_c fun _ _ => rfl⟩
theorem qe_non {j : Nat} : QE X (.Constant .none j pos) (qK .non) := ⟨_, pe_non, rz_c fun _ _ => rfl⟩
theorem qe_str {s : Str} {j : Nat} (h : sOk s = true := by decide +kernel) : QE X (.Constant (.str s) j pos) (qK (.str s)) := ⟨_, pe_str, rz_c fun _ _ => ⟨rfl, h⟩⟩

/-! ### arguments, displays -/
def qNil (ρ : En) (Q : List R → En → Prop) : Prop := Q [] ρ
def qCons (t : QT) (r : QTA) (ρ : En) (Q : List R → En → Prop) : Prop := t ρ fun x ρ1 => r ρ1 fun xs ρ2 => Q (x.wk :: xs) ρ2
theorem qa_nil : QA X [] qNil := ⟨_, pa_nil, fun G H σ ρ pd Q F R1 h f => f [] ρ pd [] H (fun _ h => h) R1 .nil h⟩
theorem rz_cons {K : PySem.W.Frag} {t : TE} {ts : TA} {q : QT} {qs : QTA} (h1 : Rz K t q) (h2 : RzA K ts qs) : RzA K (tCons t ts) (qCons q qs) := by
  intro G H σ ρ pd Q F R1 h f
  refine h1 G H σ ρ pd _ _ R1 h fun r1 ρ1 x H1 s1 g1 => ?_
  obtain ⟨pd1, sb1, R2, a1⟩ := s1.arg
  refine h2 G H1 σ ρ1 pd1 _ _ R2 g1 fun rs ρ2 pd2 vs H2 sb2 R3 a2 g2 => ?_
  exact f _ ρ2 pd2 _ H2 (fun x hx => sb2 x (sb1 x hx)) R3 (.cons (a1.mono sb2) a2) g2
theorem qa_cons (ha : QE X e te) (hr : QA X es tr) (hs : starEach (e :: es) X.env = (false, eval e X.env) :: starEach es X.env := by rfl) : QA X (e :: es) (qCons te tr) := by
  obtain ⟨t1, p1, q1⟩ := ha.ex
  obtain ⟨t2, p2, q2⟩ := hr.ex
  exact ⟨_, pa_cons p1 p2 hs, rz_cons q1 q2⟩
/-- all of them values -/
def vals : List R → Option (List PV)
  | [] => some []
  | .pv p :: rs => (vals rs).map (p :: ·)
  | _ :: _ => none
theorem vals_iss {K : PySem.W.Frag} {G : Gd} {H : Hp} {σ : L2.St} {ρ : En} {pd : Pds} (R1 : RE K G H σ ρ pd) : ∀ {rs : List R} {vs : List V} {ps : List PV}, ArgsR σ pd rs vs → vals rs = some ps → Iss K H (WS G σ ρ) ps vs
  | _, _, _, .nil, l => by cases l; exact rfl
  | r :: rs, v :: vs, ps, .cons h t, l => by
    cases r with
    | sl i => cases l
    | fr p => cases l
    | pv p =>
      have l' : (vals rs).map (p :: ·) = some ps := l
      cases e : vals rs with
      | none => rw [e] at l'; cases l'
      | some qs =>
        rw [e] at l'
        cases l'
        exact ⟨v, vs, rfl, R1.pd _ h, vals_iss R1 t e⟩
def small (n : Nat) : Prop := n ≤ sizeLine
theorem small_le {n : Nat} (h : small n) : n ≤ sizeLine := h
theorem small_lt {n : Nat} (h : small (n + 1)) : n < sizeLine := Nat.lt_of_succ_le h
theorem small_of {n : Nat} (h : n ≤ 1000000) : small n := Nat.le_trans h (by decide)
def qTup (t : QTA) (ρ : En) (Q : PK1) : Prop := t ρ fun rs ρ1 => match vals rs with
  | some ps => small ps.length ∧ Q (.pv (.tup ps)) ρ1
  | none => False
def qLst (t : QTA) (ρ : En) (Q : PK1) : Prop := t ρ fun rs ρ1 => match vals rs with
  | some ps => small ps.length ∧ Q (.fr (.lst ps)) ρ1
  | none => False
theorem same_new {H : Hp} {a : Addr} {o : HO} (h : H a = none) : Same H (upd H a o) := fun b u q => by rw [upd_ne (ne_of_none q h)]; exact q
theorem issNew {K : PySem.W.Frag} {H : Hp} {W : Addr → Prop} {a : Addr} {o : HO} {ps : List PV} {vs : List V} (m : MutT H W) (h : Iss K H W ps vs) (n : H a = none) : Iss K (upd H a o) (fun b => b = a ∨ W b) ps vs :=
  Iss.move (fun b o e _ => same_new n b o e) m (fun b t w => by
    rcases w with w | w
    · obtain ⟨u, t⟩ := t; rw [w, n] at t; cases t
    · exact w) ps vs h
theorem isNew {K : PySem.W.Frag} {H : Hp} {W : Addr → Prop} {a : Addr} {o : HO} {p : PV} {v : V} (m : MutT H W) (h : Is K H W p v) (n : H a = none) : Is K (upd H a o) W p v :=
  Is.move (fun b o e _ => same_new n b o e) m (fun b t w => w) p v h
theorem issNew' {K : PySem.W.Frag} {H : Hp} {W : Addr → Prop} {a : Addr} {o : HO} {ps : List PV} {vs : List V} (m : MutT H W) (h : Iss K H W ps vs) (n : H a = none) : Iss K (upd H a o) W ps vs :=
  Iss.move (fun b o e _ => same_new n b o e) m (fun b t w => w) ps vs h
theorem resLst {K : PySem.W.Frag} {H : Hp} {W : Addr → Prop} {a : Addr} {ps : List PV} {vs : List V} (m : MutT H W) (h : Iss K H W ps vs) (n : H a = none) : ResV K H W (upd H a (.lst vs)) (.fr (.lst ps)) (.ref a) :=
  ⟨a, _, rfl, n, upd_same, issNew m h n⟩
theorem resTup {K : PySem.W.Frag} {H : Hp} {W : Addr → Prop} {a : Addr} {ps : List PV} {vs : List V} (m : MutT H W) (h : Iss K H W ps vs) (n : H a = none) : ResV K H W (upd H a (.tup vs)) (.pv (.tup ps)) (.ref a) :=
  ⟨a, vs, rfl, upd_same, issNew' m h n⟩
theorem qe_tup {k : Nat} (h : QA X es tr) : QE X (.Tuple es k pos) (qTup tr) := by
  obtain ⟨t, p, q⟩ := h.ex
  refine ⟨_, pe_tup p, fun G H σ ρ pd Q F R1 hw f => ?_⟩
  refine q G H σ ρ pd _ _ R1 hw fun rs ρ1 pd1 vs H1 sb R2 a g => ?_
  cases e : vals rs with
  | none => rw [e] at g; exact g.elim
  | some ps =>
    rw [e] at g
    have hi := vals_iss R2 a e
    exact ⟨by rw [← hi.length]; exact g.1, fun p hp => f _ ρ1 _ _ (res_of (R2.pds sb) (same_new hp) (resTup R2.mut hi hp)) g.2⟩
theorem qe_lst (h : QA X es tr) : QE X (.List es pos) (qLst tr) := by
  obtain ⟨t, p, q⟩ := h.ex
  refine ⟨_, pe_lst p, fun G H σ ρ pd Q F R1 hw f => ?_⟩
  refine q G H σ ρ pd _ _ R1 hw fun rs ρ1 pd1 vs H1 sb R2 a g => ?_
  cases e : vals rs with
  | none => rw [e] at g; exact g.elim
  | some ps =>
    rw [e] at g
    have hi := vals_iss R2 a e
    exact ⟨by rw [← hi.length]; exact g.1, fun p hp => f _ ρ1 _ _ (res_of (R2.pds sb) (same_new hp) (resLst R2.mut hi hp)) g.2⟩

/-! ### calls of built-ins -/
def qCB (g : GL) (t : QTA) (ρ : En) (Q : PK1) : Prop := t ρ fun rs ρ1 => match looks ρ1 rs with
  | some ps => g ps fun z => Q z ρ1
  | none => False
theorem rz_cb {K : PySem.W.Frag} {r : List V → Hp → VK → Prop} {g : GL} {t : TA} {q : QTA} (hr : RealL K r g) (h : RzA K t q) : Rz K (tCB r t) (qCB g q) := by
  intro G H σ ρ pd Q F R1 hw f
  refine h G H σ ρ pd _ _ R1 hw fun rs ρ1 pd1 vs H1 sb R2 a g1 => ?_
  cases e : looks ρ1 rs with
  | none => rw [e] at g1; exact g1.elim
  | some ps =>
    rw [e] at g1
    exact hr H1 _ ps vs _ F R2.mut (a.lks R2 e) g1 fun v H' z sm rv hq => f z ρ1 v H' (res_of (R2.pds sb) sm rv) hq
theorem qe_callB {id : String} {x : Str} {p : Pos} {g : GL} (hc : CallP X (.builtin id) g) (hm : X.mg x = none) (ha : QA X (e :: es) tr) (hg : Gl X x := by rfl) (hv : bootBuiltins x = some (.builtin id) := by decide +kernel) (hn : x ≠ "__name__" := by decide) (hdb : (x == ("__debug__" : Str)) = false := by decide)
    (he : starEach (e :: es) X.env = (false, eval e X.env) :: starEach es X.env := by rfl) (hpl : (backTo pos (starEach es X.env)).any (·.1) = false := by rfl) : QE X (.Call (.Name x p) (e :: es) [] pos) (qCB g tr) := by
  obtain ⟨r, h1, h2⟩ := hc
  obtain ⟨t, p1, q⟩ := ha.ex
  exact ⟨_, pe_callB h1 hg hm hv p1 hn hdb he hpl, rz_cb h2 q⟩
theorem qe_callTy {T : String} {x : Str} {p : Pos} {g : GL} (hc : CallP X (.type T) g) (hm : X.mg x = none) (ha : QA X (e :: es) tr) (hg : Gl X x := by rfl) (hv : bootBuiltins x = some (.type T) := by decide +kernel) (hn : x ≠ "__name__" := by decide) (hdb : (x == ("__debug__" : Str)) = false := by decide)
    (he : starEach (e :: es) X.env = (false, eval e X.env) :: starEach es X.env := by rfl) (hpl : (backTo pos (starEach es X.env)).any (·.1) = false := by rfl) : QE X (.Call (.Name x p) (e :: es) [] pos) (qCB g tr) := by
  obtain ⟨r, h1, h2⟩ := hc
  obtain ⟨t, p1, q⟩ := ha.ex
  exact ⟨_, pe_callTy h1 hg hm hv p1 hn hdb he hpl, rz_cb h2 q⟩
end
end Px
namespace Px
open PySem L2

/-! ### tests -/
/-- both ways -/
def Br (c : Bool) (A B : Prop) : Prop := (c = true → A) ∧ (c = false → B)
theorem br_t {A B : Prop} : Br true A B ↔ A := ⟨fun h => h.1 rfl, fun h => ⟨fun _ => h, fun z => nomatch z⟩⟩
theorem br_f {A B : Prop} : Br false A B ↔ B := ⟨fun h => h.2 rfl, fun h => ⟨fun z => (nomatch z), fun _ => h⟩⟩
theorem Br.go {c : Bool} {A B C D : Prop} (h : Br c A B) (f : A → C) (g : B → D) : Br c C D := ⟨fun e => f (h.1 e), fun e => g (h.2 e)⟩
def truG : PV → (Bool → Prop) → Prop
  | .non, Q => Q false
  | .bl b, Q => Q b
  | .int i, Q => Q (i != 0)
  | .str s, Q => small s.length ∧ Q ((s.length : Int) != 0)
  | .tup ps, Q => Q (!ps.isEmpty)
  | .lst ps, Q => Q (!ps.isEmpty)
  | _, _ => False
theorem iss_empty {K : PySem.W.Frag} {H : Hp} {W : Addr → Prop} {ps : List PV} {vs : List V} (h : Iss K H W ps vs) : vs.isEmpty = ps.isEmpty := by
  cases ps with
  | nil => cases (show vs = [] from h); rfl
  | cons p ps => obtain ⟨v, r, e, _⟩ := h; subst e; rfl
theorem tru_of {K : PySem.W.Frag} {H : Hp} {W : Addr → Prop} {p : PV} {v : V} {Q : Bool → Prop} (h : Lk K H W p v) (q : truG p Q) : ∃ k, TruV K v H k ∧ Q k := by
  cases p with
  | non => cases (show v = .non from h); exact ⟨false, rfl, q⟩
  | bl b => cases (show v = .bl b from h); exact ⟨b, rfl, q⟩
  | int i => cases (show v = .int i from h); exact ⟨_, rfl, q⟩
  | str s =>
    obtain ⟨e, _⟩ : v = .str s ∧ sOk s = true := h
    subst e
    exact ⟨_, ⟨q.1, rfl⟩, q.2⟩
  | tup ps =>
    obtain ⟨a, vs, e, r, i⟩ : ∃ a vs, v = .ref a ∧ H a = some (.tup vs) ∧ Iss K H W ps vs := h
    subst e
    exact ⟨_, .inr (.inl ⟨vs, .inl (.inl r), rfl⟩), by rw [iss_empty i]; exact q⟩
  | lst ps =>
    obtain ⟨a, vs, e, r, i⟩ := h
    subst e
    exact ⟨_, .inl ⟨vs, .inl (.inl r), rfl⟩, by rw [iss_empty i]; exact q⟩
  | dic ks ps => exact q.elim
  | scr ns => exact q.elim
  | ty n => exact q.elim
  | nst t c s => exact q.elim
def qTru (t : QT) (ρ : En) (Q : Bool → En → Prop) : Prop := t ρ fun r ρ1 => match r.look ρ1 with
  | some p => truG p fun b => Q b ρ1
  | none => False
section
variable {X : Cx} {a b c e : Expr} {es rest : List Expr} {ta tb tc te : QT} {tt tu : QTT} {tr : QTA} {pos : Pos}
/-- r.look, kept -/
theorem Res.lk {K : PySem.W.Frag} {G : Gd} {H : Hp} {σ : L2.St} {ρ : En} {pd : Pds} {r : R} {v : V} {p : PV} (h : Res K G H σ ρ pd r v) (l : r.look ρ = some p) : Lk K H (WS G σ ρ) p v := by
  obtain ⟨pd', _, R1, a⟩ := h.arg
  exact a.lk R1 (by rw [look_wk]; exact l)
theorem Res.re {K : PySem.W.Frag} {G : Gd} {H : Hp} {σ : L2.St} {ρ : En} {pd : Pds} {r : R} {v : V} (h : Res K G H σ ρ pd r v) : RE K G H σ ρ pd := by
  obtain ⟨pd', s, R1, a⟩ := h.arg
  exact R1.pds s
theorem qc_tru (ha : QE X a ta) (he : ∀ whole, isTrue a X.env whole = (do let v ← whole; standAt a.pos; holding [v] (truthy v)) := by intro _; rfl) : QC X a (qTru ta) := by
  obtain ⟨t1, p1, q1⟩ := ha.ex
  refine ⟨_, pt_truth p1 he, fun G H σ ρ pd Q F R1 h f => ?_⟩
  refine q1 G H σ ρ pd _ _ R1 h fun r ρ' v H' s hq => ?_
  cases e : r.look ρ' with
  | none => rw [e] at hq; exact hq.elim
  | some p =>
    rw [e] at hq
    obtain ⟨k, t, q⟩ := tru_of (s.lk e) hq
    exact ⟨k, t, f k ρ' H' s.re q⟩
def qAnd (t u : QTT) (ρ : En) (Q : Bool → En → Prop) : Prop := t ρ fun c ρ1 => Br c (u ρ1 Q) (Q false ρ1)
def qOr (t u : QTT) (ρ : En) (Q : Bool → En → Prop) : Prop := t ρ fun c ρ1 => Br c (Q true ρ1) (u ρ1 Q)
def qNot (t : QTT) (ρ : En) (Q : Bool → En → Prop) : Prop := t ρ fun c ρ1 => Q (!c) ρ1
theorem QW.qc (h : QW X e tt) : QC X e tt := by
  obtain ⟨t, p, q⟩ := h.ex
  exact ⟨t, p.pt, q⟩
theorem qw_and1 (ha : QC X a tt) : QW X (.BoolOp .And [a] pos) tt := by
  obtain ⟨t, p, q⟩ := ha.ex
  exact ⟨t, pw_and1 p, q⟩
theorem qw_or1 (ha : QC X a tt) : QW X (.BoolOp .Or [a] pos) tt := by
  obtain ⟨t, p, q⟩ := ha.ex
  exact ⟨t, pw_or1 p, q⟩
theorem qw_and (ha : QC X a tt) (hb : QW X (.BoolOp .And (b :: rest) pos) tu) : QW X (.BoolOp .And (a :: b :: rest) pos) (qAnd tt tu) := by
  obtain ⟨t1, p1, q1⟩ := ha.ex
  obtain ⟨t2, p2, q2⟩ := hb.ex
  refine ⟨_, pw_and p1 p2, fun G H σ ρ pd Q F R1 h f => ?_⟩
  refine q1 G H σ ρ pd _ _ R1 h fun c ρ1 H1 R2 g => ?_
  cases c with
  | true => exact (q2 G H1 σ ρ1 pd Q F R2 (g.1 rfl) f : _)
  | false => exact f false ρ1 H1 R2 (g.2 rfl)
theorem qw_or (ha : QC X a tt) (hb : QW X (.BoolOp .Or (b :: rest) pos) tu) : QW X (.BoolOp .Or (a :: b :: rest) pos) (qOr tt tu) := by
  obtain ⟨t1, p1, q1⟩ := ha.ex
  obtain ⟨t2, p2, q2⟩ := hb.ex
  refine ⟨_, pw_or p1 p2, fun G H σ ρ pd Q F R1 h f => ?_⟩
  refine q1 G H σ ρ pd _ _ R1 h fun c ρ1 H1 R2 g => ?_
  cases c with
  | true => exact f true ρ1 H1 R2 (g.1 rfl)
  | false => exact (q2 G H1 σ ρ1 pd Q F R2 (g.2 rfl) f : _)
theorem qc_not (ha : QC X a tt) : QC X (.UnaryOp .Not a pos) (qNot tt) := by
  obtain ⟨t, p, q⟩ := ha.ex
  exact ⟨_, pt_not p, fun G H σ ρ pd Q F R1 h f => q G H σ ρ pd _ _ R1 h fun c ρ1 H1 R2 g => f (!c) ρ1 H1 R2 g⟩
/-- x and y, x or y, not x as values -/
def qAndV (t u : QT) (ρ : En) (Q : PK1) : Prop := t ρ fun r ρ1 => match r.look ρ1 with
  | some p => truG p fun c => Br c (u ρ1 Q) (Q r.wk ρ1)
  | none => False
def qOrV (t u : QT) (ρ : En) (Q : PK1) : Prop := t ρ fun r ρ1 => match r.look ρ1 with
  | some p => truG p fun c => Br c (Q r.wk ρ1) (u ρ1 Q)
  | none => False
def qNotV (t : QT) (ρ : En) (Q : PK1) : Prop := t ρ fun r ρ1 => match r.look ρ1 with
  | some p => truG p fun c => Q (.pv (.bl (!c))) ρ1
  | none => False
theorem qe_one {op : BoolOp} (h : QE X a ta) : QE X (.BoolOp op [a] pos) ta := by
  obtain ⟨t, p, q⟩ := h.ex
  exact ⟨t, pe_one p, q⟩
theorem qe_and (ha : QE X a ta) (hb : QE X (.BoolOp .And (b :: rest) pos) tb) : QE X (.BoolOp .And (a :: b :: rest) pos) (qAndV ta tb) := by
  obtain ⟨t1, p1, q1⟩ := ha.ex
  obtain ⟨t2, p2, q2⟩ := hb.ex
  refine ⟨_, pe_andT p1 p2, fun G H σ ρ pd Q F R1 h f => ?_⟩
  refine q1 G H σ ρ pd _ _ R1 h fun r ρ1 v H1 s g => ?_
  cases e : r.look ρ1 with
  | none => rw [e] at g; exact g.elim
  | some p =>
    rw [e] at g
    obtain ⟨k, tk, q⟩ := tru_of (s.lk e) g
    refine ⟨k, tk, ?_⟩
    cases k with
    | true => exact (q2 G H1 σ ρ1 pd Q F s.re (q.1 rfl) f : _)
    | false => exact f _ ρ1 v H1 s.wk (q.2 rfl)
theorem qe_or (ha : QE X a ta) (hb : QE X (.BoolOp .Or (b :: rest) pos) tb) : QE X (.BoolOp .Or (a :: b :: rest) pos) (qOrV ta tb) := by
  obtain ⟨t1, p1, q1⟩ := ha.ex
  obtain ⟨t2, p2, q2⟩ := hb.ex
  refine ⟨_, pe_orT p1 p2, fun G H σ ρ pd Q F R1 h f => ?_⟩
  refine q1 G H σ ρ pd _ _ R1 h fun r ρ1 v H1 s g => ?_
  cases e : r.look ρ1 with
  | none => rw [e] at g; exact g.elim
  | some p =>
    rw [e] at g
    obtain ⟨k, tk, q⟩ := tru_of (s.lk e) g
    refine ⟨k, tk, ?_⟩
    cases k with
    | true => exact f _ ρ1 v H1 s.wk (q.1 rfl)
    | false => exact (q2 G H1 σ ρ1 pd Q F s.re (q.2 rfl) f : _)
theorem qe_not (ha : QE X a ta) : QE X (.UnaryOp .Not a pos) (qNotV ta) := by
  obtain ⟨t1, p1, q1⟩ := ha.ex
  refine ⟨_, pe_notT p1, fun G H σ ρ pd Q F R1 h f => ?_⟩
  refine q1 G H σ ρ pd _ _ R1 h fun r ρ1 v H1 s g => ?_
  cases e : r.look ρ1 with
  | none => rw [e] at g; exact g.elim
  | some p =>
    rw [e] at g
    obtain ⟨k, tk, q⟩ := tru_of (s.lk e) g
    exact ⟨k, tk, f (.pv (.bl (!k))) ρ1 _ H1 (s.re.push rfl) q⟩
def qIfE (t : QTT) (ta tb : QT) (ρ : En) (Q : PK1) : Prop := t ρ fun c ρ1 => Br c (ta ρ1 Q) (tb ρ1 Q)
theorem qe_ifExp (hc : QC X c tt) (ha : QE X a ta) (hb : QE X b tb) : QE X (.IfExp c a b pos) (qIfE tt ta tb) := by
  obtain ⟨t, p, q⟩ := hc.ex
  obtain ⟨t1, p1, q1⟩ := ha.ex
  obtain ⟨t2, p2, q2⟩ := hb.ex
  refine ⟨_, pe_ifExp p p1 p2, fun G H σ ρ pd Q F R1 h f => ?_⟩
  refine q G H σ ρ pd _ _ R1 h fun c ρ1 H1 R2 g => ?_
  cases c with
  | true => exact (q1 G H1 σ ρ1 pd Q F R2 (g.1 rfl) f : _)
  | false => exact (q2 G H1 σ ρ1 pd Q F R2 (g.2 rfl) f : _)

/-! ### slices -/
abbrev QTO := En → (Option Int → En → Prop) → Prop
structure QO (X : Cx) (e : Option Expr) (t : QTO) : Prop where
  ex : ∃ tO, PO X e tO ∧ ∀ (G : Gd) (H : Hp) (σ : L2.St) (ρ : En) (pd : Pds) (Q : Option Int → En → Prop) (F : Option Int → Hp → Prop), RE X.K G H σ ρ pd → t ρ Q → (∀ o ρ' H', RE X.K G H' σ ρ' pd → Q o ρ' → F o H') → tO σ H F
def qNo (ρ : En) (Q : Option Int → En → Prop) : Prop := Q none ρ
def qPart (t : QT) (ρ : En) (Q : Option Int → En → Prop) : Prop := t ρ fun r ρ1 => match r with
  | .pv (.int i) => Q (some i) ρ1
  | _ => False
theorem qo_none : QO X none qNo := ⟨_, po_none, fun G H σ ρ pd Q F R1 h f => f none ρ H R1 h⟩
theorem qo_some (h : QE X e te) : QO X (some e) (qPart te) := by
  obtain ⟨t, p, q⟩ := h.ex
  refine ⟨_, po_some p, fun G H σ ρ pd Q F R1 h f => ?_⟩
  refine q G H σ ρ pd _ _ R1 h fun r ρ1 v H1 s g => ?_
  cases r with
  | pv p =>
    cases p with
    | int i =>
      have e : v = .int i := s.pd (.int i, v) List.mem_cons_self
      exact ⟨i, e, f (some i) ρ1 H1 s.re g⟩
    | _ => exact g.elim
  | _ => exact g.elim
abbrev GS := PV → Option Int → Option Int → (R → Prop) → Prop
def RealS (K : PySem.W.Frag) (r : V → Option Int → Option Int → Hp → VK → Prop) (g : GS) : Prop := ∀ (H : Hp) (W : Addr → Prop) (p : PV) (x : V) (lo hi : Option Int) (Q : R → Prop) (F : VK), MutT H W → Lk K H W p x → g p lo hi Q → (∀ v H' z, Same H H' → ResV K H W H' z v → Q z → F v H') → r x lo hi H F
def SlP (X : Cx) (g : GS) : Prop := ∃ r, SlR X r ∧ RealS X.K r g
def cutP {α : Type} (xs : List α) (lo hi : Option Int) : List α := (xs.drop (HT.sIx xs.length 0 lo)).take (HT.sIx xs.length xs.length hi - HT.sIx xs.length 0 lo)
theorem Iss.cut {K : PySem.W.Frag} {H : Hp} {W : Addr → Prop} {ps : List PV} {vs : List V} (h : Iss K H W ps vs) (lo hi : Option Int) : Iss K H W (cutP ps lo hi) (cutV vs lo hi) := by
  unfold cutP cutV
  rw [h.length]
  exact (h.drop _).take _
def gSl : GS
  | .tup ps, lo, hi, Q => Q (.pv (.tup (cutP ps lo hi)))
  | .lst ps, lo, hi, Q => Q (.fr (.lst (cutP ps lo hi)))
  | _, _, _, _ => False
theorem cut_whole {α : Type} (xs : List α) (lo hi : Option Int) (h : HT.sIx xs.length 0 lo = 0 ∧ HT.sIx xs.length xs.length hi = xs.length) : cutP xs lo hi = xs := by
  unfold cutP
  rw [h.1, h.2]
  simp
theorem sl_seq : SlP X gSl := by
  refine ⟨_, SlR.or sl_tupA sl_list, fun H W p x lo hi Q F m l g f => ?_⟩
  cases p with
  | tup ps =>
    obtain ⟨a, vs, e, r, i⟩ : ∃ a vs, x = .ref a ∧ H a = some (.tup vs) ∧ Iss X.K H W ps vs := l
    subst e
    refine .inl ⟨a, vs, rfl, .inl (.inl r), fun wh => ?_, fun _ p hp => f _ _ _ (same_new hp) (resTup m (i.cut lo hi) hp) g⟩
    refine f _ H (.pv (.tup (cutP ps lo hi))) (Same.refl H) ?_ g
    rw [cut_whole ps lo hi (by rw [i.length]; exact wh)]
    exact ⟨a, vs, rfl, r, i⟩
  | lst ps =>
    obtain ⟨a, vs, e, r, i⟩ := l
    subst e
    exact .inr ⟨a, vs, rfl, .inl (.inl r), fun p hp => f _ _ _ (same_new hp) (resLst m (i.cut lo hi) hp) g⟩
  | _ => exact g.elim
def qSl (g : GS) (t : QT) (tl th : QTO) (ρ : En) (Q : PK1) : Prop := t ρ fun r ρ1 => tl ρ1 fun l ρ2 => th ρ2 fun u ρ3 => match r.look ρ3 with
  | some p => g p l u fun z => Q z ρ3
  | none => False
theorem qe_slice {g : GS} {lo hi : Option Expr} {tl th : QTO} {p2 : Pos} (hr : SlP X g) (he : QE X e te) (hl : QO X lo tl) (hu : QO X hi th) : QE X (.Subscript e (.Slice lo hi none p2) pos) (qSl g te tl th) := by
  obtain ⟨r, h1, h2⟩ := hr
  obtain ⟨t1, p1, q1⟩ := he.ex
  obtain ⟨t3, p3, q3⟩ := hl.ex
  obtain ⟨t4, p4, q4⟩ := hu.ex
  refine ⟨_, pe_slice h1 p1 p3 p4, fun G H σ ρ pd Q F R1 h f => ?_⟩
  refine q1 G H σ ρ pd _ _ R1 h fun r ρ1 v H1 s g1 => ?_
  obtain ⟨pd1, sb, R2, a1⟩ := s.arg
  refine q3 G H1 σ ρ1 pd1 _ _ R2 g1 fun l ρ2 H2 R3 g2 => ?_
  refine q4 G H2 σ ρ2 pd1 _ _ R3 g2 fun u ρ3 H3 R4 g3 => ?_
  cases e : r.look ρ3 with
  | none => rw [e] at g3; exact g3.elim
  | some p =>
    rw [e] at g3
    exact h2 H3 _ p v l u _ F R4.mut (a1.lk R4 (by rw [look_wk]; exact e)) g3 fun v' H' z sm rv hq => f z ρ3 v' H' (res_of (R4.pds sb) sm rv) hq
end
end Px
namespace Px
open PySem L2 PySem.Spec PyProof.Rows
/-! ### dicts whose keys are ints and texts -/
def keyP : PV → Option Key
  | .int i => some (.inl i)
  | .str s => some (.inr s)
  | _ => none
def keyV : Key → PV
  | .inl i => .int i
  | .inr s => .str s
theorem keyP_is {K : PySem.W.Frag} {H : Hp} {W : Addr → Prop} {p : PV} {v : V} {k : Key} (h : Is K H W p v) (e : keyP p = some k) : v = kV k ∧ keyOk k = true := by
  cases p with
  | int i => cases e; cases (show v = .int i from h); exact ⟨rfl, rfl⟩
  | str s => cases e; obtain ⟨e1, o⟩ : v = .str s ∧ sOk s = true := h; subst e1; exact ⟨rfl, o⟩
  | _ => cases e
theorem keyV_is {K : PySem.W.Frag} {H : Hp} {W : Addr → Prop} {k : Key} (h : keyOk k = true) : Is K H W (keyV k) (kV k) := by
  cases k with
  | inl i => exact rfl
  | inr s => exact ⟨rfl, h⟩
/-- what stands at a key -/
def getD {α : Type} : List Key → List α → Key → Option α
  | k :: ks, p :: ps, j => if k = j then some p else getD ks ps j
  | _, _, _ => none
def hasK (ks : List Key) (j : Key) : Bool := ks.any fun k => decide (k = j)
def putKs (ks : List Key) (j : Key) : List Key := if hasK ks j = true then ks else ks ++ [j]
def putPs {α : Type} (ks : List Key) (ps : List α) (j : Key) (q : α) : List α := if hasK ks j = true then List.zipWith (fun k p => if k = j then q else p) ks ps else ps ++ [q]
theorem getD_val : ∀ {ks : List Key} {vs : List V} {j : Key}, ks.length = vs.length → valV (ks.zip vs) j = getD ks vs j
  | [], [], _, _ => rfl
  | [], _ :: _, _, h => by simp at h
  | _ :: _, [], _, h => by simp at h
  | k :: ks, v :: vs, j, h => by
    rw [List.zip_cons_cons, getD]
    by_cases e : k = j
    · rw [if_pos e]; exact valV_pos (p := (k, v)) e
    · rw [if_neg e, valV_neg (p := (k, v)) e, getD_val (by simpa using h)]
theorem getD_is {K : PySem.W.Frag} {H : Hp} {W : Addr → Prop} : ∀ {ks : List Key} {ps : List PV} {vs : List V} {j : Key} {p : PV}, Iss K H W ps vs → getD ks ps j = some p → ∃ v, getD ks vs j = some v ∧ Is K H W p v
  | [], _, _, _, _, _, e => by cases e
  | _ :: _, [], _, _, _, _, e => by cases e
  | k :: ks, q :: ps, vs, j, p, h, e => by
    obtain ⟨v, r, e1, h1, h2⟩ := h
    subst e1
    rw [getD] at e ⊢
    by_cases z : k = j
    · rw [if_pos z] at e ⊢; cases e; exact ⟨v, rfl, h1⟩
    · rw [if_neg z] at e ⊢; exact getD_is h2 e
theorem getD_no {K : PySem.W.Frag} {H : Hp} {W : Addr → Prop} : ∀ {ks : List Key} {ps : List PV} {vs : List V} {j : Key}, Iss K H W ps vs → getD ks ps j = none → getD ks vs j = none
  | [], _, _, _, _, _ => rfl
  | _ :: _, [], vs, _, h, _ => by cases (show vs = [] from h); rfl
  | k :: ks, q :: ps, vs, j, h, e => by
    obtain ⟨v, r, e1, h1, h2⟩ := h
    subst e1
    rw [getD] at e ⊢
    by_cases z : k = j
    · rw [if_pos z] at e; cases e
    · rw [if_neg z] at e ⊢; exact getD_no h2 e
theorem getD_some_is {K : PySem.W.Frag} {H : Hp} {W : Addr → Prop} {ks : List Key} {ps : List PV} {vs : List V} {j : Key} (h : Iss K H W ps vs) : (getD ks vs j).isSome = (getD ks ps j).isSome := by
  cases e : getD ks ps j with
  | none => rw [getD_no h e]; rfl
  | some p => obtain ⟨v, e2, _⟩ := getD_is h e; rw [e2]; rfl
theorem any_mem {ks : List Key} {vs : List V} {j : Key} (h : ks.length = vs.length) : ((ks.zip vs).any fun kv => decide (kv.1 = j)) = hasK ks j := by
  induction ks generalizing vs with
  | nil => simp [hasK]
  | cons k ks ih =>
    cases vs with
    | nil => simp at h
    | cons v vs =>
      rw [List.zip_cons_cons, List.any_cons, ih (by simpa using h)]; rfl
theorem put_zip {ks : List Key} {vs : List V} {j : Key} {v : V} (h : ks.length = vs.length) : putK (ks.zip vs) j v = (putKs ks j).zip (putPs ks vs j v) ∧ (putKs ks j).length = (putPs ks vs j v).length := by
  unfold putK putKs putPs
  rw [any_mem h]
  by_cases m : hasK ks j = true
  · rw [if_pos m, if_pos m, if_pos m]
    refine ⟨?_, by rw [List.length_zipWith, h, Nat.min_self]⟩
    clear m
    induction ks generalizing vs with
    | nil => rfl
    | cons k ks ih =>
      cases vs with
      | nil => simp at h
      | cons u vs =>
        rw [List.zip_cons_cons, List.map_cons, List.zipWith_cons_cons, List.zip_cons_cons, ih (by simpa using h)]
        by_cases e : k = j
        · simp only [e, if_true]
        · simp only [e, if_false]
  · rw [if_neg m, if_neg m, if_neg m]
    refine ⟨?_, by simp [h]⟩
    rw [List.zip_append h]; rfl
theorem putPs_is {K : PySem.W.Frag} {H : Hp} {W : Addr → Prop} {ks : List Key} {ps : List PV} {vs : List V} {j : Key} {q : PV} {v : V} (h : Iss K H W ps vs) (hq : Is K H W q v) : Iss K H W (putPs ks ps j q) (putPs ks vs j v) := by
  unfold putPs
  by_cases m : hasK ks j = true
  · rw [if_pos m, if_pos m]
    clear m
    induction ks generalizing ps vs with
    | nil => exact rfl
    | cons k ks ih =>
      cases ps with
      | nil => cases (show vs = [] from h); exact rfl
      | cons p ps =>
        obtain ⟨u, r, e, h1, h2⟩ := h
        subst e
        refine ⟨_, _, rfl, ?_, ih h2⟩
        by_cases e : k = j
        · simp only [e, if_true]; exact hq
        · simp only [e, if_false]; exact h1
  · rw [if_neg m, if_neg m]
    exact Iss.append h (Iss.cons hq Iss.nil)
theorem putKs_ok {ks : List Key} {j : Key} (h : ks.all keyOk = true) (hj : keyOk j = true) : (putKs ks j).all keyOk = true := by
  unfold putKs
  split
  · exact h
  · rw [List.all_append, h]; simp [hj]
theorem putKs_len (ks : List Key) (j : Key) : (putKs ks j).length ≤ ks.length + 1 := by
  unfold putKs
  split
  · omega
  · simp
theorem zip_len {ks : List Key} {vs : List V} (h : ks.length = vs.length) : (ks.zip vs).length = ks.length := by rw [List.length_zip, h, Nat.min_self]
theorem zip_ne {ks : List Key} {vs : List V} (h : ks.length = vs.length) : (ks.zip vs).isEmpty = ks.isEmpty := by
  cases ks with
  | nil => rfl
  | cons k ks => cases vs with
    | nil => simp at h
    | cons v vs => rfl
section
variable {X : Cx}
/-- d[k], there -/
def rIxD : R2 := fun x y H Q => ∃ a kvs k v, x = .ref a ∧ Rd H a (.dK kvs) ∧ y = kV k ∧ valV kvs k = some v ∧ Q v H
theorem ix_dict : IxR X rIxD := by
  intro value slice pins s σ H x y v u Q I rx ry h hs
  obtain ⟨a, kvs, k, z, rfl, hd, rfl, l, q⟩ := h
  cases rx
  obtain ⟨zl, hb, vs, rel, dd⟩ := dk_rd I.hok hd
  obtain ⟨w', hw, rw'⟩ := RelO.some_of (v := z) (o := valueAt vs k) (by rw [← l]; exact rel.val k)
  exact tail_any dd.typeIs PySem.F.slot_dict_getitem.lookup (wpAny_getItem_of (kV_is ry) dd.mapOf hw ⟨z, H, I.tok _, rw', q⟩) hs
def rInK (neg : Bool) : R2 := fun x y H Q => ∃ a kvs k, y = .ref a ∧ Rd H a (.dK kvs) ∧ x = kV k ∧ Q (.bl (neg != (valV kvs k).isSome)) H
theorem op_inK (hu : X.A.units + 65 < cLine) : OpR X (compareOp .In) (rInK false) := by
  intro pins s σ H x y v u Q I rx ry h
  obtain ⟨a, kvs, k, rfl, hd, rfl, q⟩ := h
  cases ry
  refine d_in (by omega) I (y := kV k) (o := valV kvs k) (.inl ⟨kvs, k, hd, rfl, rfl⟩) rx fun s' I' => ⟨.bl _, H, I', rfl, ?_⟩
  cases e : (valV kvs k).isSome <;> rw [e] at q <;> exact q
theorem op_notInK (hu : X.A.units + 65 < cLine) : OpR X (compareOp .NotIn) (rInK true) := by
  intro pins s σ H x y v u Q I rx ry h
  obtain ⟨a, kvs, k, rfl, hd, rfl, q⟩ := h
  cases ry
  refine d_notIn (by omega) I (y := kV k) (o := valV kvs k) (.inl ⟨kvs, k, hd, rfl, rfl⟩) rx fun s' I' => ⟨.bl _, H, I', rfl, ?_⟩
  cases e : (valV kvs k).isSome <;> rw [e] at q <;> exact q
/-- d[k] = v -/
def rSetD : V → V → V → Hp → (Hp → Prop) → Prop := fun o i v H Q => ∃ a kvs k, o = .ref a ∧ i = kV k ∧ H a = some (.dK kvs) ∧ kvs.length < sizeLine ∧ Q (upd H a (.dK (putK kvs k v)))
theorem set_dict (hu : X.A.units + 65 < cLine) : PSet X rSetD := by
  intro pins s σ H o i v ov iv u Q I ro ri rv h
  obtain ⟨a, kvs, k, rfl, rfl, hd, hl, q⟩ := h
  cases ro
  exact d_setItem (by omega) I (DPut.k (k := k) hd hl) ri rv fun s' I' => ⟨_, I', q⟩
theorem PSet.or {t t' : TSet} (h : PSet X t) (h' : PSet X t') : PSet X (fun o i v H Q => t o i v H Q ∨ t' o i v H Q) := by
  intro pins s σ H o i v ov iv u Q I ro ri rv q
  rcases q with q | q
  · exact h pins s σ H o i v ov iv u Q I ro ri rv q
  · exact h' pins s σ H o i v ov iv u Q I ro ri rv q
def rLenK : List V → Hp → VK → Prop := fun xs H Q => ∃ a kvs, xs = [V.ref a] ∧ Rd H a (.dK kvs) ∧ Q (.int (kvs.length : Nat)) H
theorem call_lenK : CallR X (.builtin "len") rLenK := by
  intro pins s σ H xs us Q I r h
  obtain ⟨a, kvs, rfl, ha, q⟩ := h
  obtain ⟨u, rfl, ru⟩ := vals1 r
  cases ru
  exact d_len I ha fun t s' I' => ⟨.int kvs.length, H, I', ⟨t, rfl⟩, q⟩
end
end Px
namespace Px
open PySem L2 PySem.Spec PyProof.Rows
section
variable {X : Cx}
/-- x in t, t a tuple of data -/
def rInTD (K : PySem.W.Frag) (neg : Bool) : R2 := fun x y H Q => ∃ d ds, Dp K H x d ∧ Dp K H y (.tuple ds) ∧ SeqAt.shaped d = true ∧ SeqAt.shaped (.tuple ds) = true ∧ Q (.bl (neg != ds.any fun z => PyData.eqv z d)) H
theorem op_inTD (hu : X.A.units + 65 < cLine) : OpR X (compareOp .In) (rInTD X.K false) := by
  intro pins s σ H x y v u Q I rx ry h
  obtain ⟨d, ds, hd, he, sd, se, q⟩ := h
  obtain ⟨as, r1⟩ := Dp.reads I d x v hd rx; obtain ⟨bs, r2⟩ := Dp.reads I (.tuple ds) y u he ry
  refine SeqAt.in_tuple_reads r2 r1 (SeqAt.canLay_of_shaped se) (SeqAt.canLay_of_shaped sd) (room_in_shaped sd hu) ⟨.bl _, H, I, rfl, ?_⟩
  cases e : (ds.any fun z => PyData.eqv z d) <;> rw [e] at q <;> exact q
theorem op_notInTD (hu : X.A.units + 65 < cLine) : OpR X (compareOp .NotIn) (rInTD X.K true) := by
  intro pins s σ H x y v u Q I rx ry h
  obtain ⟨d, ds, hd, he, sd, se, q⟩ := h
  obtain ⟨as, r1⟩ := Dp.reads I d x v hd rx; obtain ⟨bs, r2⟩ := Dp.reads I (.tuple ds) y u he ry
  refine SeqAt.notIn_tuple_reads r2 r1 (SeqAt.canLay_of_shaped se) (SeqAt.canLay_of_shaped sd) (room_in_shaped sd hu) ⟨.bl _, H, I, rfl, ?_⟩
  cases e : (ds.any fun z => PyData.eqv z d) <;> rw [e] at q <;> exact q
end
end Px
namespace Px
open PySem L2 PyProof.Rows

theorem Res.pds {K : PySem.W.Frag} {G : Gd} {H : Hp} {σ : L2.St} {ρ : En} {pd pd' : Pds} {r : R} {v : V} (s : ∀ x ∈ pd', x ∈ pd) (h : Res K G H σ ρ pd r v) : Res K G H σ ρ pd' r v := by
  cases r with
  | pv p =>
    refine RE.pds h (fun x hx => ?_)
    rcases List.mem_cons.mp hx with e | hx
    · rw [e]; exact List.mem_cons_self
    · exact List.mem_cons_of_mem _ (s x hx)
  | sl i => exact ⟨h.1.pds s, h.2⟩
  | fr p =>
    obtain ⟨a, o, e, n, kx, R1, q⟩ := h
    exact ⟨a, o, e, n, kx, R1.pds s, q⟩

/-! ### one reading for many contexts -/
theorem QE.all {ι : Type} {X : ι → Cx} {e : Expr} {t : QT} {K : PySem.W.Frag} (hK : ∀ c, (X c).K = K) (h : ∀ c, QE (X c) e t) : ∃ te, (∀ c, PE (X c) e te) ∧ Rz K te t := by
  refine ⟨fun σ H F => ∀ c, (Classical.choose (h c).ex) σ H F, fun c => ⟨fun pins s σ H Q I hw => (Classical.choose_spec (h c).ex).1.run pins s σ H Q I (hw c)⟩, fun G H σ ρ pd Q F R1 hq f c => ?_⟩
  have z : Rz (X c).K (Classical.choose (h c).ex) t := (Classical.choose_spec (h c).ex).2
  exact z G H σ ρ pd Q F (by rw [hK c]; exact R1) hq (by rw [hK c]; exact f)

/-! ### what is walked -/
structure Wk (K : PySem.W.Frag) (J : It) (ps : List PV) (pd1 : Pds) (kp : Hp) : Prop where
  item : ∀ (G : Gd) (H : Hp) (σ : L2.St) (ρ : En) (pd : Pds) (i : Nat) (p : PV), (∀ x ∈ pd1, x ∈ pd) → (∀ b o, kp b = some o → G.keep b = some o) → RE K G H σ ρ pd → ps[i]? = some p → J.go i H ∧ ∀ x H', J.yld i H x H' → RE K G H' σ ρ ((p, x) :: pd)
  stop : ∀ (G : Gd) (H : Hp) (σ : L2.St) (ρ : En) (pd : Pds) (i : Nat), (∀ x ∈ pd1, x ∈ pd) → (∀ b o, kp b = some o → G.keep b = some o) → RE K G H σ ρ pd → ps.length ≤ i → J.stop i H
abbrev QTI := En → (List PV → En → Prop) → Prop
def RzI (K : PySem.W.Frag) (wi : TI) (t : QTI) : Prop := ∀ (G : Gd) (H : Hp) (σ : L2.St) (ρ : En) (pd : Pds) (Q : List PV → En → Prop) (F : It → Hp → Prop), RE K G H σ ρ pd → t ρ Q →
    (∀ J ps ρ' pd1 H', (∀ x ∈ pd, x ∈ pd1) → RE K G H' σ ρ' pd1 → Wk K J ps pd1 G.keep → Q ps ρ' → F J H') → wi σ H F
structure QI (X : Cx) (tg iter : Expr) (t : QTI) : Prop where
  ex : ∃ wi, PI X tg iter wi ∧ RzI X.K wi t
section
variable {X : Cx} {tg e a b : Expr} {es : List Expr} {te : QT} {tr : QTA}
/-- a list, a tuple or a text, whichever comes -/
def iSeq (K : PySem.W.Frag) (te : TE) : TI := fun σ H R => te σ H fun x H1 => (∃ a, x = .ref a ∧ (∃ xs, SqL K H1 a xs) ∧ R (Itl K a) H1) ∨ (∃ a, x = .ref a ∧ (∃ xs, SqT K H1 a xs) ∧ R (Itt K a) H1) ∨ ∃ s, x = .str s ∧ R (Its s) H1
theorem pi_seq {te : TE} (hl : PE X e te) : PI X tg e (iSeq X.K te) := by
  refine ⟨fun pins s σ H R I h => ?_⟩
  refine thn (hl.run pins s σ H _ I h) fun v s1 ⟨x, H1, I1, r1, q1⟩ => ?_
  rcases q1 with q1 | q1 | q1
  · have z : PE X e (fun σ' H' Q => σ' = σ → True) → True := fun _ => trivial
    obtain ⟨a, e, ⟨xs, hq⟩, q⟩ := q1
    subst e
    cases r1
    obtain ⟨its, rv, p, hz⟩ := I1.list hq
    refine wpAny_pyIter_list p.isList ?_
    refine ⟨s1.heap.objs.size, [s1.heap.objs.size], _, _, H1, rfl, I1.kept (t' := s1.toks) fun b o e => Heap.get?_push_of_some _ e, turn_list a _, ⟨_, Heap.get?_push_size _ rfl, rfl, rfl⟩, fun b hb => ?_, q⟩
    have e : b = s1.heap.objs.size := by simpa using hb
    subst e
    exact I1.fpOk (Nat.le_refl _) (I1.hok.fresh (Nat.le_refl _))
  · obtain ⟨a, e, ⟨xs, hq⟩, q⟩ := q1
    subst e
    cases r1
    obtain ⟨its, rv, p, hz⟩ := I1.tuple hq
    refine wpAny_pyIter_tuple (show s1.heap.IsTuple a its.toArray from p) ?_
    refine ⟨s1.heap.objs.size, [s1.heap.objs.size], _, _, H1, rfl, I1.kept (t' := s1.toks) fun b o e => Heap.get?_push_of_some _ e, turn_tuple a _, ⟨_, Heap.get?_push_size _ rfl, rfl, rfl⟩, fun b hb => ?_, q⟩
    have e : b = s1.heap.objs.size := by simpa using hb
    subst e
    exact I1.fpOk (Nat.le_refl _) (I1.hok.fresh (Nat.le_refl _))
  · obtain ⟨y, e, q⟩ := q1
    subst e
    obtain ⟨t, rfl⟩ := r1
    cases ha : y.cps.all (· < 128)
    · exact wpAny_pyIter_wide ha (pi_one (tk := s1.toks) I1 _ (turn_str _ y t "str_iterator" (.inr rfl)) ⟨_, Heap.get?_push_size _ rfl, rfl, rfl⟩ q)
    · exact wpAny_pyIter_ascii ha (pi_one (tk := s1.toks) I1 _ (turn_str _ y t "str_ascii_iterator" (.inl rfl)) ⟨_, Heap.get?_push_size _ rfl, rfl, rfl⟩ q)
def chars (s : Str) : List PV := s.cps.toList.map fun c => PV.str ⟨#[c]⟩
theorem wk_list {kp : Hp} {K : PySem.W.Frag} {a : Addr} {ps : List PV} {pd : Pds} : Wk K (Itl K a) ps ((.lst ps, .ref a) :: pd) kp := by
  constructor
  · intro G H σ ρ pd' i p s _ R1 hp
    obtain ⟨b, vs, e, n, h, q⟩ : ∃ b vs, V.ref a = .ref b ∧ ¬ WS G σ ρ b ∧ H b = some (.lst vs) ∧ Iss K H (WS G σ ρ) ps vs := R1.pd _ (s _ List.mem_cons_self)
    cases e
    obtain ⟨v, hv, hi⟩ := q.getP hp
    refine ⟨⟨vs, v, .inl (.inl h), hv⟩, fun x H' y => ?_⟩
    obtain ⟨rfl, y⟩ := y
    have z := y vs (.inl (.inl h))
    rw [hv] at z; cases z
    exact R1.push hi
  · intro G H σ ρ pd' i s _ R1 hp
    obtain ⟨b, vs, e, n, h, q⟩ : ∃ b vs, V.ref a = .ref b ∧ ¬ WS G σ ρ b ∧ H b = some (.lst vs) ∧ Iss K H (WS G σ ρ) ps vs := R1.pd _ (s _ List.mem_cons_self)
    cases e
    exact ⟨vs, .inl (.inl h), by rw [← q.length]; exact hp⟩
theorem wk_tup {kp : Hp} {K : PySem.W.Frag} {a : Addr} {ps : List PV} {pd : Pds} : Wk K (Itt K a) ps ((.tup ps, .ref a) :: pd) kp := by
  constructor
  · intro G H σ ρ pd' i p s _ R1 hp
    obtain ⟨b, vs, e, h, q⟩ : ∃ b vs, V.ref a = .ref b ∧ H b = some (.tup vs) ∧ Iss K H (WS G σ ρ) ps vs := R1.pd _ (s _ List.mem_cons_self)
    cases e
    obtain ⟨v, hv, hi⟩ := q.getP hp
    refine ⟨⟨vs, v, .inl (.inl h), hv⟩, fun x H' y => ?_⟩
    obtain ⟨rfl, y⟩ := y
    have z := y vs (.inl (.inl h))
    rw [hv] at z; cases z
    exact R1.push hi
  · intro G H σ ρ pd' i s _ R1 hp
    obtain ⟨b, vs, e, h, q⟩ : ∃ b vs, V.ref a = .ref b ∧ H b = some (.tup vs) ∧ Iss K H (WS G σ ρ) ps vs := R1.pd _ (s _ List.mem_cons_self)
    cases e
    exact ⟨vs, .inl (.inl h), by rw [← q.length]; exact hp⟩
theorem sOk_one {s : Str} (h : sOk s = true) {i : Nat} {c : Nat} (e : s.cps[i]? = some c) : sOk ⟨#[c]⟩ = true := by
  have h1 : s.cps.all (· < 0x110000) = true := h
  have h2 : c < 0x110000 := by
    have := Array.all_eq_true.mp h1 i (by exact (Array.getElem?_eq_some_iff.mp e).1)
    rw [(Array.getElem?_eq_some_iff.mp e).2] at this
    simpa using this
  show (#[c] : Array Nat).all (· < 0x110000) = true
  simpa using h2
theorem wk_str {kp : Hp} {K : PySem.W.Frag} {s : Str} {pd : Pds} (hs : sOk s = true) : Wk K (Its s) (chars s) pd kp := by
  constructor
  · intro G H σ ρ pd' i p sb _ R1 hp
    unfold chars at hp
    rw [List.getElem?_map] at hp
    cases e : s.cps.toList[i]? with
    | none => rw [e] at hp; cases hp
    | some c =>
      rw [e] at hp; cases hp
      have e' : s.cps[i]? = some c := by rw [← e]; simp
      refine ⟨(Array.getElem?_eq_some_iff.mp e').1, fun x H' y => ?_⟩
      obtain ⟨rfl, d, y1, y2⟩ := y
      rw [e'] at y1; cases y1
      subst y2
      exact R1.push ⟨rfl, sOk_one hs e'⟩
  · intro G H σ ρ pd' i sb _ R1 hp
    unfold chars at hp
    show s.cps.size ≤ i
    simpa using hp
def qIt (t : QT) (ρ : En) (Q : List PV → En → Prop) : Prop := t ρ fun r ρ1 => match r.wk with
  | .pv (.lst ps) => Q ps ρ1
  | .pv (.tup ps) => Q ps ρ1
  | .pv (.str s) => Q (chars s) ρ1
  | .pv (.scr ns) => Q (ns.map PV.int) ρ1
  | _ => False
theorem wk_scr {kp : Hp} {K : PySem.W.Frag} {a : Addr} {ns : List Int} {pd : Pds} : Wk K (Itl K a) (ns.map PV.int) ((.scr ns, .ref a) :: pd) kp := by
  constructor
  · intro G H σ ρ pd' i p s _ R1 hp
    obtain ⟨b, e, q⟩ : ∃ b, V.ref a = .ref b ∧ ((∃ o, H b = some (.frz o (.lst (ns.map V.int)))) ∨ KLst K b (ns.map V.int)) := R1.pd _ (s _ List.mem_cons_self)
    cases e
    have sq : SqL K H a (ns.map V.int) := by
      rcases q with ⟨o, q⟩ | q
      · exact .inl (.inr ⟨o, q⟩)
      · exact .inr q
    rw [List.getElem?_map] at hp
    cases en : ns[i]? with
    | none => rw [en] at hp; cases hp
    | some n =>
      rw [en] at hp; cases hp
      have hv : (ns.map V.int)[i]? = some (.int n) := by rw [List.getElem?_map, en]; rfl
      refine ⟨⟨_, _, sq, hv⟩, fun x H' y => ?_⟩
      obtain ⟨rfl, y⟩ := y
      have z := y _ sq
      rw [hv] at z; cases z
      exact R1.push rfl
  · intro G H σ ρ pd' i s _ R1 hp
    obtain ⟨b, e, q⟩ : ∃ b, V.ref a = .ref b ∧ ((∃ o, H b = some (.frz o (.lst (ns.map V.int)))) ∨ KLst K b (ns.map V.int)) := R1.pd _ (s _ List.mem_cons_self)
    cases e
    have sq : SqL K H a (ns.map V.int) := by
      rcases q with ⟨o, q⟩ | q
      · exact .inl (.inr ⟨o, q⟩)
      · exact .inr q
    exact ⟨_, sq, by simpa using hp⟩
theorem qi_seq (h : QE X e te) : QI X tg e (qIt te) := by
  obtain ⟨t, p, q⟩ := h.ex
  refine ⟨_, pi_seq p, fun G H σ ρ pd Q F R1 hw f => ?_⟩
  refine q G H σ ρ pd _ _ R1 hw fun r ρ1 v H1 s g => ?_
  have s' := s.wk
  cases e1 : r.wk with
  | pv p =>
    rw [e1] at s' g
    have R2 : RE X.K G H1 σ ρ1 ((p, v) :: pd) := s'
    have hI := R2.pd (p, v) List.mem_cons_self
    cases p with
    | lst ps =>
      obtain ⟨a, vs, e2, n, h, i⟩ : ∃ a vs, v = .ref a ∧ ¬ WS G σ ρ1 a ∧ H1 a = some (.lst vs) ∧ Iss X.K H1 (WS G σ ρ1) ps vs := hI
      subst e2
      exact .inl ⟨a, rfl, ⟨vs, .inl (.inl h)⟩, f _ ps ρ1 _ H1 (fun x hx => List.mem_cons_of_mem _ hx) R2 wk_list g⟩
    | tup ps =>
      obtain ⟨a, vs, e2, h, i⟩ : ∃ a vs, v = .ref a ∧ H1 a = some (.tup vs) ∧ Iss X.K H1 (WS G σ ρ1) ps vs := hI
      subst e2
      exact .inr (.inl ⟨a, rfl, ⟨vs, .inl (.inl h)⟩, f _ ps ρ1 _ H1 (fun x hx => List.mem_cons_of_mem _ hx) R2 wk_tup g⟩)
    | str s =>
      obtain ⟨e2, ok⟩ : v = .str s ∧ sOk s = true := hI
      exact .inr (.inr ⟨s, e2, f _ (chars s) ρ1 pd H1 (fun x hx => hx) R2.tl (wk_str ok) g⟩)
    | scr ns =>
      obtain ⟨a, e2, q⟩ : ∃ a, v = .ref a ∧ ((∃ o, H1 a = some (.frz o (.lst (ns.map V.int)))) ∨ KLst X.K a (ns.map V.int)) := hI
      subst e2
      have sq : SqL X.K H1 a (ns.map V.int) := by
        rcases q with ⟨o, q⟩ | q
        · exact .inl (.inr ⟨o, q⟩)
        · exact .inr q
      exact .inl ⟨a, rfl, ⟨_, sq⟩, f _ (ns.map PV.int) ρ1 _ H1 (fun x hx => List.mem_cons_of_mem _ hx) R2 wk_scr g⟩
    | _ => exact g.elim
  | sl i => rw [e1] at g; exact g.elim
  | fr p => rw [e1] at g; exact g.elim
/-- range(n), range(a, b) -/
def rng (lo : Int) (n : Nat) : List PV := (List.range n).map fun k => PV.int (lo + (k : Nat))
theorem wk_rng {kp : Hp} {K : PySem.W.Frag} {lo : Int} {n : Nat} {pd : Pds} : Wk K (Itr lo n) (rng lo n) pd kp := by
  constructor
  · intro G H σ ρ pd' i p sb _ R1 hp
    unfold rng at hp
    rw [List.getElem?_map] at hp
    cases e : (List.range n)[i]? with
    | none => rw [e] at hp; cases hp
    | some c =>
      rw [e] at hp; cases hp
      have l : i < n := by have := (List.getElem?_eq_some_iff.mp e).1; simpa using this
      have ec : c = i := by rw [List.getElem?_range l] at e; cases e; rfl
      subst ec
      refine ⟨l, fun x H' y => ?_⟩
      obtain ⟨rfl, y⟩ := y
      subst y
      exact R1.push rfl
  · intro G H σ ρ pd' i sb _ R1 hp
    unfold rng at hp
    show n ≤ i
    simpa using hp
def rngOk (i : Int) : Prop := -(2 ^ 62) ≤ i ∧ i < 2 ^ 62
def qRng1 (t : QTA) (ρ : En) (Q : List PV → En → Prop) : Prop := t ρ fun rs ρ1 => match rs with
  | [.pv (.int n)] => rngOk n ∧ Q (rng 0 n.toNat) ρ1
  | _ => False
def qRng2 (t : QTA) (ρ : En) (Q : List PV → En → Prop) : Prop := t ρ fun rs ρ1 => match rs with
  | [.pv (.int a), .pv (.int b)] => (rngOk a ∧ rngOk b) ∧ Q (rng a (b - a).toNat) ρ1
  | _ => False
theorem qi_range1 {p pos : Pos} (hm : X.mg "range" = none) (ha : QA X [a] tr) (hg : Gl X "range" := by rfl) (hs : starEach [a] X.env = [(false, eval a X.env)] := by rfl) : QI X tg (.Call (.Name "range" p) [a] [] pos) (qRng1 tr) := by
  obtain ⟨t, p, q⟩ := ha.ex
  refine ⟨_, pi_range1 hg hm p hs, fun G H σ ρ pd Q F R1 hw f => ?_⟩
  refine q G H σ ρ pd _ _ R1 hw fun rs ρ1 pd1 vs H1 sb R2 ar g => ?_
  cases ar with
  | nil => exact g.elim
  | @cons r v rs vs h1 t1 =>
    cases t1 with
    | cons _ _ => cases r with
      | pv p => cases p <;> exact g.elim
      | _ => exact g.elim
    | nil =>
      cases r with
      | pv p =>
        cases p with
        | int n =>
          have e : v = .int n := R2.pd _ h1
          subst e
          exact ⟨n, rfl, g.1.1, g.1.2, f _ _ ρ1 pd1 H1 sb R2 wk_rng g.2⟩
        | _ => exact g.elim
      | _ => exact g.elim
theorem qi_range2 {p pos : Pos} (hm : X.mg "range" = none) (ha : QA X [a, b] tr) (hg : Gl X "range" := by rfl) (hs : starEach [a, b] X.env = [(false, eval a X.env), (false, eval b X.env)] := by rfl) (hs2 : starEach [b] X.env = [(false, eval b X.env)] := by rfl) :
    QI X tg (.Call (.Name "range" p) [a, b] [] pos) (qRng2 tr) := by
  obtain ⟨t, p, q⟩ := ha.ex
  refine ⟨_, pi_range2 hg hm p hs hs2, fun G H σ ρ pd Q F R1 hw f => ?_⟩
  refine q G H σ ρ pd _ _ R1 hw fun rs ρ1 pd1 vs H1 sb R2 ar g => ?_
  match rs, vs, ar, g with
  | [.pv (.int m), .pv (.int n)], [v, w], .cons h1 (.cons h2 .nil), g =>
    have e : v = .int m := R2.pd _ h1
    have e' : w = .int n := R2.pd _ h2
    subst e e'
    exact ⟨m, n, rfl, ⟨g.1.1.1, g.1.1.2, g.1.2.1, g.1.2.2⟩, f _ _ ρ1 pd1 H1 sb R2 wk_rng g.2⟩

/-! ### targets -/
abbrev QTG := PV → En → (En → Prop) → Prop
def RzG (K : PySem.W.Frag) (g : TG) (sl : List Nat) (t : QTG) : Prop := ∀ (G : Gd) (H : Hp) (σ : L2.St) (ρ : En) (pd : Pds) (p : PV) (v : V) (Q : En → Prop) (F : L2.St → Hp → Prop), RE K G H σ ρ ((p, v) :: pd) → t p ρ Q →
  (∀ σ' ρ' H', σ'.length = σ.length → (∀ i : Nat, i ∉ sl → σ'[i]? = σ[i]?) → RE K G H' σ' ρ' pd → Q ρ' → F σ' H') → g v σ H F
structure QG (X : Cx) (tg : Expr) (sl : List Nat) (t : QTG) : Prop where
  ex : ∃ g, PG X tg g ∧ RzG X.K g sl t
theorem QG.all {ι : Type} {X : ι → Cx} {e : Expr} {sl : List Nat} {t : QTG} {K : PySem.W.Frag} (hK : ∀ c, (X c).K = K) (h : ∀ c, QG (X c) e sl t) : ∃ g, (∀ c, PG (X c) e g) ∧ RzG K g sl t := by
  refine ⟨fun v σ H F => ∀ c, (Classical.choose (h c).ex) v σ H F, fun c => ⟨fun pins s σ H v u Q I r hw => (Classical.choose_spec (h c).ex).1.run pins s σ H v u Q I r (hw c)⟩, fun G H σ ρ pd p v Q F R1 hq f c => ?_⟩
  have z : RzG (X c).K (Classical.choose (h c).ex) sl t := (Classical.choose_spec (h c).ex).2
  exact z G H σ ρ pd p v Q F (by rw [hK c]; exact R1) hq (by rw [hK c]; exact f)
abbrev QTGs := List PV → En → (En → Prop) → Prop
def RzGs (K : PySem.W.Frag) (g : TGs) (sl : List Nat) (t : QTGs) : Prop := ∀ (G : Gd) (H : Hp) (σ : L2.St) (ρ : En) (pd : Pds) (ps : List PV) (vs : List V) (Q : En → Prop) (F : L2.St → Hp → Prop), RE K G H σ ρ pd → ArgsR σ pd (ps.map R.pv) vs → t ps ρ Q →
  (∀ σ' ρ' H', σ'.length = σ.length → (∀ i : Nat, i ∉ sl → σ'[i]? = σ[i]?) → RE K G H' σ' ρ' pd → Q ρ' → F σ' H') → g vs σ H F
structure QGs (X : Cx) (tg : List Expr) (sl : List Nat) (t : QTGs) : Prop where
  ex : ∃ g, PGs X tg g ∧ RzGs X.K g sl t
def qgN (i : Nat) (p : PV) (ρ : En) (Q : En → Prop) : Prop := notIo ρ i = true ∧ Q (ρ.set i (.val p))
theorem rz_gname {K : PySem.W.Frag} {i : Nat} : RzG K (gName i) [i] (qgN i) := fun G H σ ρ pd p v Q F R1 h f =>
  f _ _ H (by simp) (fun j hj => ix_ne (fun z => hj (by simp [z]))) (R1.set h.1) h.2
theorem qg_name (i : Nat) {x : Str} {pos : Pos} (hN : X.N.Nodup) (hi : X.N[i]? = some x := by rfl) (hx : Loc X.env.scope x := by first | exact Or.inl rfl | exact Or.inr rfl) (hf : X.fn x = true ∨ X.env.scope.names.lookup x = some .local := by first | exact .inl rfl | exact .inr rfl) : QG X (.Name x pos) [i] (qgN i) :=
  ⟨_, pg_name hN hi hx hf, rz_gname⟩
def qgNil (ps : List PV) (ρ : En) (Q : En → Prop) : Prop := match ps with
  | [] => Q ρ
  | _ => False
def qgCons (t : QTG) (u : QTGs) (ps : List PV) (ρ : En) (Q : En → Prop) : Prop := match ps with
  | p :: ps => t p ρ fun ρ1 => u ps ρ1 Q
  | [] => False
theorem qgs_nil : QGs X [] [] qgNil := ⟨_, pgs_nil, fun G H σ ρ pd ps vs Q F R1 a h f => by
  cases ps with
  | nil =>
    cases a
    exact ⟨rfl, f σ ρ H rfl (fun _ _ => rfl) R1 h⟩
  | cons _ _ => exact h.elim⟩
theorem argsP {σ σ' : L2.St} {pd : Pds} : ∀ {ps : List PV} {vs : List V}, ArgsR σ pd (ps.map R.pv) vs → ArgsR σ' pd (ps.map R.pv) vs
  | [], _, h => by cases h; exact .nil
  | p :: ps, _, h => by
    cases h with
    | cons h t => exact .cons h (argsP t)
theorem qgs_cons {e : Expr} {es : List Expr} {s1 s2 : List Nat} {t : QTG} {u : QTGs} (h1 : QG X e s1 t) (h2 : QGs X es s2 u) (hs : (assignEach (e :: es) X.env).map (·.2) = assign e X.env :: (assignEach es X.env).map (·.2) := by rfl) : QGs X (e :: es) (s1 ++ s2) (qgCons t u) := by
  obtain ⟨g1, p1, q1⟩ := h1.ex
  obtain ⟨g2, p2, q2⟩ := h2.ex
  refine ⟨_, pgs_cons p1 p2 hs, fun G H σ ρ pd ps vs Q F R1 a h f => ?_⟩
  cases ps with
  | nil => exact h.elim
  | cons p ps =>
    cases a with
    | @cons _ v _ vs hv ta =>
      refine ⟨v, vs, rfl, q1 G H σ ρ pd p v _ _ (R1.push (R1.pd _ hv)) h fun σ1 ρ1 H1 l1 k1 R2 g => ?_⟩
      refine q2 G H1 σ1 ρ1 pd ps vs _ _ R2 (argsP ta) g fun σ2 ρ2 H2 l2 k2 R3 g2 => ?_
      exact f σ2 ρ2 H2 (l2.trans l1) (fun i hi => (k2 i (fun z => hi (List.mem_append_right _ z))).trans (k1 i (fun z => hi (List.mem_append_left _ z)))) R3 g2
def qgT (n : Nat) (t : QTGs) (p : PV) (ρ : En) (Q : En → Prop) : Prop := match p with
  | .tup ps => ps.length = n ∧ t ps ρ Q
  | _ => False
theorem iss_args {K : PySem.W.Frag} {H : Hp} {W : Addr → Prop} {σ : L2.St} : ∀ {ps : List PV} {vs : List V}, Iss K H W ps vs → ArgsR σ (ps.zip vs) (ps.map R.pv) vs
  | [], _, h => by cases (show _ = [] from h); exact .nil
  | p :: ps, _, h => by
    obtain ⟨v, r, e, h1, h2⟩ := h
    subst e
    exact .cons List.mem_cons_self ((iss_args h2).mono fun x hx => List.mem_cons_of_mem _ hx)
theorem iss_mem {K : PySem.W.Frag} {H : Hp} {W : Addr → Prop} : ∀ {ps : List PV} {vs : List V}, Iss K H W ps vs → ∀ x ∈ ps.zip vs, Is K H W x.1 x.2
  | [], _, h, x, hx => by simp at hx
  | p :: ps, _, h, x, hx => by
    obtain ⟨v, r, e, h1, h2⟩ := h
    subst e
    rcases List.mem_cons.mp hx with e | hx
    · rw [e]; exact h1
    · exact iss_mem h2 x hx
theorem qg_tup {es : List Expr} {k : Nat} {t : QTGs} {sl : List Nat} {n : Nat} {pos : Pos} (hc : X.calm = true) (h : QGs X es sl t) (hn : (assignEach es X.env).length = n := by rfl) (hst : (assignEach es X.env).findIdx? (·.1) = none := by rfl) : QG X (.Tuple es k pos) sl (qgT n t) := by
  obtain ⟨g, p, q⟩ := h.ex
  refine ⟨_, pg_tup hc p hn hst, fun G H σ ρ pd p v Q F R1 hw f => ?_⟩
  cases p with
  | tup ps =>
    obtain ⟨a, vs, e, r, i⟩ : ∃ a vs, v = .ref a ∧ H a = some (.tup vs) ∧ Iss X.K H (WS G σ ρ) ps vs := R1.pd (.tup ps, v) List.mem_cons_self
    refine ⟨a, vs, e, .inl (.inl r), by rw [← i.length]; exact hw.1, ?_⟩
    have R2 : RE X.K G H σ ρ (ps.zip vs ++ pd) := R1.tl.pushs (iss_mem i)
    exact q G H σ ρ _ ps vs _ _ R2 ((iss_args i).mono fun x hx => List.mem_append_left _ hx) hw.2 fun σ' ρ' H' l k R3 g => f σ' ρ' H' l k (R3.pds fun x hx => List.mem_append_right _ hx) g
  | _ => exact hw.elim
end
end Px
namespace Px
open PySem L2 PyProof.Rows

/-! ### list comprehensions -/
def wipeE (ρ : En) : List Nat → En
  | [] => ρ
  | v :: vs => (wipeE ρ vs).set v Sl.un
def notIos (ρ : En) (vs : List Nat) : Prop := ∀ v ∈ vs, notIo ρ v = true
theorem notIo_set {ρ : En} {i j : Nat} (h : notIo ρ j = true) : notIo (ρ.set i Sl.un) j = true := by
  by_cases e : i = j
  · subst e
    unfold notIo
    by_cases l : i < ρ.length
    · rw [List.getElem?_set_self l]
    · rw [List.getElem?_eq_none (by simp; omega)]
  · unfold notIo at h ⊢
    rw [ix_ne e]
    exact h
theorem notIo_wipe {ρ : En} {j : Nat} (h : notIo ρ j = true) : ∀ vs : List Nat, notIo (wipeE ρ vs) j = true
  | [] => h
  | v :: vs => notIo_set (notIo_wipe h vs)
theorem RE.wipe {K : PySem.W.Frag} {G : Gd} {H : Hp} {σ : L2.St} {ρ : En} {pd : Pds} (R1 : RE K G H σ ρ pd) : ∀ (vs : List Nat), notIos ρ vs → RE K G H (L2.wipe σ vs) (wipeE ρ vs) pd
  | [], _ => R1
  | v :: vs, n => (RE.wipe R1 vs fun w hw => n w (List.mem_cons_of_mem _ hw)).clear (notIo_wipe (n v List.mem_cons_self) vs)
theorem wipeE_length (ρ : En) : ∀ vs : List Nat, (wipeE ρ vs).length = ρ.length
  | [] => rfl
  | v :: vs => by unfold wipeE; rw [List.length_set, wipeE_length ρ vs]
theorem wipeE_in {ρ : En} {i : Nat} : ∀ {vs : List Nat}, i ∈ vs → (wipeE ρ vs)[i]? = if i < ρ.length then some Sl.un else none
  | v :: vs, h => by
    unfold wipeE
    rw [List.getElem?_set, wipeE_length]
    by_cases e : v = i
    · subst e; simp
    · rcases List.mem_cons.mp h with z | z
      · exact absurd z.symm e
      · simp [e, wipeE_in z]
theorem wipe_in {σ : L2.St} {i : Nat} : ∀ {vs : List Nat}, i ∈ vs → (L2.wipe σ vs)[i]? = if i < σ.length then some none else none
  | v :: vs, h => by
    unfold L2.wipe
    rw [List.getElem?_set, wipe_length]
    by_cases e : v = i
    · subst e; simp
    · rcases List.mem_cons.mp h with z | z
      · exact absurd z.symm e
      · simp [e, wipe_in z]
/-- other slots' values at the slots that the env does not know -/
theorem RE.sig {K : PySem.W.Frag} {G : Gd} {H : Hp} {σ σ' : L2.St} {ρ : En} {pd : Pds} (R1 : RE K G H σ ρ pd) (l : σ'.length = σ.length) (k : ∀ i : Nat, (∀ s, ρ[i]? = some s → s ≠ Sl.un → σ'[i]? = σ[i]?)) : RE K G H σ' ρ pd := by
  have ke : ∀ {i : Nat} {s : Sl}, ρ[i]? = some s → s ≠ Sl.un → σ'[i]? = σ[i]? := fun {i s} e n => k i s e n
  have we : ∀ a, WS G σ' ρ a ↔ WS G σ ρ a := fun a => by
    constructor
    · rintro (w | ⟨i, b, p, e1, e2⟩)
      · exact .inl w
      · exact .inr ⟨i, b, p, e1, by rw [← ke e1 (by simp)]; exact e2⟩
    · rintro (w | ⟨i, b, p, e1, e2⟩)
      · exact .inl w
      · exact .inr ⟨i, b, p, e1, by rw [ke e1 (by simp)]; exact e2⟩
  have sub : ∀ a, WS G σ' ρ a → WS G σ ρ a := fun a => (we a).1
  refine ⟨R1.len.trans l.symm, fun i p e => ?_, fun i b p e => ?_, fun i j b c p q a e1 e2 e3 e4 => ?_, fun i a h => ?_, R1.keep, R1.exk, fun x hx => Is.anti sub _ _ (R1.pd x hx), R1.ext.slots fun i b p e => ⟨e, ke e (by simp)⟩⟩
  · obtain ⟨v, e1, h⟩ := R1.val i p e
    exact ⟨v, by rw [ke e (by simp)]; exact e1, Is.anti sub _ _ h⟩
  · obtain ⟨a, e1, n, o, e2, h⟩ := R1.own i b p e
    exact ⟨a, by rw [ke e (by simp)]; exact e1, n, o, e2, h.anti sub⟩
  · rw [ke e1 (by simp)] at e3
    rw [ke e2 (by simp)] at e4
    exact R1.inj i j b c p q a e1 e2 e3 e4
  · obtain ⟨e, p, e1⟩ := R1.io i a h
    exact ⟨by rw [ke e1 (by simp)]; exact e, p, e1⟩
theorem RE.unwipe {K : PySem.W.Frag} {G : Gd} {H : Hp} {σ : L2.St} {ρ : En} {pd : Pds} {vs : List Nat} (R1 : RE K G H (L2.wipe σ vs) (wipeE ρ vs) pd) : RE K G H σ (wipeE ρ vs) pd := by
  refine R1.sig (wipe_length σ vs).symm fun i s e n => ?_
  by_cases h : i ∈ vs
  · rw [wipeE_in h] at e
    split at e
    · cases e; exact absurd rfl n
    · cases e
  · exact (wipe_out h).symm
theorem wipe_agree {σ σ' : L2.St} {vs : List Nat} (l : σ'.length = σ.length) (k : ∀ i : Nat, i ∉ vs → σ'[i]? = σ[i]?) : L2.wipe σ' vs = L2.wipe σ vs := by
  refine List.ext_getElem? fun i => ?_
  by_cases h : i ∈ vs
  · rw [wipe_in h, wipe_in h, l]
  · rw [wipe_out h, wipe_out h, k i h]
theorem wipe_wipe (σ : L2.St) (vs : List Nat) : L2.wipe (L2.wipe σ vs) vs = L2.wipe σ vs := by
  refine List.ext_getElem? fun i => ?_
  by_cases h : i ∈ vs
  · rw [wipe_in h, wipe_in h, wipe_length]
  · rw [wipe_out h]
/-- the private object changed -/
theorem RE.readd {K : PySem.W.Frag} {G : Gd} {H : Hp} {σ : L2.St} {ρ : En} {pd : Pds} {a : Addr} {o o' : HO} (R1 : RE K (G.add a o) H σ ρ pd) (m : Mut (some o')) : RE K (G.add a o') (upd H a o') σ ρ pd := by
  have we : ∀ b, WS (G.add a o') σ ρ b ↔ WS (G.add a o) σ ρ b := fun b => Iff.rfl
  have Wa : WS (G.add a o) σ ρ a := .inl (.inl rfl)
  have kp : ∀ b u, H b = some u → ¬ WS (G.add a o) σ ρ b → upd H a o' b = some u := fun b u e n => by
    have ne : b ≠ a := fun z => n (by rw [z]; exact Wa)
    rw [upd_ne ne]; exact e
  have mv := fun p v h => Is.move (K := K) kp R1.mut (W' := WS (G.add a o') σ ρ) (fun _ _ w => w) p v h
  have kne : ∀ c, (G.add a o).keep c = none → c ≠ a ∧ G.keep c = none := fun c e => by
    have e' : upd G.keep a o c = none := e
    by_cases z : c = a
    · rw [z, upd_same] at e'; cases e'
    · rw [upd_ne z] at e'; exact ⟨z, e'⟩
  refine ⟨R1.len, fun i p e => ?_, fun i b p e => ?_, R1.inj, R1.io, fun b u e => ?_, fun b w hv => ?_, fun x hx => mv _ _ (R1.pd x hx), ?_⟩
  · obtain ⟨v, e1, h⟩ := R1.val i p e
    exact ⟨v, e1, mv _ _ h⟩
  · obtain ⟨c, e1, n, u, e2, h⟩ := R1.own i b p e
    obtain ⟨ne, n'⟩ := kne c n
    exact ⟨c, e1, by show upd G.keep a o' c = none; rw [upd_ne ne]; exact n', u, by rw [upd_ne ne]; exact e2, h.move kp R1.mut fun _ _ w => w⟩
  · have e' : upd G.keep a o' b = some u := e
    by_cases z : b = a
    · rw [z] at e' ⊢; rw [upd_same] at e' ⊢; exact e'
    · rw [upd_ne z] at e' ⊢
      exact R1.keep b u (by show upd G.keep a o b = some u; rw [upd_ne z]; exact e')
  · rcases w with w | w
    · rw [w]; exact ⟨o', upd_same, m⟩
    · obtain ⟨u, e1, m1⟩ := R1.exk b (.inr w) hv
      have e2 : upd G.keep a o b = some u := e1
      by_cases z : b = a
      · rw [z]; exact ⟨o', upd_same, m⟩
      · rw [upd_ne z] at e2
        exact ⟨u, by show upd G.keep a o' b = some u; rw [upd_ne z]; exact e2, m1⟩
  · refine ⟨fun b h => ?_, R1.ext.off, R1.ext.nst⟩
    obtain ⟨h1, h2, ns, e1, h3⟩ := R1.ext.vo b h
    have ne : b ≠ a := fun z => R1.ext.notA (by rw [← z]; exact h)
    have h2' : upd G.keep a o b = none := h2
    rw [upd_ne ne] at h2'
    exact ⟨h1, by show upd G.keep a o' b = none; rw [upd_ne ne]; exact h2', ns, by rw [upd_ne ne]; exact e1, h3⟩
/-- tests of a comprehension -/
structure QCs (X : Cx) (es : List Expr) (t : QTT) : Prop where
  ex : ∃ tt, PTs X es tt ∧ RzT X.K tt t
def qYes (ρ : En) (Q : Bool → En → Prop) : Prop := Q true ρ
theorem qcs_nil {X : Cx} : QCs X [] qYes := ⟨_, pts_nil, fun G H σ ρ pd Q F R1 h f => f true ρ H R1 h⟩
theorem qcs_one {X : Cx} {e : Expr} {t : QTT} (h : QC X e t) : QCs X [e] t := by
  obtain ⟨t1, p, q⟩ := h.ex
  exact ⟨_, pts_one p, q⟩
theorem QCs.all {ι : Type} {X : ι → Cx} {es : List Expr} {t : QTT} {K : PySem.W.Frag} (hK : ∀ c, (X c).K = K) (h : ∀ c, QCs (X c) es t) : ∃ tt, (∀ c, PTs (X c) es tt) ∧ RzT K tt t := by
  refine ⟨fun σ H F => ∀ c, (Classical.choose (h c).ex) σ H F, fun c => ⟨fun pins s σ H Q I hw => (Classical.choose_spec (h c).ex).1.run pins s σ H Q I (hw c)⟩, fun G H σ ρ pd Q F R1 hq f c => ?_⟩
  have z : RzT (X c).K (Classical.choose (h c).ex) t := (Classical.choose_spec (h c).ex).2
  exact z G H σ ρ pd Q F (by rw [hK c]; exact R1) hq (by rw [hK c]; exact f)
def lcGo (g : QTG) (tt : QTT) (te : QT) (vs : List Nat) (Q : List PV → En → Prop) : List PV → List PV → En → Prop
  | [], acc, ρ => Q acc ρ
  | p :: ps, acc, ρ => g p ρ fun ρ1 => tt ρ1 fun b ρ2 => Br b (te ρ2 fun r ρ3 => match r.wk with
      | .pv q => small (acc.length + 1) ∧ notIos ρ3 vs ∧ lcGo g tt te vs Q ps (acc ++ [q]) (wipeE ρ3 vs)
      | _ => False) (notIos ρ2 vs ∧ lcGo g tt te vs Q ps acc (wipeE ρ2 vs))
def lcR (g : QTG) (tt : QTT) (te : QT) (vs : List Nat) (ps : List PV) (ρ : En) (Q : PK1) (_ : Dum Q) : Prop := lcGo g tt te vs (fun acc ρ' => Q (.fr (.lst acc)) ρ') ps [] ρ
def qLc (ti : QTI) (g : QTG) (tt : QTT) (te : QT) (vs : List Nat) (ρ : En) (Q : PK1) : Prop := ti ρ fun ps ρ1 => notIos ρ1 vs ∧ lcR g tt te vs ps (wipeE ρ1 vs) Q .mk
abbrev BlkI (X : Cx) := Shared × Hp × Addr × List (Str × Addr) × List Addr
abbrev blkX (X : Cx) (scope : Scope) (c : BlkI X) : Cx := X.blk c.1 c.2.1 scope (compEnvC scope c.2.2.2.1 c.2.2.1 X.env) c.2.2.2.2
theorem add_keep {G : Gd} {D : Addr} {o : HO} {kp : Hp} (kD : G.keep D = none) (h : ∀ b o, kp b = some o → G.keep b = some o) : ∀ b u, kp b = some u → (G.add D o).keep b = some u := fun b u e => by
  have ne : b ≠ D := fun z => by have := h b u e; rw [z, kD] at this; cases this
  show upd G.keep D o b = some u
  rw [upd_ne ne]; exact h b u e
theorem lc_walk {K : PySem.W.Frag} {g : TG} {tt : TT} {te : TE} {vs sl : List Nat} {qg : QTG} {qt : QTT} {qe : QT} (h2 : RzG K g sl qg) (h3 : RzT K tt qt) (h4 : Rz K te qe) (hs : ∀ i ∈ sl, i ∈ vs) {G : Gd} {H1 : Hp} {σ : L2.St} {ρ1 : En} {pd pd1 : Pds} {J : It} {ps : List PV} {Q : PK1} {F : VK} (sb : ∀ x ∈ pd, x ∈ pd1)
    (R2 : RE K G H1 σ ρ1 pd1) (wk : Wk K J ps pd1 G.keep) (nio : notIos ρ1 vs) (go : lcR qg qt qe vs ps (wipeE ρ1 vs) Q .mk) (f : ∀ r ρ' v H', Res K G H' σ ρ' pd r v → Q r ρ' → F v H') :
    ∀ D, H1 D = none → ∃ W : Nat → Nat → Hp → Prop, (∃ m, W 0 m (upd H1 D (.lst []))) ∧ ∀ i m H, W i m H →
      (J.stop i H ∧ F (.ref D) H) ∨ (J.go i H ∧ ∃ Nx : Hp → Prop, (∀ H', Nx H' → ∃ m', m' < m ∧ W (i + 1) m' H') ∧ ∀ x H', J.yld i H x H' → g x (L2.wipe σ vs) H' fun σ2 H2 => L2.wipe σ2 vs = L2.wipe σ vs ∧ tt σ2 H2 fun b H3 =>
        if b = true then te σ2 H3 fun y H4 => ∃ acc, H4 D = some (.lst acc) ∧ acc.length < sizeLine ∧ Nx (upd H4 D (.lst (acc ++ [y]))) else Nx H3) := by
  intro D hD
  have kx := R2.exk
  have kD : G.keep D = none := by
    cases q : G.keep D with
    | none => rfl
    | some u => rw [R2.keep D u q] at hD; cases hD
  let W : Nat → Nat → Hp → Prop := fun i m H => m = ps.length - i ∧ i ≤ ps.length ∧ ∃ (ρ' : En) (acc : List PV) (av : List V), RE K (G.add D (.lst av)) H (L2.wipe σ vs) (wipeE ρ' vs) (acc.zip av ++ pd1) ∧ acc.length = av.length ∧ lcGo qg qt qe vs (fun acc ρ' => Q (.fr (.lst acc)) ρ') (ps.drop i) acc (wipeE ρ' vs)
  refine ⟨W, ⟨ps.length, by simp, Nat.zero_le _, ρ1, [], [], ?_, rfl, go⟩, ?_⟩
  · exact (R2.wipe vs nio).add (o := .lst []) hD (same_new hD) upd_same trivial
  rintro i m H2 ⟨rfl, hi, ρ', acc, av, R3, la, g1⟩
  by_cases lt : i < ps.length
  · have ep : ps[i]? = some ps[i] := List.getElem?_eq_getElem lt
    obtain ⟨jg, jy⟩ := wk.item _ H2 _ _ _ i _ (fun x hx => List.mem_append_right _ hx) (add_keep kD fun _ _ e => e) R3 ep
    refine .inr ⟨jg, fun H' => W (i + 1) (ps.length - (i + 1)) H', fun H' w => ⟨_, by omega, w⟩, fun x H3 y => ?_⟩
    have R4 := jy x H3 y
    rw [List.drop_eq_getElem_cons lt] at g1
    refine h2 _ H3 _ _ _ _ x _ _ R4 g1 fun σ2 ρ2 H4 l2 k2 R5 g2 => ?_
    have wa : L2.wipe σ2 vs = L2.wipe σ vs := by
      rw [← wipe_wipe σ vs]
      exact wipe_agree l2 fun j hj => k2 j fun z => hj (hs j z)
    refine ⟨wa, h3 _ H4 σ2 ρ2 _ _ _ R5 g2 fun b ρ3 H5 R6 g3 => ?_⟩
    cases b with
    | false =>
      obtain ⟨n3, g4⟩ := g3.2 rfl
      refine ⟨rfl, lt, ρ3, acc, av, ?_, la, g4⟩
      have R7 := R6.wipe vs n3
      rw [wa] at R7
      exact R7
    | true =>
      have g4 := g3.1 rfl
      show te σ2 H5 _
      refine h4 _ H5 σ2 ρ3 _ _ _ R6 g4 fun r ρ4 v H6 s g5 => ?_
      have s' := s.wk
      cases er : r.wk with
      | pv q =>
        rw [er] at s' g5
        obtain ⟨sm, n5, g6⟩ := g5
        have R7 : RE K (G.add D (.lst av)) H6 σ2 ρ4 ((q, v) :: (acc.zip av ++ pd1)) := s'
        refine ⟨av, R7.keep D _ upd_same, by rw [← la]; exact sm, rfl, lt, ρ4, acc ++ [q], av ++ [v], ?_, by simp [la], g6⟩
        have R8 := (R7.wipe vs n5).readd (o' := .lst (av ++ [v])) trivial
        rw [wa] at R8
        refine R8.pds fun x hx => ?_
        rw [List.zip_append la] at hx
        rcases List.mem_append.mp hx with hx | hx
        · rcases List.mem_append.mp hx with hx | hx
          · exact List.mem_cons_of_mem _ (List.mem_append_left _ hx)
          · have : x = (q, v) := by simpa using hx
            rw [this]; exact List.mem_cons_self
        · exact List.mem_cons_of_mem _ (List.mem_append_right _ hx)
      | sl j => rw [er] at g5; exact g5.elim
      | fr q => rw [er] at g5; exact g5.elim
  · have e : i = ps.length := by omega
    subst e
    refine .inl ⟨wk.stop _ H2 _ _ _ _ (fun x hx => List.mem_append_right _ hx) (add_keep kD fun _ _ e => e) R3 (Nat.le_refl _), ?_⟩
    rw [List.drop_length] at g1
    have R4 := R3.unwipe
    refine f (.fr (.lst acc)) (wipeE ρ' vs) (.ref D) H2 ⟨D, .lst av, rfl, kD, kx, R4.pds fun x hx => List.mem_append_right _ (sb x hx), ?_⟩ g1
    show Iss K H2 (WS (G.add D (.lst av)) σ (wipeE ρ' vs)) acc av
    have hall : ∀ x ∈ acc.zip av, Is K H2 (WS (G.add D (.lst av)) σ (wipeE ρ' vs)) x.1 x.2 := fun x hx => R4.pd x (List.mem_append_left _ hx)
    clear g1 R3 R4
    revert la hall
    generalize WS (G.add D (.lst av)) σ (wipeE ρ' vs) = W'
    intro la hall
    clear W f go
    induction acc generalizing av with
    | nil => cases av with
      | nil => rfl
      | cons _ _ => simp at la
    | cons p acc ih =>
      cases av with
      | nil => simp at la
      | cons v av => exact ⟨v, av, rfl, hall (p, v) List.mem_cons_self, ih av (by simpa using la) fun x hx => hall x (List.mem_cons_of_mem _ hx)⟩
theorem rz_lc {K : PySem.W.Frag} {wi : TI} {g : TG} {tt : TT} {te : TE} {vs sl : List Nat} {ti : QTI} {qg : QTG} {qt : QTT} {qe : QT} (h1 : RzI K wi ti) (h2 : RzG K g sl qg) (h3 : RzT K tt qt) (h4 : Rz K te qe) (hs : ∀ i ∈ sl, i ∈ vs) : Rz K (tLc wi g tt te vs) (qLc ti qg qt qe vs) := by
  intro G H σ ρ pd Q F R1 hw f
  exact h1 G H σ ρ pd _ _ R1 hw fun J ps ρ1 pd1 H1 sb R2 wk ⟨nio, go⟩ => lc_walk h2 h3 h4 hs sb R2 wk nio go f
section
variable {X : Cx} {elt tg iter : Expr} {ifs : List Expr} {scope : Scope} {own : List (Str × Nat)} {pos : Pos} {ti : QTI} {g : QTG} {tt : QTT} {te : QT} {sl : List Nat}
theorem qe_lc (hc : X.calm = true) (hN : X.N.Nodup) (ok : BlkOk X.N X.env.scope scope own) (hi : QI X tg iter ti) (hg : ∀ c, QG (blkX X scope c) tg sl g) (ht : ∀ c, QCs (blkX X scope c) ifs tt) (he : ∀ c, QE (blkX X scope c) elt te)
    (hs : ∀ i ∈ sl, i ∈ own.map (·.2) := by decide) (hf : ∀ x, foldedSetIterable iter X.env x = pure x := by intro _; rfl) {vs : List Nat} (hv : vs = own.map (·.2) := by rfl) : QE X (.ListComp elt [⟨tg, iter, ifs, 0⟩] scope pos) (qLc ti g tt te vs) := by
  subst hv
  obtain ⟨wi, p1, q1⟩ := hi.ex
  obtain ⟨g1, p2, q2⟩ := QG.all (X := blkX X scope) (K := X.K) (fun _ => rfl) hg
  obtain ⟨t1, p3, q3⟩ := QCs.all (X := blkX X scope) (K := X.K) (fun _ => rfl) ht
  obtain ⟨e1, p4, q4⟩ := QE.all (X := blkX X scope) (K := X.K) (fun _ => rfl) he
  exact ⟨_, pe_lc hc hN p1 ok (fun s H C cl fp => p2 (s, H, C, cl, fp)) (fun s H C cl fp => p3 (s, H, C, cl, fp)) (fun s H C cl fp => p4 (s, H, C, cl, fp)) hf, rz_lc q1 q2 q3 q4 hs⟩
end
end Px
namespace Px
open PySem L2 PyProof.Rows

/-! ### statements -/
structure PEnds where
  nx : En → Prop
  rt : R → En → Prop
  bk : En → Prop := fun _ => False
  ct : En → Prop := fun _ => False
abbrev QTS := PEnds → En → Prop
structure EndsOk (K : PySem.W.Frag) (G : Gd) (pd : Pds) (D' : PEnds) (D : Ends) : Prop where
  nx : ∀ σ ρ H, RE K G H σ ρ pd → D'.nx ρ → D.nx σ H
  rt : ∀ r v σ ρ H, Res K G H σ ρ pd r v → D'.rt r ρ → D.rt v H
  bk : ∀ σ ρ H, RE K G H σ ρ pd → D'.bk ρ → D.bk σ H
  ct : ∀ σ ρ H, RE K G H σ ρ pd → D'.ct ρ → D.ct σ H
def RzS (K : PySem.W.Frag) (ts : TS) (t : QTS) : Prop := ∀ (G : Gd) (H : Hp) (σ : L2.St) (ρ : En) (pd : Pds) (D' : PEnds) (D : Ends), RE K G H σ ρ pd → t D' ρ → EndsOk K G pd D' D → ts D σ H
structure QS (X : Cx) (st : Stmt) (t : QTS) : Prop where
  ex : ∃ ts, PS X st ts ∧ RzS X.K ts t
structure QSs (X : Cx) (st : List Stmt) (t : QTS) : Prop where
  ex : ∃ ts, PSs X st ts ∧ RzS X.K ts t
theorem EndsOk.more {K : PySem.W.Frag} {G : Gd} {pd pd' : Pds} {D' : PEnds} {D : Ends} (e : EndsOk K G pd D' D) (s : ∀ x ∈ pd, x ∈ pd') : EndsOk K G pd' D' D :=
  ⟨fun σ ρ H R h => e.nx σ ρ H (R.pds s) h, fun r v σ ρ H R h => e.rt r v σ ρ H (R.pds s) h, fun σ ρ H R h => e.bk σ ρ H (R.pds s) h, fun σ ρ H R h => e.ct σ ρ H (R.pds s) h⟩
section
variable {X : Cx} {st : Stmt} {rest a b body : List Stmt} {t u : QTS} {c e tg iter : Expr} {te : QT} {tc : QTT} {g : QTG} {ti : QTI} {sl : List Nat} {pos : Pos}
def qNext (D : PEnds) (ρ : En) : Prop := D.nx ρ
def qSeq (t u : QTS) (D : PEnds) (ρ : En) : Prop := t { nx := u D, rt := D.rt, bk := D.bk, ct := D.ct } ρ
theorem qss_nil : QSs X [] qNext := ⟨_, pss_nil, fun G H σ ρ pd D' D R1 h e => e.nx σ ρ H R1 h⟩
theorem qss_cons (h1 : QS X st t) (h2 : QSs X rest u) : QSs X (st :: rest) (qSeq t u) := by
  obtain ⟨t1, p1, q1⟩ := h1.ex
  obtain ⟨t2, p2, q2⟩ := h2.ex
  refine ⟨_, pss_cons p1 p2, fun G H σ ρ pd D' D R1 h e => ?_⟩
  exact q1 G H σ ρ pd _ _ R1 h ⟨fun σ' ρ' H' R2 g => q2 G H' σ' ρ' pd D' D R2 g e, e.rt, e.bk, e.ct⟩
theorem qss_one (h1 : QS X st t) : QSs X [st] t := by
  obtain ⟨t1, p1, q1⟩ := h1.ex
  exact ⟨_, pss_one p1, q1⟩
theorem qs_pass : QS X (.Pass pos) qNext := ⟨_, ps_pass, fun G H σ ρ pd D' D R1 h e => e.nx σ ρ H R1 h⟩
theorem qs_doc {x : Str} {j : Nat} {pos' : Pos} : QS X (.Expr (.Constant (.str x) j pos) pos') qNext := ⟨_, ps_doc, fun G H σ ρ pd D' D R1 h e => e.nx σ ρ H R1 h⟩
def qBreak (D : PEnds) (ρ : En) : Prop := D.bk ρ
def qCont (D : PEnds) (ρ : En) : Prop := D.ct ρ
theorem qs_break : QS X (.Break pos) qBreak := ⟨_, ps_break, fun G H σ ρ pd D' D R1 h e => e.bk σ ρ H R1 h⟩
theorem qs_continue : QS X (.Continue pos) qCont := ⟨_, ps_continue, fun G H σ ρ pd D' D R1 h e => e.ct σ ρ H R1 h⟩
/-- code that is never come to -/
def qNever (_ : PEnds) (_ : En) : Prop := False
theorem qs_never : QS X st qNever := ⟨_, ps_never, fun G H σ ρ pd D' D R1 h e => h.elim⟩
theorem qss_never : QSs X rest qNever := ⟨_, pss_never, fun G H σ ρ pd D' D R1 h e => h.elim⟩
/-- from here on a slot's own object is a value -/
def frz (ρ : En) (i : Nat) : Option En := match ρ[i]? with
  | some (Sl.own false p) => some (ρ.set i (.val p))
  | _ => none
def qFrz (i : Nat) (t : QTS) (D : PEnds) (ρ : En) : Prop := match frz ρ i with
  | some ρ' => t D ρ'
  | none => False
theorem rz_frz {K : PySem.W.Frag} {ts : TS} {i : Nat} (q : RzS K ts t) : RzS K ts (qFrz i t) := by
  intro G H σ ρ pd D' D R1 h e
  unfold qFrz at h
  cases hf : frz ρ i with
  | none => rw [hf] at h; exact h.elim
  | some ρ' =>
    rw [hf] at h
    unfold frz at hf
    cases es : ρ[i]? with
    | none => rw [es] at hf; cases hf
    | some s =>
      rw [es] at hf
      cases s with
      | own b p =>
        cases b with
        | true => cases hf
        | false => cases hf; exact q G H σ _ pd D' D (R1.freeze es) h e
      | _ => cases hf
theorem qs_frz (i : Nat) (h : QS X st t) : QS X st (qFrz i t) := by
  obtain ⟨t1, p1, q1⟩ := h.ex
  exact ⟨_, p1, rz_frz q1⟩
theorem qss_frz (i : Nat) (h : QSs X rest t) : QSs X rest (qFrz i t) := by
  obtain ⟨t1, p1, q1⟩ := h.ex
  exact ⟨_, p1, rz_frz q1⟩
def qDrop (t : QT) (D : PEnds) (ρ : En) : Prop := t ρ fun _ ρ1 => D.nx ρ1
theorem qs_expr (h : QE X e te) (hs : swapsWith e none pos.line X.env = pure false := by rfl) : QS X (.Expr e pos) (qDrop te) := by
  obtain ⟨t1, p1, q1⟩ := h.ex
  exact ⟨_, ps_expr p1 hs, fun G H σ ρ pd D' D R1 h e => q1 G H σ ρ pd _ _ R1 h fun r ρ' v H' s g => e.nx σ ρ' H' s.re g⟩
def retG (r : R) (ρ : En) (rt : R → En → Prop) : Prop := match r with
  | .sl i => match ρ[i]? with
    | some (Sl.own false p) => rt (.fr p) (ρ.set i Sl.un)
    | _ => False
  | r => rt r ρ
def qRet (t : QT) (D : PEnds) (ρ : En) : Prop := t ρ fun r ρ1 => retG r ρ1 D.rt
theorem qs_ret (h : QE X e te) : QS X (.Return (some e) pos) (qRet te) := by
  obtain ⟨t1, p1, q1⟩ := h.ex
  refine ⟨_, ps_ret p1, fun G H σ ρ pd D' D R1 h e => q1 G H σ ρ pd _ _ R1 h fun r ρ' v H' s g => ?_⟩
  cases r with
  | sl i =>
    unfold retG at g
    simp only at g
    obtain ⟨R2, e1, b, p, e2⟩ := s
    rw [e2] at g
    cases b with
    | true => exact g.elim
    | false =>
      obtain ⟨a, o, e3, n, R3, w⟩ := R2.release e2
      rw [e1] at e3; cases e3
      exact e.rt (.fr p) _ σ _ H' ⟨a, o, rfl, n, R2.exk, R3, w⟩ g
  | pv p => exact e.rt _ v σ ρ' H' s g
  | fr p => exact e.rt _ v σ ρ' H' s g
def qRetN (D : PEnds) (ρ : En) : Prop := D.rt (.pv .non) ρ
theorem qs_retN : QS X (.Return none pos) qRetN := ⟨_, ps_retN, fun G H σ ρ pd D' D R1 h e => e.rt (.pv .non) .non σ ρ H (R1.push rfl) h⟩
def qIf (c : QTT) (t u : QTS) (D : PEnds) (ρ : En) : Prop := c ρ fun b ρ1 => Br b (t D ρ1) (u D ρ1)
theorem qs_if (hc : QC X c tc) (ha : QSs X a t) (hb : QSs X b u) : QS X (.If c a b pos) (qIf tc t u) := by
  obtain ⟨t1, p1, q1⟩ := hc.ex
  obtain ⟨t2, p2, q2⟩ := ha.ex
  obtain ⟨t3, p3, q3⟩ := hb.ex
  refine ⟨_, ps_if p1 p2 p3, fun G H σ ρ pd D' D R1 h e => q1 G H σ ρ pd _ _ R1 h fun b ρ' H' R2 g => ?_⟩
  cases b with
  | true => exact (q2 G H' σ ρ' pd D' D R2 (g.1 rfl) e : _)
  | false => exact (q3 G H' σ ρ' pd D' D R2 (g.2 rfl) e : _)

/-! ### stores -/
def qSet (i : Nat) (t : QT) (D : PEnds) (ρ : En) : Prop := t ρ fun r ρ1 => match r.wk with
  | .pv p => notIo ρ1 i = true ∧ D.nx (ρ1.set i (.val p))
  | _ => False
/-- the slot owns what is new -/
def qOwn (i : Nat) (t : QT) (D : PEnds) (ρ : En) : Prop := t ρ fun r ρ1 => match r with
  | .fr p => notIo ρ1 i = true ∧ i < ρ1.length ∧ isNst p = false ∧ D.nx (ρ1.set i (.own false p))
  | _ => False
theorem rz_set {K : PySem.W.Frag} {t : TE} {i : Nat} (q : Rz K t te) : RzS K (tAsg t (gName i)) (qSet i te) := by
  intro G H σ ρ pd D' D R1 h e
  refine q G H σ ρ pd _ _ R1 h fun r ρ' v H' s g => ?_
  have s' := s.wk
  cases er : r.wk with
  | pv p =>
    rw [er] at s' g
    exact e.nx _ _ H' (RE.set s' g.1) g.2
  | sl j => rw [er] at g; exact g.elim
  | fr p => rw [er] at g; exact g.elim
theorem rz_own {K : PySem.W.Frag} {t : TE} {i : Nat} (q : Rz K t te) : RzS K (tAsg t (gName i)) (qOwn i te) := by
  intro G H σ ρ pd D' D R1 h e
  refine q G H σ ρ pd _ _ R1 h fun r ρ' v H' s g => ?_
  cases r with
  | fr p =>
    obtain ⟨a, o, rfl, n, kx, R2, w⟩ := s
    exact e.nx _ _ H' (R2.setOwn g.1 g.2.1 n kx w g.2.2.1) g.2.2.2
  | pv p => exact g.elim
  | sl j => exact g.elim
section
variable {x : Str} {i : Nat} {pos' : Pos}
theorem qs_set (i : Nat) (hN : X.N.Nodup) (he : QE X e te) (hi : X.N[i]? = some x := by rfl) (hx : Loc X.env.scope x := by first | exact Or.inl rfl | exact Or.inr rfl) (hs : swapsWith e (some (.Name x pos')) pos.line X.env = pure false := by rfl) (hf : X.fn x = true ∨ X.env.scope.names.lookup x = some .local := by first | exact .inl rfl | exact .inr rfl) :
    QS X (.Assign [.Name x pos'] e pos) (qSet i te) := by
  obtain ⟨t, p, q⟩ := he.ex
  exact ⟨_, ps_set hN hi hx p hs hf, rz_set q⟩
theorem qs_own (i : Nat) (hN : X.N.Nodup) (he : QE X e te) (hi : X.N[i]? = some x := by rfl) (hx : Loc X.env.scope x := by first | exact Or.inl rfl | exact Or.inr rfl) (hs : swapsWith e (some (.Name x pos')) pos.line X.env = pure false := by rfl) (hf : X.fn x = true ∨ X.env.scope.names.lookup x = some .local := by first | exact .inl rfl | exact .inr rfl) :
    QS X (.Assign [.Name x pos'] e pos) (qOwn i te) := by
  obtain ⟨t, p, q⟩ := he.ex
  exact ⟨_, ps_set hN hi hx p hs hf, rz_own q⟩
end
section
variable {elt tg iter : Expr} {ifs : List Expr} {scope : Scope} {own : List (Str × Nat)} {spos py : Pos} {y : Str} {tt : QTT}
theorem ex_setLc (i : Nat) (hc : X.calm = true) (hN : X.N.Nodup) (hsw : swapsWith (.ListComp elt [⟨tg, iter, ifs, 0⟩] scope pos) (some (.Name y py)) spos.line X.env = pure true) (ok : BlkOk X.N X.env.scope scope own) (hi : QI X tg iter ti) (hg : ∀ c, QG (blkX X scope c) tg sl g) (ht : ∀ c, QCs (blkX X scope c) ifs tt) (he : ∀ c, QE (blkX X scope c) elt te)
    (hs : ∀ i ∈ sl, i ∈ own.map (·.2)) (hy : X.N[i]? = some y) (hyl : X.env.scope.names.lookup y = some .local) (hf : ∀ x, foldedSetIterable iter X.env x = pure x) :
    ∃ t, PS X (.Assign [.Name y py] (.ListComp elt [⟨tg, iter, ifs, 0⟩] scope pos) spos) (tAsg t (gName i)) ∧ Rz X.K t (qLc ti g tt te (own.map (·.2))) := by
  obtain ⟨wi, p1, q1⟩ := hi.ex
  obtain ⟨g1, p2, q2⟩ := QG.all (X := blkX X scope) (K := X.K) (fun _ => rfl) hg
  obtain ⟨t1, p3, q3⟩ := QCs.all (X := blkX X scope) (K := X.K) (fun _ => rfl) ht
  obtain ⟨e1, p4, q4⟩ := QE.all (X := blkX X scope) (K := X.K) (fun _ => rfl) he
  exact ⟨_, ps_setLc hc hN hy hyl hsw p1 ok (fun s H C cl fp => p2 (s, H, C, cl, fp)) (fun s H C cl fp => p3 (s, H, C, cl, fp)) (fun s H C cl fp => p4 (s, H, C, cl, fp)) hf, rz_lc q1 q2 q3 q4 hs⟩
theorem qs_setLc (i : Nat) (hc : X.calm = true) (hN : X.N.Nodup) (hsw : swapsWith (.ListComp elt [⟨tg, iter, ifs, 0⟩] scope pos) (some (.Name y py)) spos.line X.env = pure true) (ok : BlkOk X.N X.env.scope scope own) (hi : QI X tg iter ti) (hg : ∀ c, QG (blkX X scope c) tg sl g) (ht : ∀ c, QCs (blkX X scope c) ifs tt) (he : ∀ c, QE (blkX X scope c) elt te)
    (hs : ∀ i ∈ sl, i ∈ own.map (·.2) := by decide) (hy : X.N[i]? = some y := by rfl) (hyl : X.env.scope.names.lookup y = some .local := by rfl) (hf : ∀ x, foldedSetIterable iter X.env x = pure x := by intro _; rfl) {vs : List Nat} (hv : vs = own.map (·.2) := by rfl) :
    QS X (.Assign [.Name y py] (.ListComp elt [⟨tg, iter, ifs, 0⟩] scope pos) spos) (qSet i (qLc ti g tt te vs)) := by
  subst hv
  obtain ⟨t, p, q⟩ := ex_setLc i hc hN hsw ok hi hg ht he hs hy hyl hf
  exact ⟨_, p, rz_set q⟩
theorem qs_ownLc (i : Nat) (hc : X.calm = true) (hN : X.N.Nodup) (hsw : swapsWith (.ListComp elt [⟨tg, iter, ifs, 0⟩] scope pos) (some (.Name y py)) spos.line X.env = pure true) (ok : BlkOk X.N X.env.scope scope own) (hi : QI X tg iter ti) (hg : ∀ c, QG (blkX X scope c) tg sl g) (ht : ∀ c, QCs (blkX X scope c) ifs tt) (he : ∀ c, QE (blkX X scope c) elt te)
    (hs : ∀ i ∈ sl, i ∈ own.map (·.2) := by decide) (hy : X.N[i]? = some y := by rfl) (hyl : X.env.scope.names.lookup y = some .local := by rfl) (hf : ∀ x, foldedSetIterable iter X.env x = pure x := by intro _; rfl) {vs : List Nat} (hv : vs = own.map (·.2) := by rfl) :
    QS X (.Assign [.Name y py] (.ListComp elt [⟨tg, iter, ifs, 0⟩] scope pos) spos) (qOwn i (qLc ti g tt te vs)) := by
  subst hv
  obtain ⟨t, p, q⟩ := ex_setLc i hc hN hsw ok hi hg ht he hs hy hyl hf
  exact ⟨_, p, rz_own q⟩
end
def qAsg (t : QT) (g : QTG) (D : PEnds) (ρ : En) : Prop := t ρ fun r ρ1 => match r.wk with
  | .pv p => g p ρ1 D.nx
  | _ => False
theorem qs_asg (he : QE X e te) (hg : QG X tg sl g) (hs : swapsWithSole [tg] e pos.line X.env = pure false := by rfl) (hw : swappedStores [tg] e X.env = pure none := by rfl)
    (h1 : (assignEach [tg] X.env).map (·.2) = [assign tg X.env] := by rfl) : QS X (.Assign [tg] e pos) (qAsg te g) := by
  obtain ⟨t, p, q⟩ := he.ex
  obtain ⟨g1, p1, q1⟩ := hg.ex
  refine ⟨_, ps_asg p p1 hs hw h1, fun G H σ ρ pd D' D R1 h e => ?_⟩
  refine q G H σ ρ pd _ _ R1 h fun r ρ' v H' s g => ?_
  have s' := s.wk
  cases er : r.wk with
  | pv p =>
    rw [er] at s' g
    exact q1 G H' σ ρ' pd p v _ _ s' g fun σ2 ρ2 H2 _ _ R2 g2 => e.nx σ2 ρ2 H2 R2 g2
  | sl j => rw [er] at g; exact g.elim
  | fr p => rw [er] at g; exact g.elim

/-! ### loops -/
def forGo (g : QTG) (body : QTS) (D : PEnds) : List PV → En → Prop
  | [], ρ => D.nx ρ
  | p :: ps, ρ => g p ρ fun ρ1 => body { nx := fun ρ2 => forGo g body D ps ρ2, rt := D.rt, bk := D.nx, ct := fun ρ2 => forGo g body D ps ρ2 } ρ1
def qFor (ti : QTI) (g : QTG) (body : QTS) (D : PEnds) (ρ : En) : Prop := ti ρ fun ps ρ1 => forGo g body D ps ρ1
theorem for_walk {X : Cx} {g1 : TG} {t1 : TS} {g : QTG} {t : QTS} {sl : List Nat} (q2 : RzG X.K g1 sl g) (q3 : RzS X.K t1 t) {G : Gd} {H1 : Hp} {σ : L2.St} {ρ1 : En} {pd pd1 : Pds} {J : It} {ps : List PV} {D' : PEnds} {D : Ends} (sb : ∀ x ∈ pd, x ∈ pd1) (R2 : RE X.K G H1 σ ρ1 pd1) (wk : Wk X.K J ps pd1 G.keep) (go : forGo g t D' ps ρ1) (e : EndsOk X.K G pd D' D) :
    ∃ W : Nat → Nat → L2.St → Hp → Prop, (∃ m, W 0 m σ H1) ∧ ∀ i m σ H, W i m σ H → (J.stop i H ∧ D.nx σ H) ∨ (J.go i H ∧ ∃ N : L2.St → Hp → Prop, (∀ σ' H', N σ' H' → ∃ m', m' < m ∧ W (i + 1) m' σ' H') ∧ ∀ v H', J.yld i H v H' → g1 v σ H' fun σ2 H2 => t1 { D with nx := N, ct := N, bk := D.nx } σ2 H2) := by
  let W : Nat → Nat → L2.St → Hp → Prop := fun i m σ H => m = ps.length - i ∧ i ≤ ps.length ∧ ∃ ρ, RE X.K G H σ ρ pd1 ∧ forGo g t D' (ps.drop i) ρ
  refine ⟨W, ⟨ps.length, by simp, Nat.zero_le _, ρ1, R2, go⟩, ?_⟩
  rintro i m σ H ⟨rfl, hi, ρ2, R3, g3⟩
  by_cases lt : i < ps.length
  · have ep : ps[i]? = some ps[i] := List.getElem?_eq_getElem lt
    obtain ⟨jg, jy⟩ := wk.item G H σ ρ2 pd1 i _ (fun _ hx => hx) (fun _ _ e => e) R3 ep
    refine .inr ⟨jg, fun σ' H' => W (i + 1) (ps.length - (i + 1)) σ' H', fun σ' H' w => ⟨_, by omega, w⟩, fun x H' y => ?_⟩
    rw [List.drop_eq_getElem_cons lt] at g3
    refine q2 G H' σ ρ2 pd1 _ x _ _ (jy x H' y) g3 fun σ3 ρ3 H3 _ _ R4 g4 => ?_
    have e1 := e.more sb
    exact q3 G H3 σ3 ρ3 pd1 _ _ R4 g4 ⟨fun σ ρ H R h => ⟨rfl, lt, ρ, R, h⟩, e1.rt, e1.nx, fun σ ρ H R h => ⟨rfl, lt, ρ, R, h⟩⟩
  · have el : i = ps.length := by omega
    subst el
    rw [List.drop_length] at g3
    exact .inl ⟨wk.stop G H σ ρ2 pd1 _ (fun _ hx => hx) (fun _ _ e => e) R3 (Nat.le_refl _), (e.more sb).nx σ ρ2 H R3 g3⟩
theorem qs_for (hp : PassesOwn (model X.prog X.w) X.A X.env X.xe) (hc : X.calm = true) (hi : QI X tg iter ti) (hg : QG X tg sl g) (hb : QSs X body t)
    (hs : ∀ x, foldedSetIterable iter X.env x = pure x := by intro _; rfl) : QS X (.For tg iter body [] pos) (qFor ti g t) := by
  obtain ⟨wi, p1, q1⟩ := hi.ex
  obtain ⟨g1, p2, q2⟩ := hg.ex
  obtain ⟨t1, p3, q3⟩ := hb.ex
  refine ⟨_, ps_for hp hc p1 p2 p3 hs, fun G H σ ρ pd D' D R1 h e => ?_⟩
  exact q1 G H σ ρ pd _ _ R1 h fun J ps ρ1 pd1 H1 sb R2 wk go => for_walk q2 q3 sb R2 wk go e
def qWhile (c : QTT) (body : QTS) (D : PEnds) (ρ : En) : Prop := ∃ I : Nat → En → Prop, (∃ m, I m ρ) ∧ ∀ m ρ, I m ρ →
  c ρ fun b ρ1 => Br b (body { nx := fun ρ' => ∃ m', m' < m ∧ I m' ρ', rt := D.rt, bk := D.nx, ct := fun ρ' => ∃ m', m' < m ∧ I m' ρ' } ρ1) (D.nx ρ1)
theorem qs_while (hp : PassesOwn (model X.prog X.w) X.A X.env X.xe) (hc : QC X c tc) (hb : QSs X body t) : QS X (.While c body [] pos) (qWhile tc t) := by
  obtain ⟨t1, p1, q1⟩ := hc.ex
  obtain ⟨t2, p2, q2⟩ := hb.ex
  refine ⟨_, ps_while hp p1 p2, fun G H σ ρ pd D' D R1 h e => ?_⟩
  obtain ⟨I, ⟨m0, i0⟩, turn⟩ := h
  refine ⟨fun m σ H => ∃ ρ, RE X.K G H σ ρ pd ∧ I m ρ, ⟨m0, ρ, R1, i0⟩, ?_⟩
  rintro m σ H ⟨ρ2, R2, i2⟩
  refine q1 G H σ ρ2 pd _ _ R2 (turn m ρ2 i2) fun b ρ3 H3 R3 g => ?_
  cases b with
  | true =>
    refine ⟨fun σ' H' => ∃ m', m' < m ∧ ∃ ρ, RE X.K G H' σ' ρ pd ∧ I m' ρ, fun σ' H' h => h, ?_⟩
    exact q2 G H3 σ ρ3 pd _ _ R3 (g.1 rfl) ⟨fun σ ρ H R ⟨m', l, i⟩ => ⟨m', l, ρ, R, i⟩, e.rt, e.nx, fun σ ρ H R ⟨m', l, i⟩ => ⟨m', l, ρ, R, i⟩⟩
  | false => exact e.nx σ ρ3 H3 R3 (g.2 rfl)

/-! ### what a slot owns, changed -/
abbrev GM := PV → List PV → (PV → PV → Prop) → Prop
def RealM (K : PySem.W.Frag) (T : String) (r : V → List V → Hp → VK → Prop) (f : GM) : Prop := ∀ (H : Hp) (W : Addr → Prop) (p : PV) (a : Addr) (o : HO) (ps : List PV) (xs : List V) (Q : PV → PV → Prop) (F : VK), MutT H W → W a → H a = some o → OwnO K H W p o → Iss K H W ps xs → f p ps Q →
  (∀ v o' z p', OwnO K H W p' o' → Is K H W z v → Q z p' → F v (upd H a o')) → r (.ref a) xs H F
def MtP (X : Cx) (T : String) (id : String) (f : GM) : Prop := ∃ r, MtR X id r ∧ RealM X.K T r f
/-- what type a slot's own object has -/
def ownTy (T : String) (ρ : En) (i : Nat) : Prop := match ρ[i]? with
  | some (Sl.own _ (.lst _)) => T = "list"
  | some (Sl.own _ (.dic _ _)) => T = "dict"
  | _ => False
def qMut (T : String) (i : Nat) (f : GM) (ta : QTA) (ρ : En) (Q : PK1) : Prop := ownTy T ρ i ∧ ta ρ fun rs ρ1 => match vals rs, ρ1[i]? with
  | some ps, some (Sl.own b p) => f p ps fun z p' => isNst p' = false ∧ Q (.pv z) (ρ1.set i (.own b p'))
  | _, _ => False
theorem ty_own {K : PySem.W.Frag} {G : Gd} {H : Hp} {σ : L2.St} {ρ : En} {pd : Pds} {T : String} {i : Nat} {a : Addr} (R1 : RE K G H σ ρ pd) (h : ownTy T ρ i) (e : σ[i]? = some (some (V.ref a))) : tyV K T (.ref a) H := by
  unfold ownTy at h
  cases es : ρ[i]? with
  | none => rw [es] at h; exact h.elim
  | some s =>
    rw [es] at h
    cases s with
    | own b p =>
      obtain ⟨c, e1, _, o, e2, w⟩ := R1.own i b p es
      rw [e] at e1; cases e1
      cases p with
      | lst ps =>
        cases o with
        | lst vs => exact .inl ⟨h, vs, .inl (.inl e2)⟩
        | _ => exact w.elim
      | dic ks ps =>
        cases o with
        | dK kvs => exact .inr (.inr (.inl ⟨h, .inl ⟨kvs, e2⟩⟩))
        | _ => exact w.elim
      | _ => exact h.elim
    | _ => exact h.elim
theorem own_at {ρ : En} {T : String} {i : Nat} (h : ownTy T ρ i) : ∃ b p, ρ[i]? = some (Sl.own b p) := by
  unfold ownTy at h
  cases es : ρ[i]? with
  | none => rw [es] at h; exact h.elim
  | some s =>
    rw [es] at h
    cases s with
    | own b p => exact ⟨b, p, rfl⟩
    | _ => exact h.elim
theorem rz_mut {K : PySem.W.Frag} {T : String} {i : Nat} {r : V → List V → Hp → VK → Prop} {f : GM} (hr : RealM K T r f) {G : Gd} {H H1 : Hp} {σ : L2.St} {ρ ρ1 : En} {pd pd1 : Pds} {rs : List R} {vs : List V} {a : Addr} {Q : PK1} {F : VK} (sb : ∀ x ∈ pd, x ∈ pd1) (e : σ[i]? = some (some (V.ref a)))
    (R2 : RE K G H1 σ ρ1 pd1) (ar : ArgsR σ pd1 rs vs) (g : match vals rs, ρ1[i]? with
      | some ps, some (Sl.own b p) => f p ps fun z p' => isNst p' = false ∧ Q (.pv z) (ρ1.set i (.own b p'))
      | _, _ => False) (ff : ∀ r ρ' v H', Res K G H' σ ρ' pd r v → Q r ρ' → F v H') : r (.ref a) vs H1 F := by
  cases ev : vals rs with
  | none => rw [ev] at g; exact g.elim
  | some ps =>
    cases es : ρ1[i]? with
    | none => rw [ev, es] at g; exact g.elim
    | some s =>
      rw [ev, es] at g
      cases s with
      | un => exact g.elim
      | val p => exact g.elim
      | own b p =>
        obtain ⟨c, e1, k, o, e2, w⟩ := R2.own i b p es
        rw [e] at e1; cases e1
        have Wa : WS G σ ρ1 a := .inr ⟨i, b, p, es, e⟩
        refine hr H1 _ p a o ps vs _ F R2.mut Wa e2 w (vals_iss R2 ar ev) g fun v o' z p' w' hz hq => ?_
        exact ff (.pv z) _ v _ (((R2.push hz).mutate es e w' fun c s z2 => by rw [z2] at hq; cases hq.1).pds fun x hx => by
          rcases List.mem_cons.mp hx with e | hx
          · rw [e]; exact List.mem_cons_self
          · exact List.mem_cons_of_mem _ (sb x hx)) hq.2
section
variable {T id name : String} {x : Str} {ar : Expr} {es : List Expr} {ta : QTA} {f : GM} {apos npos cpos : Pos}
theorem qe_mut {nm : Str} (i : Nat) (hm : MtP X T id f) (pa : PlainAttrs T) (slot : Slot T nm id) (hty : typeOf (.builtin id) = pure (.type "method_descriptor")) (ha : QA X (ar :: es) ta) (hN : X.N[i]? = some x := by rfl) (hv : Vis X.env.scope x := by first | exact Or.inl rfl | exact Or.inr (Or.inl rfl) | exact Or.inr (Or.inr rfl)) (hd : (x == ("__debug__" : Str)) = false := by decide)
    (hcd : (x == ("__classdict__" : Str)) = false := by decide)
    (hbase : attributeBase (.Name x npos) nm X.env (eval (.Name x npos) X.env) = eval (.Name x npos) X.env := by rfl)
    (hfew : ((backTo cpos (starEach (ar :: es) X.env)).all (fun x => !x.1) && (backToKw cpos (keywordEach [] X.env)).all (fun x => x.1.isSome)
      && decide ((ar :: es).length + ([] : List Keyword).length + (if ([] : List Keyword).isEmpty then 0 else 1) < 30)) = true := by rfl)
    (hline : (apos.endLine == cpos.line) = true := by rfl) (hs : starEach (ar :: es) X.env = (false, eval ar X.env) :: starEach es X.env := by rfl) (hplain : (backTo cpos (starEach es X.env)).any (·.1) = false := by rfl) :
    QE X (.Call (.Attribute (.Name x npos) nm apos) (ar :: es) [] cpos) (qMut T i f ta) := by
  obtain ⟨r, h1, h2⟩ := hm
  obtain ⟨t, p, q⟩ := ha.ex
  refine ⟨_, pe_bm pa slot hty h1 (pe_var hN hv hd hcd) p hbase hfew hline hs hplain, fun G H σ ρ pd Q F R1 h ff => ?_⟩
  obtain ⟨b, p0, e0⟩ := own_at h.1
  obtain ⟨a, e, _⟩ := R1.own i b p0 e0
  refine ⟨.ref a, e, ty_own R1 h.1 e, ?_⟩
  exact q G H σ ρ pd _ _ R1 h.2 fun rs ρ1 pd1 vs H1 sb R2 ar g => rz_mut h2 (H := H) (ρ := ρ) sb e R2 ar g ff
theorem qe_mut0 {nm : Str} (i : Nat) (hm : MtP X T id f) (pa : PlainAttrs T) (slot : Slot T nm id) (hty : typeOf (.builtin id) = pure (.type "method_descriptor")) (hN : X.N[i]? = some x := by rfl) (hv : Vis X.env.scope x := by first | exact Or.inl rfl | exact Or.inr (Or.inl rfl) | exact Or.inr (Or.inr rfl)) (hd : (x == ("__debug__" : Str)) = false := by decide)
    (hcd : (x == ("__classdict__" : Str)) = false := by decide)
    (hbase : attributeBase (.Name x npos) nm X.env (eval (.Name x npos) X.env) = eval (.Name x npos) X.env := by rfl) (hline : (apos.endLine == cpos.line) = true := by rfl) :
    QE X (.Call (.Attribute (.Name x npos) nm apos) [] [] cpos) (qMut T i f qNil) := by
  obtain ⟨r, h1, h2⟩ := hm
  refine ⟨_, pe_bm0 pa slot hty h1 (pe_var hN hv hd hcd) hbase hline, fun G H σ ρ pd Q F R1 h ff => ?_⟩
  obtain ⟨b, p0, e0⟩ := own_at h.1
  obtain ⟨a, e, _⟩ := R1.own i b p0 e0
  refine ⟨.ref a, e, ty_own R1 h.1 e, ?_⟩
  exact rz_mut h2 (H := H) (ρ := ρ) (fun _ hx => hx) e R1 .nil h.2 ff
end
def gAppend (p : PV) (ps : List PV) (Q : PV → PV → Prop) : Prop := match p, ps with
  | .lst xs, [q] => small (xs.length + 1) ∧ Q .non (.lst (xs ++ [q]))
  | _, _ => False
theorem gAppend_inv {p : PV} {ps : List PV} {Q : PV → PV → Prop} (g : gAppend p ps Q) : ∃ xs q, p = .lst xs ∧ ps = [q] ∧ small (xs.length + 1) ∧ Q .non (.lst (xs ++ [q])) := by
  unfold gAppend at g
  split at g
  · exact ⟨_, _, rfl, rfl, g⟩
  · exact g.elim
theorem OwnO.lst {K : PySem.W.Frag} {H : Hp} {W : Addr → Prop} {ps : List PV} {o : HO} (w : OwnO K H W (.lst ps) o) : ∃ vs, o = .lst vs ∧ Iss K H W ps vs := by
  cases o with
  | lst vs => exact ⟨vs, rfl, w⟩
  | _ => exact w.elim
theorem Iss.one {K : PySem.W.Frag} {H : Hp} {W : Addr → Prop} {p : PV} {xs : List V} (i : Iss K H W [p] xs) : ∃ v, xs = [v] ∧ Is K H W p v := by
  obtain ⟨v, r, rfl, h1, h2⟩ := i
  cases (show r = [] from h2)
  exact ⟨v, rfl, h1⟩
theorem m_append : MtP X "list" "list.append" gAppend := by
  refine ⟨_, mt_append, fun H W p a o ps xs Q F m wa e w i g f => ?_⟩
  obtain ⟨qs, q, rfl, rfl, sm, g⟩ := gAppend_inv g
  obtain ⟨vs, rfl, w⟩ := w.lst
  obtain ⟨v, rfl, h1⟩ := i.one
  exact ⟨a, vs, v, rfl, rfl, e, by have z := small_lt sm; rw [w.length] at z; exact z, f .non (.lst (vs ++ [v])) .non (.lst (qs ++ [q])) (Iss.append w (Iss.cons h1 Iss.nil)) rfl g⟩
def gExtend (p : PV) (ps : List PV) (Q : PV → PV → Prop) : Prop := match p, ps with
  | .lst xs, [.lst ys] => small (xs.length + ys.length) ∧ Q .non (.lst (xs ++ ys))
  | .lst xs, [.tup ys] => small (xs.length + ys.length) ∧ Q .non (.lst (xs ++ ys))
  | _, _ => False
theorem MtR.or' {id : String} {r r' : V → List V → Hp → VK → Prop} (h : MtR X id r) (h' : MtR X id r') : MtR X id (fun x xs H Q => r x xs H Q ∨ r' x xs H Q) := MtR.or h h'
theorem gExtend_inv {p : PV} {ps : List PV} {Q : PV → PV → Prop} (g : gExtend p ps Q) : ∃ xs ys, p = .lst xs ∧ (ps = [.lst ys] ∨ ps = [.tup ys]) ∧ small (xs.length + ys.length) ∧ Q .non (.lst (xs ++ ys)) := by
  unfold gExtend at g
  split at g
  · exact ⟨_, _, rfl, .inl rfl, g⟩
  · exact ⟨_, _, rfl, .inr rfl, g⟩
  · exact g.elim
theorem m_extend : MtP X "list" "list.extend" gExtend := by
  refine ⟨_, MtR.or' mt_extend mt_extT, fun H W p a o ps xs Q F m wa e w i g f => ?_⟩
  obtain ⟨qs, ys, rfl, hp, sm, g'⟩ := gExtend_inv g
  obtain ⟨vs, rfl, w⟩ := w.lst
  rcases hp with rfl | rfl
  · obtain ⟨v, rfl, h1⟩ := i.one
    obtain ⟨b, us, rfl, n, hb, hu⟩ : ∃ b us, v = .ref b ∧ ¬ W b ∧ H b = some (.lst us) ∧ Iss X.K H W ys us := h1
    exact .inl ⟨a, b, vs, us, rfl, rfl, e, hb, by have z := small_le sm; rw [w.length, hu.length] at z; exact z, f .non (.lst (vs ++ us)) .non (.lst (qs ++ ys)) (Iss.append w hu) rfl g'⟩
  · obtain ⟨v, rfl, h1⟩ := i.one
    obtain ⟨b, us, rfl, hb, hu⟩ : ∃ b us, v = .ref b ∧ H b = some (.tup us) ∧ Iss X.K H W ys us := h1
    exact .inr ⟨a, b, vs, us, rfl, rfl, e, .inl (.inl hb), by have z := small_le sm; rw [w.length, hu.length] at z; exact z, f .non (.lst (vs ++ us)) .non (.lst (qs ++ ys)) (Iss.append w hu) rfl g'⟩
def gPop (p : PV) (ps : List PV) (Q : PV → PV → Prop) : Prop := match p, ps with
  | .lst xs, [] => match xs.getLast? with
    | some q => Q q (.lst xs.dropLast)
    | none => False
  | _, _ => False
theorem Iss.dropLast {K : PySem.W.Frag} {H : Hp} {W : Addr → Prop} {ps : List PV} {vs : List V} (h : Iss K H W ps vs) : Iss K H W ps.dropLast vs.dropLast := by
  rw [List.dropLast_eq_take, List.dropLast_eq_take, h.length]
  exact h.take _
theorem gPop_inv {p : PV} {ps : List PV} {Q : PV → PV → Prop} (g : gPop p ps Q) : ∃ xs q, p = .lst xs ∧ ps = [] ∧ xs.getLast? = some q ∧ Q q (.lst xs.dropLast) := by
  unfold gPop at g
  split at g
  · split at g
    · rename_i h; exact ⟨_, _, rfl, rfl, h, g⟩
    · exact g.elim
  · exact g.elim
theorem m_pop : MtP X "list" "list.pop" gPop := by
  refine ⟨_, mt_pop, fun H W p a o ps xs Q F m wa e w i g f => ?_⟩
  obtain ⟨qs, q, rfl, rfl, eq, g⟩ := gPop_inv g
  obtain ⟨vs, rfl, w⟩ := w.lst
  cases (show xs = [] from i)
  rw [List.getLast?_eq_getElem?] at eq
  obtain ⟨v, hv, hi⟩ := w.getP eq
  exact ⟨a, vs, v, rfl, rfl, e, by rw [← w.length]; exact hv, f v (.lst vs.dropLast) q (.lst qs.dropLast) (Iss.dropLast w) hi g⟩
def isOwn (ρ : En) (i : Nat) : Prop := match ρ[i]? with
  | some (Sl.own _ _) => True
  | _ => False
theorem isOwn.ex {ρ : En} {i : Nat} (h : isOwn ρ i) : ∃ b p, ρ[i]? = some (Sl.own b p) := by
  unfold isOwn at h
  cases es : ρ[i]? with
  | none => rw [es] at h; exact h.elim
  | some s =>
    rw [es] at h
    cases s with
    | own b p => exact ⟨b, p, rfl⟩
    | _ => exact h.elim
/-- xs[k] = e, xs a slot's own list -/
def qSetIx (i : Nat) (t ti : QT) (D : PEnds) (ρ : En) : Prop := t ρ fun r ρ1 => match r.wk with
  | .pv q => isOwn ρ1 i ∧ ti ρ1 fun r2 ρ2 => match ρ2[i]? with
    | some (Sl.own b (.lst ps)) => match r2 with
      | .pv (.int k) => match ixN ps.length k with
        | some j => D.nx (ρ2.set i (.own b (.lst (ps.set j q))))
        | none => False
      | _ => False
    | some (Sl.own b (.dic ks ps)) => match r2 with
      | .pv p => match keyP p with
        | some k => small (ks.length + 1) ∧ D.nx (ρ2.set i (.own b (.dic (putKs ks k) (putPs ks ps k q))))
        | none => False
      | _ => False
    | _ => False
  | _ => False
theorem qs_setIx {x : Str} {ix : Expr} {tix : QT} {npos spos' : Pos} (hu : X.A.units + 65 < cLine) (i : Nat) (he : QE X e te) (hi : QE X ix tix) (hN : X.N[i]? = some x := by rfl) (hv : Vis X.env.scope x := by first | exact Or.inl rfl | exact Or.inr (Or.inl rfl) | exact Or.inr (Or.inr rfl)) (hd : (x == ("__debug__" : Str)) = false := by decide)
    (hcd : (x == ("__classdict__" : Str)) = false := by decide)
    (ha : ∀ v, assign (.Subscript (.Name x npos) ix spos') X.env v = (do
      let ov ← holding [v] (eval (.Name x npos) X.env)
      let iv ← holding [v, ov] (eval ix X.env)
      standAt spos'
      holding [v, ov, iv] (setItem ov iv v)
      release [v, ov, iv] []) := by intro _; rfl)
    (hs : swapsWithSole [.Subscript (.Name x npos) ix spos'] e pos.line X.env = pure false := by rfl) (hw : swappedStores [.Subscript (.Name x npos) ix spos'] e X.env = pure none := by rfl)
    (h1 : (assignEach [.Subscript (.Name x npos) ix spos'] X.env).map (·.2) = [assign (.Subscript (.Name x npos) ix spos') X.env] := by rfl) :
    QS X (.Assign [.Subscript (.Name x npos) ix spos'] e pos) (qSetIx i te tix) := by
  obtain ⟨t, p, q⟩ := he.ex
  obtain ⟨t2, p2, q2⟩ := hi.ex
  refine ⟨_, ps_asg p (pg_sub (pe_var hN hv hd hcd) p2 (PSet.or set_list (set_dict hu)) ha) hs hw h1, fun G H σ ρ pd D' D R1 h ee => ?_⟩
  refine q G H σ ρ pd _ _ R1 h fun r ρ1 v H1 s g => ?_
  have s' := s.wk
  cases er : r.wk with
  | sl j => rw [er] at g; exact g.elim
  | fr p => rw [er] at g; exact g.elim
  | pv qv =>
    rw [er] at s' g
    have R2 : RE X.K G H1 σ ρ1 ((qv, v) :: pd) := s'
    obtain ⟨ho, g⟩ := g
    obtain ⟨b0, p0, e0⟩ := ho.ex
    obtain ⟨a, ea, _⟩ := R2.own i b0 p0 e0
    refine ⟨.ref a, ea, ?_⟩
    refine q2 G H1 σ ρ1 _ _ _ R2 g fun r2 ρ2 kv H2 s2 g2 => ?_
    cases es : ρ2[i]? with
    | none => rw [es] at g2; exact g2.elim
    | some sv =>
      rw [es] at g2
      cases sv with
      | un => exact g2.elim
      | val p => exact g2.elim
      | own b pp =>
        cases r2 with
        | sl _ => cases pp <;> exact g2.elim
        | fr _ => cases pp <;> exact g2.elim
        | pv kp =>
        have R3 : RE X.K G H2 σ ρ2 ((kp, kv) :: (qv, v) :: pd) := s2
        have hv : Is X.K H2 (WS G σ ρ2) qv v := R3.pd (qv, v) (List.mem_cons_of_mem _ List.mem_cons_self)
        obtain ⟨c, ec, k0, o, Hc, w⟩ := R3.own i b _ es
        rw [ea] at ec; cases ec
        cases pp with
        | lst ps =>
          cases kp with
          | int k =>
            have ek : kv = .int k := R3.pd (.int k, kv) List.mem_cons_self
            subst ek
            cases o with
            | lst vs =>
              have w' : Iss X.K H2 (WS G σ ρ2) ps vs := w
              have g3 : match ixN ps.length k with
                | some j => D'.nx (ρ2.set i (.own b (.lst (ps.set j qv))))
                | none => False := g2
              cases ej : ixN ps.length k with
              | none => rw [ej] at g3; exact g3.elim
              | some j =>
                rw [ej] at g3
                refine .inl ⟨a, vs, k, j, rfl, rfl, Hc, by rw [← w'.length]; exact ej, ?_⟩
                exact ee.nx _ _ _ ((R3.tl.tl).mutate es ea (o' := .lst (vs.set j v)) (p' := .lst (ps.set j qv)) (Iss.set hv j w') fun _ _ z => by cases z) g3
            | _ => exact w.elim
          | _ => exact g2.elim
        | dic ks ps =>
          have g3 : match keyP kp with
            | some k => small (ks.length + 1) ∧ D'.nx (ρ2.set i (.own b (.dic (putKs ks k) (putPs ks ps k qv))))
            | none => False := g2
          cases ek : keyP kp with
          | none => rw [ek] at g3; exact g3.elim
          | some k =>
            rw [ek] at g3
            obtain ⟨sm, g3⟩ := g3
            have hk : Is X.K H2 (WS G σ ρ2) kp kv := R3.pd (kp, kv) List.mem_cons_self
            obtain ⟨e5, ko⟩ := keyP_is hk ek
            cases o with
            | dK kvs =>
              obtain ⟨vs, e6, le, ok, w'⟩ : ∃ vs, kvs = ks.zip vs ∧ ks.length = vs.length ∧ ks.all keyOk = true ∧ Iss X.K H2 (WS G σ ρ2) ps vs := w
              subst e6
              obtain ⟨e7, e8⟩ := put_zip (j := k) (v := v) le
              refine .inr ⟨a, _, k, rfl, e5, Hc, by rw [zip_len le]; exact small_lt sm, ?_⟩
              exact ee.nx _ _ _ ((R3.tl.tl).mutate es ea (o' := .dK (putK (ks.zip vs) k v)) (p' := .dic (putKs ks k) (putPs ks ps k qv)) ⟨putPs ks vs k v, e7, e8, putKs_ok ok ko, putPs_is w' hv⟩ fun _ _ z => by cases z) g3
            | _ => exact w.elim
        | _ => exact g2.elim
end
end Px
namespace Px
open PySem L2 PyProof.Rows

/-! ### what a def is promised to do. io: which parameters the caller owns and the def may change; fr: the answer is a new object -/
structure FS where
  io : List Bool
  fr : Bool := false
  pre : List PV → Prop
  post : List PV → PV → List PV → Prop
def mk (io : List Bool) (ps : List PV) : En := List.zipWith (fun b p => if b = true then Sl.own true p else Sl.val p) io ps
def outsOf : List Bool → En → List PV
  | true :: fs, .own _ p :: ρ => p :: outsOf fs ρ
  | true :: fs, _ :: ρ => .non :: outsOf fs ρ
  | false :: fs, _ :: ρ => outsOf fs ρ
  | true :: fs, [] => .non :: outsOf fs []
  | false :: fs, [] => outsOf fs []
  | [], _ => []
/-- the outs by parameter -/
def sel : List Bool → List PV → List (Option PV)
  | true :: fs, q :: qs => some q :: sel fs qs
  | true :: fs, [] => none :: sel fs []
  | false :: fs, qs => none :: sel fs qs
  | [], _ => []
def Iob (io : List Bool) (vs : List V) (b : Addr) : Prop := ∃ i : Nat, io[i]? = some true ∧ vs[i]? = some (V.ref b)
open Classical in
noncomputable def G0 (H : Hp) (io : List Bool) (vs : List V) (ex vo : Addr → Prop) : Gd := ⟨fun b => if Iob io vs b ∨ vo b then none else H b, ex, fun i a => io[i]? = some true ∧ vs[i]? = some (V.ref a), vo⟩
theorem G0_no {H : Hp} {io : List Bool} {vs : List V} {ex vo : Addr → Prop} {b : Addr} (h : Iob io vs b) : (G0 H io vs ex vo).keep b = none := if_pos (.inl h)
theorem G0_vo {H : Hp} {io : List Bool} {vs : List V} {ex vo : Addr → Prop} {b : Addr} (h : vo b) : (G0 H io vs ex vo).keep b = none := if_pos (.inr h)
theorem G0_yes {H : Hp} {io : List Bool} {vs : List V} {ex vo : Addr → Prop} {b : Addr} (h : ¬ Iob io vs b) (h2 : ¬ vo b) : (G0 H io vs ex vo).keep b = H b := if_neg (fun z => z.elim h h2)
theorem G0_of {H : Hp} {io : List Bool} {vs : List V} {ex vo : Addr → Prop} {b : Addr} {o : HO} (e : (G0 H io vs ex vo).keep b = some o) : ¬ Iob io vs b ∧ ¬ vo b ∧ H b = some o := by
  have n : ¬ Iob io vs b := fun z => by rw [G0_no z] at e; cases e
  have n2 : ¬ vo b := fun z => by rw [G0_vo z] at e; cases e
  rw [G0_yes n n2] at e
  exact ⟨n, n2, e⟩
/-- what the caller may count on, behind the call -/
structure Fin (K : PySem.W.Frag) (S : FS) (H : Hp) (ex vo : Addr → Prop) (vs : List V) (v : V) (H' : Hp) (r : PV) (outs : List PV) : Prop where
  keep : ∀ b o, H b = some o → ¬ Iob S.io vs b → ¬ vo b → H' b = some o
  vok : ∀ b, vo b → IntsAt H' b
  nstk : ∀ (i c : Nat) (s : Int), (sel S.io outs)[i]? = some (some (.nst false c s)) → vo c
  outs : ∀ (i : Nat) (q : PV) (a : Addr), (sel S.io outs)[i]? = some (some q) → vs[i]? = some (V.ref a) → Own K H' (fun b => ex b ∨ Iob S.io vs b ∨ (S.fr = true ∧ v = .ref b)) q a
  res : S.fr = false → Is K H' (fun b => ex b ∨ Iob S.io vs b) r v
  new : S.fr = true → ∃ a o, v = .ref a ∧ H a = none ∧ H' a = some o ∧ OwnO K H' (fun b => ex b ∨ Iob S.io vs b ∨ (S.fr = true ∧ v = .ref b)) r o
def spP (K : PySem.W.Frag) (S : FS) : Sp := fun vs H Q _ => ∃ (ps : List PV) (ex vo : Addr → Prop), ps.length = S.io.length ∧ vs.length = S.io.length ∧ RE K (G0 H S.io vs ex vo) H (vs.map some) (mk S.io ps) [] ∧ S.pre ps ∧
  ∀ v H' r outs, S.post ps r outs → outs.length = (S.io.filter id).length → Fin K S H ex vo vs v H' r outs → Q v H'

/-! ### a call -/
def splitArgs (ρ : En) : List Bool → List R → Option (List PV × List Nat)
  | [], [] => some ([], [])
  | false :: fs, .pv p :: rs => match splitArgs ρ fs rs with
    | some (ps, js) => some (p :: ps, js)
    | none => none
  | true :: fs, .sl j :: rs => match ρ[j]?, splitArgs ρ fs rs with
    | some (Sl.own _ p), some (ps, js) => some (p :: ps, j :: js)
    | _, _ => none
  | _, _ => none
def setOwn (ρ : En) (j : Nat) (q : PV) : En := match ρ[j]? with
  | some (Sl.own b _) => ρ.set j (Sl.own b q)
  | _ => ρ
def putOuts : List Nat → List PV → En → En
  | j :: js, q :: qs, ρ => putOuts js qs (setOwn ρ j q)
  | _, _, ρ => ρ
def callR (S : FS) (rs : List R) (ρ1 : En) (Q : PK1) (_ : Dum Q) : Prop := match splitArgs ρ1 S.io rs with
  | some (ps, js) => js.Nodup ∧ S.pre ps ∧ ∀ r outs, S.post ps r outs → outs.length = js.length → Q (if S.fr = true then .fr r else .pv r) (putOuts js outs ρ1)
  | none => False
def qCall (S : FS) (ta : QTA) (ρ : En) (Q : PK1) : Prop := ta ρ fun rs ρ1 => callR S rs ρ1 Q .mk
theorem putOuts_spec : ∀ {js : List Nat} {qs : List PV} {ρ : En}, js.Nodup → qs.length = js.length → (∀ j ∈ js, ∃ b p, ρ[j]? = some (Sl.own b p)) →
    (putOuts js qs ρ).length = ρ.length ∧ (∀ i : Nat, i ∉ js → (putOuts js qs ρ)[i]? = ρ[i]?) ∧ ∀ (k j : Nat) (q : PV), js[k]? = some j → qs[k]? = some q → ∃ b p, ρ[j]? = some (Sl.own b p) ∧ (putOuts js qs ρ)[j]? = some (Sl.own b q)
  | [], qs, ρ, _, l, _ => by
    cases qs with
    | nil => exact ⟨rfl, fun _ _ => rfl, fun k j q e => by simp at e⟩
    | cons _ _ => simp at l
  | j :: js, [], ρ, _, l, _ => by simp at l
  | j :: js, q :: qs, ρ, nd, l, o => by
    obtain ⟨b, p, e⟩ := o j List.mem_cons_self
    have nj : j ∉ js := (List.nodup_cons.mp nd).1
    have es : setOwn ρ j q = ρ.set j (Sl.own b q) := by unfold setOwn; rw [e]
    have lj : j < ρ.length := (List.getElem?_eq_some_iff.mp e).1
    have ih := putOuts_spec (js := js) (qs := qs) (ρ := ρ.set j (Sl.own b q)) (List.nodup_cons.mp nd).2 (by simpa using l) (fun i hi => by
      have ne : j ≠ i := fun z => nj (by rw [z]; exact hi)
      rw [ix_ne ne]
      exact o i (List.mem_cons_of_mem _ hi))
    unfold putOuts
    rw [es]
    refine ⟨by rw [ih.1, List.length_set], fun i hi => ?_, fun k m q' e1 e2 => ?_⟩
    · rw [ih.2.1 i fun z => hi (List.mem_cons_of_mem _ z)]
      exact ix_ne fun z => hi (by rw [z]; exact List.mem_cons_self)
    · cases k with
      | zero =>
        cases e1
        cases e2
        exact ⟨b, p, e, by rw [ih.2.1 _ nj, List.getElem?_set_self lj]⟩
      | succ k =>
        obtain ⟨b', p', h1, h2⟩ := ih.2.2 k m q' (by simpa using e1) (by simpa using e2)
        have ne : j ≠ m := fun z => nj (by rw [z]; exact List.mem_of_getElem? (i := k) (by simpa using e1))
        rw [ix_ne ne] at h1
        exact ⟨b', p', h1, h2⟩
/-- the arguments, one by one: a value, or the j-th slot that the caller owns -/
inductive Spl (σ : L2.St) (ρ : En) (pd : Pds) : List Bool → List V → List PV → List Nat → Prop where
  | nil : Spl σ ρ pd [] [] [] []
  | val {fs : List Bool} {v : V} {vs : List V} {p : PV} {ps : List PV} {js : List Nat} (h : (p, v) ∈ pd) (t : Spl σ ρ pd fs vs ps js) : Spl σ ρ pd (false :: fs) (v :: vs) (p :: ps) js
  | own {fs : List Bool} {v : V} {vs : List V} {p : PV} {ps : List PV} {j : Nat} {js : List Nat} {b : Bool} (e : ρ[j]? = some (Sl.own b p)) (h : σ[j]? = some (some v)) (t : Spl σ ρ pd fs vs ps js) : Spl σ ρ pd (true :: fs) (v :: vs) (p :: ps) (j :: js)
theorem spl_of {σ : L2.St} {ρ : En} {pd : Pds} : ∀ {fs : List Bool} {rs : List R} {vs : List V} {ps : List PV} {js : List Nat}, ArgsR σ pd rs vs → splitArgs ρ fs rs = some (ps, js) → Spl σ ρ pd fs vs ps js
  | [], [], _, _, _, a, e => by cases a; cases e; exact .nil
  | [], _ :: _, _, _, _, a, e => by simp [splitArgs] at e
  | false :: fs, [], _, _, _, a, e => by simp [splitArgs] at e
  | true :: fs, [], _, _, _, a, e => by simp [splitArgs] at e
  | false :: fs, r :: rs, _, _, _, a, e => by
    cases r with
    | pv p =>
      cases a with
      | cons h t =>
        unfold splitArgs at e
        cases e1 : splitArgs ρ fs rs with
        | none => rw [e1] at e; cases e
        | some x => rw [e1] at e; cases e; exact .val h (spl_of t e1)
    | _ => simp [splitArgs] at e
  | true :: fs, r :: rs, _, _, _, a, e => by
    cases r with
    | sl j =>
      cases a with
      | cons h t =>
        unfold splitArgs at e
        cases e2 : ρ[j]? with
        | none => rw [e2] at e; simp at e
        | some s =>
          rw [e2] at e
          cases s with
          | own b p =>
            cases e1 : splitArgs ρ fs rs with
            | none => rw [e1] at e; simp at e
            | some x => rw [e1] at e; cases e; exact .own e2 h (spl_of t e1)
          | _ => simp at e
    | _ => simp [splitArgs] at e
theorem Spl.len {σ : L2.St} {ρ : En} {pd : Pds} {fs : List Bool} {vs : List V} {ps : List PV} {js : List Nat} (s : Spl σ ρ pd fs vs ps js) : vs.length = fs.length ∧ ps.length = fs.length ∧ js.length = (fs.filter id).length := by
  induction s with
  | nil => exact ⟨rfl, rfl, rfl⟩
  | val _ _ ih => exact ⟨by simp [ih.1], by simp [ih.2.1], by simp [ih.2.2]⟩
  | own _ _ _ ih => exact ⟨by simp [ih.1], by simp [ih.2.1], by simp [ih.2.2]⟩
theorem Spl.get {σ : L2.St} {ρ : En} {pd : Pds} {fs : List Bool} {vs : List V} {ps : List PV} {js : List Nat} (s : Spl σ ρ pd fs vs ps js) : ∀ {i : Nat} {b : Bool} {p : PV}, fs[i]? = some b → ps[i]? = some p → ∃ v, vs[i]? = some v ∧
    (b = false → (p, v) ∈ pd) ∧ (b = true → ∃ (j : Nat) (c : Bool), j ∈ js ∧ ρ[j]? = some (Sl.own c p) ∧ σ[j]? = some (some v)) := by
  induction s with
  | nil => intro i b p e; simp at e
  | val h t ih =>
    intro i b p e1 e2
    cases i with
    | zero => cases e1; cases e2; exact ⟨_, rfl, fun _ => h, (fun z => nomatch z)⟩
    | succ i => simpa using ih (i := i) (by simpa using e1) (by simpa using e2)
  | own e h t ih =>
    intro i b p e1 e2
    cases i with
    | zero => cases e1; cases e2; exact ⟨_, rfl, (fun z => nomatch z), fun _ => ⟨_, _, List.mem_cons_self, e, h⟩⟩
    | succ i =>
      obtain ⟨v, h1, h2, h3⟩ := ih (i := i) (by simpa using e1) (by simpa using e2)
      exact ⟨v, by simpa using h1, h2, fun z => let ⟨j, c, m, r⟩ := h3 z; ⟨j, c, List.mem_cons_of_mem _ m, r⟩⟩
/-- the k-th owned slot and its parameter -/
theorem Spl.io {σ : L2.St} {ρ : En} {pd : Pds} {fs : List Bool} {vs : List V} {ps : List PV} {js : List Nat} (s : Spl σ ρ pd fs vs ps js) : ∀ {outs : List PV} {k j : Nat} {q : PV}, js[k]? = some j → outs[k]? = some q → ∃ (i : Nat) (v : V), fs[i]? = some true ∧ vs[i]? = some v ∧ σ[j]? = some (some v) ∧ (sel fs outs)[i]? = some (some q) := by
  induction s with
  | nil => intro outs k j q e; simp at e
  | val h t ih =>
    intro outs k j q e1 e2
    obtain ⟨i, v, h1, h2, h3, h4⟩ := ih e1 e2
    exact ⟨i + 1, v, by simpa using h1, by simpa using h2, h3, by simpa [sel] using h4⟩
  | own e h t ih =>
    intro outs k j q e1 e2
    cases outs with
    | nil => simp at e2
    | cons o outs =>
      cases k with
      | zero => cases e1; cases e2; exact ⟨0, _, rfl, rfl, h, rfl⟩
      | succ k =>
        obtain ⟨i, v, h1, h2, h3, h4⟩ := ih (outs := outs) (k := k) (by simpa using e1) (by simpa using e2)
        exact ⟨i + 1, v, by simpa using h1, by simpa using h2, h3, by simpa [sel] using h4⟩
theorem Spl.js {σ : L2.St} {ρ : En} {pd : Pds} {fs : List Bool} {vs : List V} {ps : List PV} {js : List Nat} (s : Spl σ ρ pd fs vs ps js) : ∀ j ∈ js, ∃ b p, ρ[j]? = some (Sl.own b p) := by
  induction s with
  | nil => intro j hj; simp at hj
  | val _ _ ih => exact ih
  | own e _ _ ih =>
    intro j hj
    rcases List.mem_cons.mp hj with rfl | hj
    · exact ⟨_, _, e⟩
    · exact ih j hj
/-- slot and place apart -/
theorem Spl.same {K : PySem.W.Frag} {G : Gd} {H : Hp} {σ : L2.St} {ρ : En} {pd pd0 : Pds} (R1 : RE K G H σ ρ pd0) {fs : List Bool} {vs : List V} {ps : List PV} {js : List Nat} (s : Spl σ ρ pd fs vs ps js) (nd : js.Nodup) : ∀ {i j : Nat} {a : Addr}, fs[i]? = some true → fs[j]? = some true → vs[i]? = some (V.ref a) → vs[j]? = some (V.ref a) → i = j := by
  induction s with
  | nil => intro i j a e; simp at e
  | val h t ih =>
    intro i j a e1 e2 e3 e4
    cases i with
    | zero => simp at e1
    | succ i =>
      cases j with
      | zero => simp at e2
      | succ j => rw [ih nd (i := i) (j := j) (by simpa using e1) (by simpa using e2) (by simpa using e3) (by simpa using e4)]
  | @own fs v vs p ps m js b e h t ih =>
    intro i j a e1 e2 e3 e4
    have back : ∀ {i : Nat} {a : Addr}, fs[i]? = some true → vs[i]? = some (V.ref a) → v = .ref a → False := fun {i a} f1 f2 f3 => by
      obtain ⟨l1, l2, _⟩ := t.len
      have li : i < ps.length := by rw [l2]; exact (List.getElem?_eq_some_iff.mp f1).1
      obtain ⟨v', g1, _, g2⟩ := t.get f1 (List.getElem?_eq_getElem li)
      obtain ⟨j', c, mj, g3, g4⟩ := g2 rfl
      rw [f2] at g1; cases g1
      subst f3
      have z := R1.inj m j' b c _ _ a e g3 h g4
      exact (List.nodup_cons.mp nd).1 (by rw [z]; exact mj)
    cases i with
    | zero =>
      cases j with
      | zero => rfl
      | succ j =>
        simp at e3
        exact (back (by simpa using e2) (by simpa using e4) e3).elim
    | succ i =>
      cases j with
      | zero =>
        simp at e4
        exact (back (by simpa using e1) (by simpa using e3) e4).elim
      | succ j => rw [ih (List.nodup_cons.mp nd).2 (i := i) (j := j) (by simpa using e1) (by simpa using e2) (by simpa using e3) (by simpa using e4)]
theorem mk_get {io : List Bool} {ps : List PV} {i : Nat} {s : Sl} (h : (mk io ps)[i]? = some s) : ∃ b p, io[i]? = some b ∧ ps[i]? = some p ∧ s = if b = true then Sl.own true p else Sl.val p := by
  unfold mk at h
  rw [List.getElem?_zipWith] at h
  cases e1 : io[i]? with
  | none => rw [e1] at h; simp at h
  | some b =>
    cases e2 : ps[i]? with
    | none => rw [e1, e2] at h; simp at h
    | some p => rw [e1, e2] at h; exact ⟨b, p, rfl, rfl, by simpa using h.symm⟩
theorem mk_own {io : List Bool} {ps : List PV} {i : Nat} {b : Bool} {p : PV} (h : (mk io ps)[i]? = some (Sl.own b p)) : io[i]? = some true ∧ ps[i]? = some p ∧ b = true := by
  obtain ⟨c, q, e1, e2, e3⟩ := mk_get h
  cases c with
  | true => simp at e3; obtain ⟨rfl, rfl⟩ := e3; exact ⟨e1, e2, rfl⟩
  | false => simp at e3
theorem mk_val {io : List Bool} {ps : List PV} {i : Nat} {p : PV} (h : (mk io ps)[i]? = some (Sl.val p)) : io[i]? = some false ∧ ps[i]? = some p := by
  obtain ⟨c, q, e1, e2, e3⟩ := mk_get h
  cases c with
  | true => simp at e3
  | false => simp at e3; subst e3; exact ⟨e1, e2⟩
theorem mk_at {io : List Bool} {ps : List PV} {i : Nat} {b : Bool} {p : PV} (h : io[i]? = some b) (h2 : ps[i]? = some p) : (mk io ps)[i]? = some (if b = true then Sl.own true p else Sl.val p) := by
  unfold mk
  rw [List.getElem?_zipWith, h, h2]
section
variable {K : PySem.W.Frag} {G : Gd} {H H' : Hp} {σ : L2.St} {ρ : En} {pd : Pds} {S : FS} {vs : List V} {ps : List PV} {js : List Nat}
/-- the callee's start -/
theorem call_start (R1 : RE K G H σ ρ pd) (s : Spl σ ρ pd S.io vs ps js) (nd : js.Nodup) : RE K (G0 H S.io vs (fun b => WS G σ ρ b ∧ ¬ Iob S.io vs b) G.vo) H (vs.map some) (mk S.io ps) [] ∧ ∀ b, Iob S.io vs b → WS G σ ρ b := by
  obtain ⟨l1, l2, l3⟩ := s.len
  have iob : ∀ b, Iob S.io vs b → WS G σ ρ b := fun b ⟨i, e1, e2⟩ => by
    have li : i < ps.length := by rw [l2]; exact (List.getElem?_eq_some_iff.mp e1).1
    obtain ⟨v, g1, _, g2⟩ := s.get e1 (List.getElem?_eq_getElem li)
    obtain ⟨j, c, mj, g3, g4⟩ := g2 rfl
    rw [e2] at g1; cases g1
    exact .inr ⟨j, c, _, g3, g4⟩
  have sub : ∀ b, WS (G0 H S.io vs (fun b => WS G σ ρ b ∧ ¬ Iob S.io vs b) G.vo) (vs.map some) (mk S.io ps) b → WS G σ ρ b := fun b w => by
    rcases w with w | ⟨i, c, p, e1, e2⟩
    · exact w.1
    · obtain ⟨f1, f2, rfl⟩ := mk_own e1
      refine iob b ⟨i, f1, ?_⟩
      rw [List.getElem?_map] at e2
      cases e : vs[i]? with
      | none => rw [e] at e2; simp at e2
      | some v => rw [e] at e2; simp at e2; rw [e2]
  have vget : ∀ {i : Nat} {v : V}, vs[i]? = some v → (vs.map some)[i]? = some (some v) := fun {i v} e => by rw [List.getElem?_map, e]; rfl
  have vback : ∀ {i : Nat} {v : V}, (vs.map some)[i]? = some (some v) → vs[i]? = some v := fun {i v} e => by
    rw [List.getElem?_map] at e
    cases q : vs[i]? with
    | none => rw [q] at e; simp at e
    | some u => rw [q] at e; simp at e; rw [e]
  refine ⟨⟨?_, fun i p e => ?_, fun i b p e => ?_, fun i j b c p q a e1 e2 e3 e4 => ?_, fun i a h => ?_, fun b o e => ?_, fun b h hv => ?_, fun x hx => by simp at hx, ⟨fun b h => ?_, fun i b p a e1 e2 => ?_, fun i b c z e1 => ?_⟩⟩, iob⟩
  · unfold mk; rw [List.length_zipWith, List.length_map, l1, l2]; simp
  · obtain ⟨f1, f2⟩ := mk_val e
    obtain ⟨v, g1, g2, _⟩ := s.get f1 f2
    exact ⟨v, vget g1, Is.anti sub _ _ (R1.pd _ (g2 rfl))⟩
  · obtain ⟨f1, f2, rfl⟩ := mk_own e
    obtain ⟨v, g1, _, g2⟩ := s.get f1 f2
    obtain ⟨j, c, mj, g3, g4⟩ := g2 rfl
    obtain ⟨a, h1, h2, o, h3, w⟩ := R1.own j c p g3
    rw [g4] at h1; cases h1
    exact ⟨a, vget g1, G0_no ⟨i, f1, g1⟩, o, h3, w.anti sub⟩
  · obtain ⟨f1, _, _⟩ := mk_own e1
    obtain ⟨f2, _, _⟩ := mk_own e2
    exact s.same R1 nd f1 f2 (vback e3) (vback e4)
  · have li : i < ps.length := by rw [l2]; exact (List.getElem?_eq_some_iff.mp h.1).1
    exact ⟨vget h.2, ps[i], by rw [mk_at h.1 (List.getElem?_eq_getElem li)]; simp⟩
  · exact (G0_of e).2.2
  · have m := R1.mut b h.1
    obtain ⟨o, e⟩ := R1.there h.1
    exact ⟨o, (G0_yes h.2 hv).trans e, by rw [e] at m; exact m⟩
  · obtain ⟨h1, h2, h3⟩ := R1.ext.vo b h
    refine ⟨⟨.inl h1, fun ⟨i, e1, e2⟩ => ?_⟩, G0_vo h, h3⟩
    have li : i < ps.length := by rw [l2]; exact (List.getElem?_eq_some_iff.mp e1).1
    obtain ⟨v, g1, _, g2⟩ := s.get e1 (List.getElem?_eq_getElem li)
    obtain ⟨j, c, mj, g3, g4⟩ := g2 rfl
    rw [e2] at g1; cases g1
    exact R1.ext.off j c _ b g3 g4 h
  · obtain ⟨f1, f2, rfl⟩ := mk_own e1
    obtain ⟨v, g1, _, g2⟩ := s.get f1 f2
    obtain ⟨j, c, mj, g3, g4⟩ := g2 rfl
    have e3 := vback e2
    rw [g1] at e3; cases e3
    exact R1.ext.off j c _ a g3 g4
  · obtain ⟨f1, f2, rfl⟩ := mk_own e1
    obtain ⟨v, g1, _, g2⟩ := s.get f1 f2
    obtain ⟨j, d, mj, g3, g4⟩ := g2 rfl
    exact R1.ext.nst j d c z g3
/-- behind it -/
theorem call_end {pd0 : Pds} {v : V} {r : PV} {outs : List PV} (R1 : RE K G H σ ρ pd) (sb : ∀ x ∈ pd0, x ∈ pd) (s : Spl σ ρ pd S.io vs ps js) (nd : js.Nodup) (iob : ∀ b, Iob S.io vs b → WS G σ ρ b) (lo : outs.length = js.length)
    (fin : Fin K S H (fun b => WS G σ ρ b ∧ ¬ Iob S.io vs b) G.vo vs v H' r outs) : Res K G H' σ (putOuts js outs ρ) pd0 (if S.fr = true then .fr r else .pv r) v := by
  have jo := s.js
  obtain ⟨p1, p2, p3⟩ := putOuts_spec (ρ := ρ) nd lo jo
  have A : Alike ρ (putOuts js outs ρ) := by
    refine ⟨p1, fun i => ?_⟩
    by_cases hi : i ∈ js
    · obtain ⟨k, lk, e⟩ := List.getElem_of_mem hi
      have lk' : k < outs.length := by rw [lo]; exact lk
      obtain ⟨b, p, h1, h2⟩ := p3 k i outs[k] (by rw [List.getElem?_eq_getElem lk, e]) (List.getElem?_eq_getElem lk')
      exact .inr ⟨b, p, _, h1, h2⟩
    · exact .inl (p2 i hi)
  have ws : ∀ b, (WS G σ ρ b ∧ ¬ Iob S.io vs b) ∨ Iob S.io vs b ↔ WS G σ ρ b := fun b => by
    constructor
    · rintro (w | w)
      · exact w.1
      · exact iob b w
    · intro w
      by_cases z : Iob S.io vs b
      · exact .inr z
      · exact .inl ⟨w, z⟩
  -- an owned slot that is no argument: its object stands
  have stay : ∀ (i : Nat) (b : Bool) (q : PV) (a : Addr), i ∉ js → ρ[i]? = some (Sl.own b q) → σ[i]? = some (some (V.ref a)) → ¬ Iob S.io vs a := fun i b q a hi e1 e2 ⟨m, f1, f2⟩ => by
    obtain ⟨_, l2, _⟩ := s.len
    have lm : m < ps.length := by rw [l2]; exact (List.getElem?_eq_some_iff.mp f1).1
    obtain ⟨v', g1, _, g2⟩ := s.get f1 (List.getElem?_eq_getElem lm)
    obtain ⟨j, c, mj, g3, g4⟩ := g2 rfl
    rw [f2] at g1; cases g1
    exact hi (by rw [R1.inj i j b c q _ a e1 g3 e2 g4]; exact mj)
  have keepG : ∀ b o, G.keep b = some o → H' b = some o := fun b o e => by
    refine fin.keep b o (R1.keep b o e) (fun z => ?_) fun z => by rw [(R1.ext.vo b z).2.1] at e; cases e
    rcases iob b z with w | ⟨i, c, p, e1, e2⟩
    · obtain ⟨m, f1, f2⟩ := z
      obtain ⟨_, l2, _⟩ := s.len
      have lm : m < ps.length := by rw [l2]; exact (List.getElem?_eq_some_iff.mp f1).1
      obtain ⟨v', g1, _, g2⟩ := s.get f1 (List.getElem?_eq_getElem lm)
      obtain ⟨j, c, mj, g3, g4⟩ := g2 rfl
      rw [f2] at g1; cases g1
      obtain ⟨a, h1, h2, _⟩ := R1.own j c _ g3
      rw [g4] at h1; cases h1
      rw [h2] at e; cases e
    · obtain ⟨a, h1, h2, _⟩ := R1.own i c p e1
      rw [e2] at h1; cases h1
      rw [h2] at e; cases e
  have hn : ∀ (i : Nat) (b : Bool) (c : Nat) (z : Int), (putOuts js outs ρ)[i]? = some (Sl.own b (.nst false c z)) → G.vo c := fun i b c z e1 => by
    by_cases hi : i ∈ js
    · obtain ⟨k, lk, e⟩ := List.getElem_of_mem hi
      have lk' : k < outs.length := by rw [lo]; exact lk
      have ek : js[k]? = some i := by rw [List.getElem?_eq_getElem lk, e]
      have eo : outs[k]? = some outs[k] := List.getElem?_eq_getElem lk'
      obtain ⟨b', p, h1, h2⟩ := p3 k i outs[k] ek eo
      rw [e1] at h2
      injection h2 with h2
      injection h2 with _ h3
      obtain ⟨m, v', g1, g2, g3, g4⟩ := s.io ek eo
      exact fin.nstk m c z (by rw [h3]; exact g4)
    · rw [p2 i hi] at e1
      exact R1.ext.nst i b c z e1
  cases hf : S.fr with
  | false =>
    have R2 : RE K G H' σ (putOuts js outs ρ) pd := by
      refine R1.swap A (fun b o e n => fin.keep b o e (fun z => n (iob b z)) fun z => n (.inl (R1.ext.vo b z).1)) keepG (fun i b q a e1 e2 => ?_) fin.vok hn
      by_cases hi : i ∈ js
      · obtain ⟨k, lk, e⟩ := List.getElem_of_mem hi
        have lk' : k < outs.length := by rw [lo]; exact lk
        have ek : js[k]? = some i := by rw [List.getElem?_eq_getElem lk, e]
        have eo : outs[k]? = some outs[k] := List.getElem?_eq_getElem lk'
        obtain ⟨b', p, h1, h2⟩ := p3 k i outs[k] ek eo
        rw [e1] at h2; cases h2
        obtain ⟨m, v', g1, g2, g3, g4⟩ := s.io ek eo
        rw [e2] at g3; cases g3
        obtain ⟨o, ho, w⟩ := fin.outs m _ a g4 g2
        exact ⟨o, ho, w.anti fun b w => by
          rcases (ws b).2 w with w | w
          · exact .inl w
          · exact .inr (.inl w)⟩
      · rw [p2 i hi] at e1
        obtain ⟨c, f1, f2, o, f3, w⟩ := R1.own i b q e1
        rw [e2] at f1; cases f1
        exact ⟨o, fin.keep a o f3 (stay i b q a hi e1 e2) (R1.ext.off i b q a e1 e2), w.move (fun b o e n => fin.keep b o e (fun z => n (iob b z)) fun z => n (.inl (R1.ext.vo b z).1)) R1.mut fun _ _ w => w⟩
    have hw : ∀ b, WS G σ (putOuts js outs ρ) b → WS G σ ρ b := fun b w => by
      rcases w with w | ⟨i, c, q, e1, e2⟩
      · exact .inl w
      · obtain ⟨p, e⟩ := A.back e1
        exact .inr ⟨i, c, p, e, e2⟩
    exact (R2.push (Is.anti (fun b w => (ws b).2 (hw b w)) _ _ (fin.res hf))).pds fun x hx => by
      rcases List.mem_cons.mp hx with e | hx
      · rw [e]; exact List.mem_cons_self
      · exact List.mem_cons_of_mem _ (sb x hx)
  | true =>
    obtain ⟨a, o, rfl, na, ea, w⟩ := fin.new hf
    have kn : G.keep a = none := by
      cases q : G.keep a with
      | none => rfl
      | some u => rw [R1.keep a u q] at na; cases na
    have R2 : RE K (G.add a o) (upd H a o) σ ρ pd := R1.add na (same_new na) upd_same w.mut
    have ws2 : ∀ b, WS (G.add a o) σ ρ b → (WS G σ ρ b ∧ ¬ Iob S.io vs b) ∨ Iob S.io vs b ∨ (S.fr = true ∧ V.ref a = .ref b) := fun b w => by
      have h2 : b = a ∨ WS G σ ρ b := by
        rcases w with (w | w) | w
        · exact .inl w
        · exact .inr (.inl w)
        · exact .inr (.inr w)
      rcases h2 with z | w
      · exact .inr (.inr ⟨hf, by rw [z]⟩)
      · rcases (ws b).2 w with w | w
        · exact .inl w
        · exact .inr (.inl w)
    have kp2 : ∀ b u, upd H a o b = some u → ¬ WS (G.add a o) σ ρ b → H' b = some u := fun b u e n => by
      have ne : b ≠ a := fun z => n (.inl (.inl z))
      rw [upd_ne ne] at e
      exact fin.keep b u e (fun z => n ((iob b z).elim (fun w => .inl (.inr w)) .inr)) fun z => n (.inl (.inr (R1.ext.vo b z).1))
    have R3 : RE K (G.add a o) H' σ (putOuts js outs ρ) pd := by
      refine R2.swap A kp2 (fun b u e => ?_) (fun i b q c e1 e2 => ?_) fin.vok hn
      · have e' : upd G.keep a o b = some u := e
        by_cases z : b = a
        · rw [z] at e' ⊢; rw [upd_same] at e'; cases e'; exact ea
        · rw [upd_ne z] at e'; exact keepG b u e'
      · by_cases hi : i ∈ js
        · obtain ⟨k, lk, e⟩ := List.getElem_of_mem hi
          have lk' : k < outs.length := by rw [lo]; exact lk
          have ek : js[k]? = some i := by rw [List.getElem?_eq_getElem lk, e]
          have eo : outs[k]? = some outs[k] := List.getElem?_eq_getElem lk'
          obtain ⟨b', p, h1, h2⟩ := p3 k i outs[k] ek eo
          rw [e1] at h2; cases h2
          obtain ⟨m, v', g1, g2, g3, g4⟩ := s.io ek eo
          rw [e2] at g3; cases g3
          obtain ⟨u, ho, w'⟩ := fin.outs m _ c g4 g2
          exact ⟨u, ho, w'.anti ws2⟩
        · rw [p2 i hi] at e1
          obtain ⟨d, f1, f2, u, f3, w'⟩ := R2.own i b q e1
          rw [e2] at f1; cases f1
          have nd : c ≠ a := fun z => by
            obtain ⟨d', f1', _, u', f3', _⟩ := R1.own i b q e1
            rw [e2] at f1'; cases f1'
            rw [z, na] at f3'; cases f3'
          rw [upd_ne nd] at f3
          exact ⟨u, fin.keep c u f3 (stay i b q c hi e1 e2) (R1.ext.off i b q c e1 e2), w'.move kp2 R2.mut fun _ _ w => w⟩
    have hw : ∀ b, WS (G.add a o) σ (putOuts js outs ρ) b → WS (G.add a o) σ ρ b := fun b w => by
      rcases w with w | ⟨i, c, q, e1, e2⟩
      · exact .inl w
      · obtain ⟨p, e⟩ := A.back e1
        exact .inr ⟨i, c, p, e, e2⟩
    exact ⟨a, o, rfl, kn, R1.exk, R3.pds sb, w.anti fun b w => ws2 b (hw b w)⟩
end
section
variable {X : Cx} {k : Nat} {f : Addr} {fd : FuncData} {x : Str} {ps : List Str} {S : FS} {e : Expr} {es : List Expr} {t : QTA} {p pos : Pos}
theorem rz_call {K : PySem.W.Frag} {ta : TA} {E : XK} (q : RzA K ta t) : Rz K (tCall (spP K S) [] E ta) (qCall S t) := by
  intro G H σ ρ pd Q F R1 h ff
  refine q G H σ ρ pd _ _ R1 h fun rs ρ1 pd1 vs H1 sb R2 ar g => ?_
  unfold callR at g
  cases es : splitArgs ρ1 S.io rs with
  | none => rw [es] at g; exact g.elim
  | some z =>
    obtain ⟨pvs, js⟩ := z
    rw [es] at g
    obtain ⟨nd, pre, post⟩ := g
    have s := spl_of ar es
    obtain ⟨R3, iob⟩ := call_start R2 s nd
    obtain ⟨l1, l2, l3⟩ := s.len
    show spP K S (vs ++ []) H1 F E
    rw [List.append_nil]
    refine ⟨pvs, _, _, l2, l1, R3, pre, fun v H' r outs hp lo fin => ?_⟩
    exact ff _ _ v H' (call_end R2 sb s nd iob (lo.trans l3.symm) fin) (post r outs hp (lo.trans l3.symm))
theorem qe_call (F : FnOk X.prog X.w X.K X.mg X.base CX0 k f fd ps (spP X.K S)) (hr : Room k X.A) (hm : X.mg x = some (.ref f)) (hk : PySem.W.keepIn X.K (.ref f) = true) (hb : Binds X.K fd ps []) (ha : QA X (e :: es) t) (hg : Gl X x := by rfl) (hdb : (x == ("__debug__" : Str)) = false := by decide)
    (he : starEach (e :: es) X.env = (false, eval e X.env) :: starEach es X.env := by rfl) (hpl : (backTo pos (starEach es X.env)).any (·.1) = false := by rfl) : QE X (.Call (.Name x p) (e :: es) [] pos) (qCall S t) := by
  obtain ⟨ta, p1, q⟩ := ha.ex
  exact ⟨_, pe_call F hr hg hm hk hb .nil pass0 p1 hdb he hpl, rz_call q⟩
end

/-! ### a def keeps its promise -/
def finOk (S : FS) (ps : List PV) (r : R) (ρ : En) : Prop := match S.fr, r with
  | true, .fr p => S.post ps p (outsOf S.io ρ)
  | false, .pv p => S.post ps p (outsOf S.io ρ)
  | false, .fr p => S.post ps p (outsOf S.io ρ)
  | _, _ => False
def endsOf (S : FS) (ps : List PV) : PEnds := { nx := fun ρ => finOk S ps (.pv .non) ρ, rt := fun r ρ => finOk S ps r ρ }
def uns (n : Nat) : En := List.replicate n Sl.un
theorem outs_len : ∀ (io : List Bool) (ρ : En), (outsOf io ρ).length = (io.filter id).length
  | [], ρ => by cases ρ <;> rfl
  | true :: io, [] => by simp [outsOf, outs_len io []]
  | false :: io, [] => by simp [outsOf, outs_len io []]
  | true :: io, s :: ρ => by
    have ih := outs_len io ρ
    cases s <;> simp [outsOf, ih]
  | false :: io, s :: ρ => by
    have ih := outs_len io ρ
    simp [outsOf, ih]
theorem outs_get : ∀ (io : List Bool) (ρ : En) {i : Nat} {q : PV}, (sel io (outsOf io ρ))[i]? = some (some q) → io[i]? = some true ∧ ∀ b p, ρ[i]? = some (Sl.own b p) → p = q
  | [], ρ, i, q, h => by cases ρ <;> simp [outsOf, sel] at h
  | true :: io, [], i, q, h => by
    cases i with
    | zero => exact ⟨rfl, fun b p e => by simp at e⟩
    | succ i =>
      have ih := outs_get io [] (i := i) (q := q) (by simpa [outsOf, sel] using h)
      exact ⟨by simpa using ih.1, fun b p e => by simp at e⟩
  | false :: io, [], i, q, h => by
    cases i with
    | zero => simp [outsOf, sel] at h
    | succ i =>
      have ih := outs_get io [] (i := i) (q := q) (by simpa [outsOf, sel] using h)
      exact ⟨by simpa using ih.1, fun b p e => by simp at e⟩
  | true :: io, s :: ρ, i, q, h => by
    cases i with
    | zero =>
      refine ⟨rfl, fun b p e => ?_⟩
      simp at e
      subst e
      simpa [outsOf, sel] using h
    | succ i =>
      have h' : (sel io (outsOf io ρ))[i]? = some (some q) := by
        cases s <;> simpa [outsOf, sel] using h
      simpa using outs_get io ρ h'
  | false :: io, s :: ρ, i, q, h => by
    cases i with
    | zero => simp [outsOf, sel] at h
    | succ i =>
      have h' : (sel io (outsOf io ρ))[i]? = some (some q) := by simpa [outsOf, sel] using h
      simpa using outs_get io ρ h'
theorem RE.pad {K : PySem.W.Frag} {G : Gd} {H : Hp} {σ : L2.St} {ρ : En} {pd : Pds} (R1 : RE K G H σ ρ pd) (n : Nat) : RE K G H (σ ++ List.replicate n none) (ρ ++ uns n) pd := by
  have sg : ∀ {i : Nat} {v : Option V}, σ[i]? = some v → (σ ++ List.replicate n none)[i]? = some v := fun {i v} e => by
    rw [List.getElem?_append_left (List.getElem?_eq_some_iff.mp e).1]; exact e
  have rg : ∀ {i : Nat} {s : Sl}, (ρ ++ uns n)[i]? = some s → s ≠ Sl.un → ρ[i]? = some s := fun {i s} e ne => by
    by_cases l : i < ρ.length
    · rw [List.getElem?_append_left l] at e; exact e
    · rw [List.getElem?_append_right (by omega)] at e
      unfold uns at e
      rw [List.getElem?_replicate] at e
      split at e
      · cases e; exact absurd rfl ne
      · cases e
  have rf : ∀ {i : Nat} {s : Sl}, ρ[i]? = some s → (ρ ++ uns n)[i]? = some s := fun {i s} e => by
    rw [List.getElem?_append_left (List.getElem?_eq_some_iff.mp e).1]; exact e
  have sb : ∀ {i : Nat} {s : Sl} {v : Option V}, ρ[i]? = some s → (σ ++ List.replicate n none)[i]? = some v → σ[i]? = some v := fun {i s v} e1 e2 => by
    have l : i < σ.length := by rw [← R1.len]; exact (List.getElem?_eq_some_iff.mp e1).1
    rw [List.getElem?_append_left l] at e2; exact e2
  have sub : ∀ b, WS G (σ ++ List.replicate n none) (ρ ++ uns n) b → WS G σ ρ b := fun b w => by
    rcases w with w | ⟨i, c, p, e1, e2⟩
    · exact .inl w
    · have f := rg e1 (by simp)
      exact .inr ⟨i, c, p, f, sb f e2⟩
  refine ⟨by simp [R1.len, uns], fun i p e => ?_, fun i b p e => ?_, fun i j b c p q a e1 e2 e3 e4 => ?_, fun i a h => ?_, R1.keep, R1.exk, fun x hx => Is.anti sub _ _ (R1.pd x hx), ⟨R1.ext.vo, fun i b p a e1 e2 => ?_, fun i b c s e1 => R1.ext.nst i b c s (rg e1 (by simp))⟩⟩
  · obtain ⟨v, e1, h⟩ := R1.val i p (rg e (by simp))
    exact ⟨v, sg e1, Is.anti sub _ _ h⟩
  · obtain ⟨a, e1, k, o, e2, w⟩ := R1.own i b p (rg e (by simp))
    exact ⟨a, sg e1, k, o, e2, w.anti sub⟩
  · have f1 := rg e1 (by simp)
    have f2 := rg e2 (by simp)
    exact R1.inj i j b c p q a f1 f2 (sb f1 e3) (sb f2 e4)
  · obtain ⟨e, p, e1⟩ := R1.io i a h
    exact ⟨sg e, p, rf e1⟩
  · have f1 := rg e1 (by simp)
    exact R1.ext.off i b p a f1 (sb f1 e2)
section
variable {P : Program} {w : World} {K : PySem.W.Frag} {mg : Str → Option Value} {base : Heap} {x qual : Str} {st : Stmt} {f : Addr} {fd : FuncData} {N ps : List Str} {k : Nat} {S : FS} {t : QTS}
theorem fn_p (F : Fun K x qual st f fd) (sc : FnScope N ps (defScope st)) (lp : S.io.length = ps.length)
    (hb : ∀ (cdv : Value) (A : Around) (outer : List Env) (s : Shared) (H : Hp) (E : XK), Room k (A.deeper (envOfC qual (defScope st) s.heap.objs.size f cdv)) → QSs (cxOf CX0 P w K mg base N qual (defScope st) f cdv A outer s H E).nox (defBody st) t)
    (rd : ∀ pvs : List PV, pvs.length = S.io.length → S.pre pvs → t (endsOf S pvs) (mk S.io pvs ++ uns (N.length - ps.length))) : FnOk P w K mg base CX0 (k + 1) f fd ps (spP K S) := by
  refine F.ok sc (fun vs H Q E h => ?_) (fun cdv A outer s H vs Q E hr h => ?_)
  · obtain ⟨_, _, _, _, l, _⟩ := h
    rw [l, lp]
  obtain ⟨pvs, ex, vo, l1, l2, R1, pre, post⟩ := h
  obtain ⟨ts, p, q⟩ := (hb cdv A outer s H E hr).ex
  refine ⟨ts, p, ?_⟩
  have R2 : RE K (G0 H S.io vs ex vo) H (L2.start N vs) (mk S.io pvs ++ uns (N.length - ps.length)) [] := by
    have z := R1.pad (N.length - ps.length)
    have e : L2.start N vs = vs.map some ++ List.replicate (N.length - ps.length) none := by
      unfold L2.start
      rw [l2, lp]
    rw [e]; exact z
  have fin : ∀ (r : R) (v : V) (σ' : L2.St) (ρ' : En) (H' : Hp), Res K (G0 H S.io vs ex vo) H' σ' ρ' [] r v → finOk S pvs r ρ' → Q v H' := fun r v σ' ρ' H' s' g => by
    have R3 := s'.re
    have kp : ∀ b o, H b = some o → ¬ Iob S.io vs b → ¬ vo b → H' b = some o := fun b o e n n2 => R3.keep b o ((G0_yes n n2).trans e)
    have vk : ∀ b, vo b → IntsAt H' b := fun b h => (R3.ext.vo b h).2.2
    have wio : ∀ b, Iob S.io vs b → WS (G0 H S.io vs ex vo) σ' ρ' b := fun b ⟨i, e1, e2⟩ => by
      obtain ⟨e3, p, e4⟩ := R3.io i b ⟨e1, e2⟩
      exact .inr ⟨i, true, p, e4, e3⟩
    have wsub : ∀ b, ex b ∨ Iob S.io vs b → WS (G0 H S.io vs ex vo) σ' ρ' b := fun b w => w.elim .inl (wio b)
    -- the outs, as the slots own them
    have ow : ∀ (i : Nat) (q : PV) (a : Addr), (sel S.io (outsOf S.io ρ'))[i]? = some (some q) → vs[i]? = some (V.ref a) → ∃ b, ρ'[i]? = some (Sl.own b q) ∧ σ'[i]? = some (some (V.ref a)) := fun i q a e1 e2 => by
      obtain ⟨f1, f2⟩ := outs_get _ _ e1
      obtain ⟨e3, p, e4⟩ := R3.io i a ⟨f1, e2⟩
      have := f2 true p e4
      subst this
      exact ⟨true, e4, e3⟩
    have nk : ∀ (i c : Nat) (s : Int), (sel S.io (outsOf S.io ρ'))[i]? = some (some (.nst false c s)) → vo c := fun i c z e1 => by
      obtain ⟨f1, f2⟩ := outs_get _ _ e1
      have li : i < S.io.length := (List.getElem?_eq_some_iff.mp f1).1
      have e2 : (mk S.io pvs)[i]? = some (Sl.own true pvs[i]) := by rw [mk_at f1 (List.getElem?_eq_getElem (by rw [l1]; exact li))]; simp
      obtain ⟨a, e3, _⟩ := R1.own i true _ e2
      have e4 : vs[i]? = some (V.ref a) := by
        rw [List.getElem?_map] at e3
        cases q : vs[i]? with
        | none => rw [q] at e3; simp at e3
        | some u => rw [q] at e3; simp at e3; rw [e3]
      obtain ⟨b, e5, _⟩ := ow i _ a e1 e4
      exact R3.ext.nst i b c z e5
    cases hf : S.fr with
    | false =>
      have key : ∀ p, Is K H' (WS (G0 H S.io vs ex vo) σ' ρ') p v → S.post pvs p (outsOf S.io ρ') → Q v H' := fun p hp g => post v H' p (outsOf S.io ρ') g (outs_len _ _) {
        keep := kp
        vok := vk
        nstk := nk
        outs := fun i q a e1 e2 => by
          obtain ⟨b, e3, e4⟩ := ow i q a e1 e2
          obtain ⟨c, e5, _, o, e6, w⟩ := R3.own i b q e3
          rw [e4] at e5; cases e5
          exact ⟨o, e6, w.anti fun b w => by
            rcases w with w | w | w
            · exact .inl w
            · exact wio b w
            · rw [hf] at w; cases w.1⟩
        res := fun _ => Is.anti wsub _ _ hp
        new := fun z => by rw [hf] at z; cases z }
      unfold finOk at g
      rw [hf] at g
      cases r with
      | pv p => exact key p ((show RE K _ H' σ' ρ' [(p, v)] from s').pd (p, v) List.mem_cons_self) g
      | fr p =>
        have s2 := s'.weak
        exact key p ((show RE K _ H' σ' ρ' [(p, v)] from s2).pd (p, v) List.mem_cons_self) g
      | sl i => exact g.elim
    | true =>
      unfold finOk at g
      rw [hf] at g
      cases r with
      | pv p => exact g.elim
      | sl i => exact g.elim
      | fr p =>
        obtain ⟨a, o, rfl, n, kx, R4, w⟩ := s'
        have Ha : H' a = some o := R4.keep a o upd_same
        have nio : ¬ Iob S.io vs a := fun ⟨i, e1, e2⟩ => by
          obtain ⟨e3, p', e4⟩ := R4.io i a ⟨e1, e2⟩
          obtain ⟨c, e5, k, _⟩ := R4.own i true p' e4
          rw [e3] at e5; cases e5
          have k' : upd (G0 H S.io vs ex vo).keep a o a = none := k
          rw [upd_same] at k'; cases k'
        have nvo : ¬ vo a := fun h => by
          obtain ⟨_, h2, _⟩ := R4.ext.vo a h
          have h2' : upd (G0 H S.io vs ex vo).keep a o a = none := h2
          rw [upd_same] at h2'; cases h2'
        have n' : H a = none := (G0_yes nio nvo).symm.trans n
        have wsub2 : ∀ b, ex b ∨ Iob S.io vs b ∨ (S.fr = true ∧ V.ref a = .ref b) → WS ((G0 H S.io vs ex vo).add a o) σ' ρ' b := fun b w => by
          rcases w with w | ⟨i, e1, e2⟩ | w
          · exact .inl (.inr w)
          · obtain ⟨e3, p', e4⟩ := R4.io i b ⟨e1, e2⟩
            exact .inr ⟨i, true, p', e4, e3⟩
          · cases w.2; exact .inl (.inl rfl)
        refine post (.ref a) H' p (outsOf S.io ρ') g (outs_len _ _) {
          keep := kp
          vok := vk
          nstk := nk
          outs := fun i q c e1 e2 => ?_
          res := fun z => by rw [hf] at z; cases z
          new := fun _ => ⟨a, o, rfl, n', Ha, w.anti wsub2⟩ }
        obtain ⟨b, e3, e4⟩ := ow i q c e1 e2
        obtain ⟨d, e5, _, u, e6, w'⟩ := R4.own i b q e3
        rw [e4] at e5; cases e5
        exact ⟨u, e6, w'.anti wsub2⟩
  exact q _ H _ _ [] (endsOf S pvs) _ R2 (rd pvs l1 pre) ⟨fun σ' ρ' H' R3 g => fin (.pv .non) .non σ' ρ' H' (R3.push rfl) g, fun r v σ' ρ' H' s' g => fin r v σ' ρ' H' s' g, fun _ _ _ _ g => g.elim, fun _ _ _ _ g => g.elim⟩
end
end Px
namespace Px
open PySem L2 PyProof.Rows

/-! ### data -/
mutual
def toD : PV → PyData
  | .non => .none
  | .bl b => .bool b
  | .int i => .int i
  | .str s => .str s
  | .tup ps => .tuple (toDs ps)
  | .lst ps => .list (toDs ps)
  | .dic _ _ => .dict []
  | .scr _ => .dict []
  | .nst _ _ _ => .dict []
  | .ty _ => .dict []
def toDs : List PV → List PyData
  | [] => []
  | p :: ps => toD p :: toDs ps
end
mutual
def plain : PV → Bool
  | .non => true
  | .bl _ => true
  | .int _ => true
  | .str _ => true
  | .tup ps => plains ps
  | .lst ps => plains ps
  | .dic _ _ => false
  | .scr _ => false
  | .nst _ _ _ => false
  | .ty _ => false
def plains : List PV → Bool
  | [] => true
  | p :: ps => plain p && plains ps
end
mutual
/-- how deep data is nested -/
def dep : PV → Nat
  | .tup ps => deps ps + 1
  | .lst ps => deps ps + 1
  | .non => 0
  | .bl _ => 0
  | .int _ => 0
  | .str _ => 0
  | .dic _ _ => 0
  | .scr _ => 0
  | .nst _ _ _ => 0
  | .ty _ => 0
def deps : List PV → Nat
  | [] => 0
  | p :: ps => max (dep p) (deps ps)
end
mutual
theorem dp_of {K : PySem.W.Frag} {H : Hp} {W : Addr → Prop} : ∀ (p : PV) (v : V), plain p = true → Is K H W p v → Dp K H v (toD p) ∧ (toD p).canLay0 = true ∧ (toD p).depth = dep p
  | .non, _, _, h => by cases (show _ = V.non from h); exact ⟨.non, rfl, rfl⟩
  | .bl b, _, _, h => by cases (show _ = V.bl b from h); exact ⟨.bl b, rfl, rfl⟩
  | .int i, _, _, h => by cases (show _ = V.int i from h); exact ⟨.int i, rfl, rfl⟩
  | .str s, v, _, h => by
    obtain ⟨e, ok⟩ : v = .str s ∧ sOk s = true := h
    subst e
    exact ⟨.str s, ok, rfl⟩
  | .tup ps, v, pl, h => by
    obtain ⟨a, vs, e, r, i⟩ : ∃ a vs, v = .ref a ∧ H a = some (.tup vs) ∧ Iss K H W ps vs := h
    subst e
    obtain ⟨d, c, z⟩ := dps_of ps vs (by rw [plain] at pl; exact pl) i
    exact ⟨.tup (.inl (.inl r)) d, by rw [toD, PyData.canLay0]; exact c, by rw [toD, PyData.depth, dep, z]⟩
  | .lst ps, v, pl, h => by
    obtain ⟨a, vs, e, _, r, i⟩ : ∃ a vs, v = .ref a ∧ ¬ W a ∧ H a = some (.lst vs) ∧ Iss K H W ps vs := h
    subst e
    obtain ⟨d, c, z⟩ := dps_of ps vs (by rw [plain] at pl; exact pl) i
    exact ⟨.lst (.inl (.inl r)) d, by rw [toD, PyData.canLay0]; exact c, by rw [toD, PyData.depth, dep, z]⟩
  | .dic _ _, _, pl, _ => by simp [plain] at pl
  | .scr _, _, pl, _ => by simp [plain] at pl
  | .nst _ _ _, _, pl, _ => by simp [plain] at pl
  | .ty _, _, pl, _ => by simp [plain] at pl
theorem dps_of {K : PySem.W.Frag} {H : Hp} {W : Addr → Prop} : ∀ (ps : List PV) (vs : List V), plains ps = true → Iss K H W ps vs → DpAll K H vs (toDs ps) ∧ PyData.canLayAll0 (toDs ps) = true ∧ PyData.depthAll (toDs ps) = deps ps
  | [], _, _, h => by cases (show _ = [] from h); exact ⟨.nil, rfl, rfl⟩
  | p :: ps, vs, pl, h => by
    obtain ⟨v, r, e, h1, h2⟩ := h
    subst e
    rw [plains, Bool.and_eq_true] at pl
    obtain ⟨d1, c1, z1⟩ := dp_of p v pl.1 h1
    obtain ⟨d2, c2, z2⟩ := dps_of ps r pl.2 h2
    refine ⟨.cons d1 d2, ?_, ?_⟩
    · rw [toDs, PyData.canLayAll0, c1, c2]; rfl
    · rw [toDs, PyData.depthAll, z1, z2, deps]
end
theorem lk_dp {K : PySem.W.Frag} {H : Hp} {W : Addr → Prop} {p : PV} {v : V} (pl : plain p = true) (h : Lk K H W p v) : Dp K H v (toD p) ∧ (toD p).canLay0 = true ∧ (toD p).depth = dep p := by
  cases p with
  | lst ps =>
    obtain ⟨a, vs, e, r, i⟩ := h
    subst e
    obtain ⟨d, c, z⟩ := dps_of ps vs (by rw [plain] at pl; exact pl) i
    exact ⟨.lst (.inl (.inl r)) d, by rw [toD, PyData.canLay0]; exact c, by rw [toD, PyData.depth, dep, z]⟩
  | dic ks ps => simp [plain] at pl
  | nst t c s => simp [plain] at pl
  | _ => exact dp_of (W := W) _ v pl h
def peq (p q : PV) : Bool := PyData.eqv (toD p) (toD q)
def peqs (ps qs : List PV) : Bool := PyData.eqvAll (toDs ps) (toDs qs)
/-- data that == may be asked of -/
def eqOk (p : PV) : Prop := plain p = true ∧ dep p ≤ 64
theorem shaped_of {p : PV} (c : (toD p).canLay0 = true) (z : (toD p).depth = dep p) (h : eqOk p) : SeqAt.shaped (toD p) = true := by
  unfold SeqAt.shaped
  rw [c, z, Bool.true_and]
  exact decide_eq_true h.2

section
variable {X : Cx}
theorem fin1 {K : PySem.W.Frag} {H : Hp} {W : Addr → Prop} {Q : R → Prop} {F : VK} {v : V} {p : PV} (f : ∀ v H' z, Same H H' → ResV K H W H' z v → Q z → F v H') (h : Is K H W p v) (q : Q (.pv p)) : F v H := f v H (.pv p) (Same.refl H) h q

/-! ### arithmetic -/
theorem sOk_append {a b : Str} (h1 : sOk a = true) (h2 : sOk b = true) : sOk (a ++ b) = true := by
  have e1 : a.cps.all (· < 0x110000) = true := h1
  have e2 : b.cps.all (· < 0x110000) = true := h2
  show (a ++ b).cps.all (· < 0x110000) = true
  show (a.cps ++ b.cps).all (· < 0x110000) = true
  rw [Array.all_append, e1, e2]; rfl
def gAdd : G2
  | .int i, .int j, Q => Q (.pv (.int (i + j)))
  | .str a, .str b, Q => small (a.length + b.length) ∧ Q (.pv (.str (a ++ b)))
  | .tup a, .tup b, Q => small (a.length + b.length) ∧ Q (.pv (.tup (a ++ b)))
  | .lst a, .lst b, Q => small (a.length + b.length) ∧ Q (.fr (.lst (a ++ b)))
  | _, _, _ => False
theorem op_addP : OpP X (binaryOp .Add) gAdd := by
  refine ⟨_, op_add.or (op_add_str.or (op_catA.or op_cat)), fun H W p q x y Q F m l1 l2 g f => ?_⟩
  cases p <;> cases q <;> first
    | exact g.elim
    | skip
  · cases (show x = _ from l1); cases (show y = _ from l2)
    exact .inl ⟨_, _, rfl, rfl, fin1 f (p := .int _) rfl g⟩
  · obtain ⟨e1, o1⟩ : x = .str _ ∧ sOk _ = true := l1
    obtain ⟨e2, o2⟩ : y = .str _ ∧ sOk _ = true := l2
    subst e1 e2
    exact .inr (.inl ⟨_, _, rfl, rfl, g.1, fin1 f (p := .str _) ⟨rfl, sOk_append o1 o2⟩ g.2⟩)
  · rename_i ps qs
    obtain ⟨a, vs, e1, r1, i1⟩ : ∃ a vs, x = .ref a ∧ H a = some (.tup vs) ∧ Iss X.K H W ps vs := l1
    obtain ⟨b, us, e2, r2, i2⟩ : ∃ a vs, y = .ref a ∧ H a = some (.tup vs) ∧ Iss X.K H W qs vs := l2
    subst e1 e2
    have sm : vs.length + us.length ≤ sizeLine := by rw [← i1.length, ← i2.length]; exact small_le g.1
    refine .inr (.inr (.inl ⟨a, b, vs, us, rfl, rfl, .inl (.inl r1), .inl (.inl r2), sm, fun e => ?_, fun _ e => ?_, fun _ _ p hp => f _ _ _ (same_new hp) (resTup m (i1.append i2) hp) g.2⟩))
    · have ep : ps = [] := List.length_eq_zero_iff.mp (by rw [i1.length, e]; rfl)
      subst ep
      exact fin1 f (p := .tup qs) ⟨b, us, rfl, r2, i2⟩ g.2
    · have ep : qs = [] := List.length_eq_zero_iff.mp (by rw [i2.length, e]; rfl)
      subst ep
      have g2 : Q (.pv (.tup (ps ++ []))) := g.2
      rw [List.append_nil] at g2
      exact fin1 f (p := .tup ps) ⟨a, vs, rfl, r1, i1⟩ g2
  · rename_i ps qs
    obtain ⟨a, vs, e1, r1, i1⟩ : ∃ a vs, x = .ref a ∧ H a = some (.lst vs) ∧ Iss X.K H W ps vs := l1
    obtain ⟨b, us, e2, r2, i2⟩ : ∃ a vs, y = .ref a ∧ H a = some (.lst vs) ∧ Iss X.K H W qs vs := l2
    subst e1 e2
    have sm : vs.length + us.length ≤ sizeLine := by rw [← i1.length, ← i2.length]; exact small_le g.1
    exact .inr (.inr (.inr ⟨a, b, vs, us, rfl, rfl, r1, r2, sm, fun p hp => f _ _ _ (same_new hp) (resLst m (i1.append i2) hp) g.2⟩))
def gInt (C : Int → Int → Prop) (h : Int → Int → PV) : G2
  | .int i, .int j, Q => C i j ∧ Q (.pv (h i j))
  | _, _, _ => False
theorem op_int {fo : Value → Value → Sem Value} {C : Int → Int → Prop} {g : Int → Int → V} {h : Int → Int → PV} (ho : OpR X fo (rI C g)) (hh : ∀ K H W i j, Is K H W (h i j) (g i j)) : OpP X fo (gInt C h) := by
  refine ⟨_, ho, fun H W p q x y Q F m l1 l2 z f => ?_⟩
  cases p <;> cases q <;> first
    | exact z.elim
    | skip
  cases (show x = _ from l1); cases (show y = _ from l2)
  exact ⟨_, _, rfl, rfl, z.1, fin1 f (hh _ _ _ _ _) z.2⟩
def gInt0 (h : Int → Int → PV) : G2
  | .int i, .int j, Q => Q (.pv (h i j))
  | _, _, _ => False
theorem op_int0 {fo : Value → Value → Sem Value} {g : Int → Int → V} {h : Int → Int → PV} (ho : OpR X fo (rI0 g)) (hh : ∀ K H W i j, Is K H W (h i j) (g i j)) : OpP X fo (gInt0 h) := by
  refine ⟨_, ho, fun H W p q x y Q F m l1 l2 z f => ?_⟩
  cases p <;> cases q <;> first
    | exact z.elim
    | skip
  cases (show x = _ from l1); cases (show y = _ from l2)
  exact ⟨_, _, rfl, rfl, fin1 f (hh _ _ _ _ _) z⟩
abbrev gSub := gInt0 fun i j => .int (i - j)
theorem op_subP : OpP X (binaryOp .Sub) gSub := op_int0 op_sub fun _ _ _ _ _ => rfl
abbrev gMul := gInt CMul fun i j => .int (i * j)
theorem op_mulP : OpP X (binaryOp .Mult) gMul := op_int op_mul fun _ _ _ _ _ => rfl
abbrev gMod := gInt (fun _ j => 0 < j) fun i j => .int (i % j)
theorem op_modP : OpP X (binaryOp .Mod) gMod := op_int op_mod fun _ _ _ _ _ => rfl
abbrev gDiv := gInt CDiv fun i j => .int (i / j)
theorem op_divP : OpP X (binaryOp .FloorDiv) gDiv := op_int op_fdiv fun _ _ _ _ _ => rfl
abbrev gPow := gInt CPow fun i j => .int (i ^ j.toNat)
theorem op_powP : OpP X (binaryOp .Pow) gPow := op_int op_pow fun _ _ _ _ _ => rfl
abbrev gLt := gInt0 fun i j => .bl (decide (i < j))
theorem op_ltP : OpP X (compareOp .Lt) gLt := op_int0 op_lt fun _ _ _ _ _ => rfl
abbrev gLe := gInt0 fun i j => .bl (decide (i ≤ j))
theorem op_leP : OpP X (compareOp .LtE) gLe := op_int0 op_le fun _ _ _ _ _ => rfl
abbrev gGt := gInt0 fun i j => .bl (decide (j < i))
theorem op_gtP : OpP X (compareOp .Gt) gGt := op_int0 op_gt fun _ _ _ _ _ => rfl
abbrev gGe := gInt0 fun i j => .bl (decide (j ≤ i))
theorem op_geP : OpP X (compareOp .GtE) gGe := op_int0 op_ge fun _ _ _ _ _ => rfl

/-! ### ==, in, is -/
def gEq (p : PV) (q : PV) (Q : R → Prop) : Prop := eqOk p ∧ eqOk q ∧ Q (.pv (.bl (peq p q)))
def gNe (p : PV) (q : PV) (Q : R → Prop) : Prop := eqOk p ∧ eqOk q ∧ Q (.pv (.bl (!peq p q)))
theorem op_eqP (hu : X.A.units + 64 < cLine) : OpP X (compareOp .Eq) gEq := by
  refine ⟨_, op_eqD hu, fun H W p q x y Q F m l1 l2 z f => ?_⟩
  obtain ⟨h1, h2, h3⟩ := z
  obtain ⟨d1, c1, z1⟩ := lk_dp h1.1 l1
  obtain ⟨d2, c2, z2⟩ := lk_dp h2.1 l2
  exact ⟨_, _, d1, d2, shaped_of c1 z1 h1, shaped_of c2 z2 h2, fin1 f (p := .bl _) rfl h3⟩
theorem op_neP (hu : X.A.units + 64 < cLine) : OpP X (compareOp .NotEq) gNe := by
  refine ⟨_, op_neD hu, fun H W p q x y Q F m l1 l2 z f => ?_⟩
  obtain ⟨h1, h2, h3⟩ := z
  obtain ⟨d1, c1, z1⟩ := lk_dp h1.1 l1
  obtain ⟨d2, c2, z2⟩ := lk_dp h2.1 l2
  exact ⟨_, _, d1, d2, shaped_of c1 z1 h1, shaped_of c2 z2 h2, fin1 f (p := .bl _) rfl h3⟩
/-- among the items of a list -/
def memP (p : PV) (qs : List PV) : Bool := qs.any fun z => peq z p
theorem any_toDs (p : PV) : ∀ qs : List PV, (toDs qs).any (fun z => PyData.eqv z (toD p)) = memP p qs
  | [] => rfl
  | q :: qs => by
    show (PyData.eqv (toD q) (toD p) || (toDs qs).any _) = (peq q p || memP p qs)
    rw [any_toDs p qs]; rfl
theorem lk_is {K : PySem.W.Frag} {H : Hp} {W : Addr → Prop} {p : PV} {k : Key} {v : V} (l : Lk K H W p v) (e : keyP p = some k) : v = kV k ∧ keyOk k = true := by
  refine keyP_is (K := K) (H := H) (W := W) (p := p) ?_ e
  cases p with
  | int i => exact l
  | str s => exact l
  | _ => cases e
def gIn (p q : PV) (Q : R → Prop) : Prop := match q with
  | .lst qs => eqOk p ∧ eqOk (.lst qs) ∧ Q (.pv (.bl (memP p qs)))
  | .tup qs => eqOk p ∧ eqOk (.tup qs) ∧ Q (.pv (.bl (memP p qs)))
  | .dic ks ps => match keyP p with
    | some k => Q (.pv (.bl ((getD ks ps k).isSome)))
    | none => False
  | _ => False
theorem op_inP (hu : X.A.units + 65 < cLine) : OpP X (compareOp .In) gIn := by
  refine ⟨_, OpR.or (op_inD hu) (OpR.or (op_inTD hu) (op_inK hu)), fun H W p q x y Q F m l1 l2 z f => ?_⟩
  unfold gIn at z
  cases q with
  | lst qs =>
    obtain ⟨h1, h2, h3⟩ := z
    obtain ⟨d1, c1, z1⟩ := lk_dp h1.1 l1
    obtain ⟨d2, c2, z2⟩ := lk_dp h2.1 l2
    refine .inl ⟨_, _, d1, d2, shaped_of c1 z1 h1, shaped_of c2 z2 h2, fin1 f (p := .bl _) rfl (?_ : Q (.pv (.bl _)))⟩
    rw [any_toDs]; exact h3
  | tup qs =>
    obtain ⟨h1, h2, h3⟩ := z
    obtain ⟨d1, c1, z1⟩ := lk_dp h1.1 l1
    obtain ⟨d2, c2, z2⟩ := lk_dp h2.1 l2
    refine .inr (.inl ⟨_, _, d1, d2, shaped_of c1 z1 h1, shaped_of c2 z2 h2, fin1 f (p := .bl _) rfl (?_ : Q (.pv (.bl _)))⟩)
    rw [any_toDs]
    cases e : memP p qs <;> rw [e] at h3 <;> exact h3
  | dic ks ps =>
    obtain ⟨a, vs, e1, r1, le, ok, i1⟩ := l2
    subst e1
    cases e : keyP p with
    | none => rw [e] at z; exact z.elim
    | some k =>
      rw [e] at z
      dsimp only at z
      obtain ⟨e2, _⟩ := lk_is l1 e
      refine .inr (.inr ⟨a, _, k, rfl, r1, e2, fin1 f (p := .bl _) rfl (?_ : Q (.pv (.bl _)))⟩)
      rw [getD_val le, getD_some_is i1]
      cases e : (getD ks ps k).isSome <;> rw [e] at z <;> exact z
  | _ => exact z.elim
def gNotIn (p q : PV) (Q : R → Prop) : Prop := match q with
  | .lst qs => eqOk p ∧ eqOk (.lst qs) ∧ Q (.pv (.bl (!memP p qs)))
  | .tup qs => eqOk p ∧ eqOk (.tup qs) ∧ Q (.pv (.bl (!memP p qs)))
  | .dic ks ps => match keyP p with
    | some k => Q (.pv (.bl (!(getD ks ps k).isSome)))
    | none => False
  | _ => False
theorem op_notInP (hu : X.A.units + 65 < cLine) : OpP X (compareOp .NotIn) gNotIn := by
  refine ⟨_, OpR.or (op_notInD hu) (OpR.or (op_notInTD hu) (op_notInK hu)), fun H W p q x y Q F m l1 l2 z f => ?_⟩
  unfold gNotIn at z
  cases q with
  | lst qs =>
    obtain ⟨h1, h2, h3⟩ := z
    obtain ⟨d1, c1, z1⟩ := lk_dp h1.1 l1
    obtain ⟨d2, c2, z2⟩ := lk_dp h2.1 l2
    refine .inl ⟨_, _, d1, d2, shaped_of c1 z1 h1, shaped_of c2 z2 h2, fin1 f (p := .bl _) rfl (?_ : Q (.pv (.bl _)))⟩
    rw [any_toDs]; exact h3
  | tup qs =>
    obtain ⟨h1, h2, h3⟩ := z
    obtain ⟨d1, c1, z1⟩ := lk_dp h1.1 l1
    obtain ⟨d2, c2, z2⟩ := lk_dp h2.1 l2
    refine .inr (.inl ⟨_, _, d1, d2, shaped_of c1 z1 h1, shaped_of c2 z2 h2, fin1 f (p := .bl _) rfl (?_ : Q (.pv (.bl _)))⟩)
    rw [any_toDs]
    cases e : memP p qs <;> rw [e] at h3 <;> exact h3
  | dic ks ps =>
    obtain ⟨a, vs, e1, r1, le, ok, i1⟩ := l2
    subst e1
    cases e : keyP p with
    | none => rw [e] at z; exact z.elim
    | some k =>
      rw [e] at z
      dsimp only at z
      obtain ⟨e2, _⟩ := lk_is l1 e
      refine .inr (.inr ⟨a, _, k, rfl, r1, e2, fin1 f (p := .bl _) rfl (?_ : Q (.pv (.bl _)))⟩)
      rw [getD_val le, getD_some_is i1]
      cases e : (getD ks ps k).isSome <;> rw [e] at z <;> exact z
  | _ => exact z.elim
def isNon : PV → Bool
  | .non => true
  | _ => false
def gIs : G2
  | p, .non, Q => Q (.pv (.bl (isNon p)))
  | _, _, _ => False
def gIsNot : G2
  | p, .non, Q => Q (.pv (.bl (!isNon p)))
  | _, _, _ => False
theorem isNon_iff {K : PySem.W.Frag} {H : Hp} {W : Addr → Prop} {p : PV} {x : V} (l : Lk K H W p x) : decide (x = .non) = isNon p := by
  cases p with
  | non => cases (show x = .non from l); rfl
  | bl b => cases (show x = _ from l); rfl
  | int b => cases (show x = _ from l); rfl
  | ty b => cases (show x = _ from l); rfl
  | str s => obtain ⟨e, _⟩ : x = .str s ∧ sOk s = true := l; subst e; rfl
  | tup ps => obtain ⟨a, vs, e, _⟩ : ∃ a vs, x = .ref a ∧ H a = some (.tup vs) ∧ Iss K H W ps vs := l; subst e; rfl
  | lst ps => obtain ⟨a, vs, e, _⟩ := l; subst e; rfl
  | dic ks ps => obtain ⟨a, vs, e, _⟩ := l; subst e; rfl
  | scr ns => obtain ⟨a, e, _⟩ : ∃ a, x = .ref a ∧ _ := l; subst e; rfl
  | nst t c s => obtain ⟨a, e, _⟩ := l; subst e; rfl
theorem op_isP : OpP X (compareOp .Is) gIs := by
  refine ⟨_, op_isN, fun H W p q x y Q F m l1 l2 z f => ?_⟩
  cases q with
  | non =>
    cases (show y = .non from l2)
    have z' : Q (.pv (.bl (isNon p))) := by cases p <;> exact z
    exact ⟨rfl, fin1 f (p := .bl (isNon p)) (by rw [← isNon_iff l1]; rfl) z'⟩
  | _ => cases p <;> exact z.elim
theorem op_isNotP : OpP X (compareOp .IsNot) gIsNot := by
  refine ⟨_, op_notN, fun H W p q x y Q F m l1 l2 z f => ?_⟩
  cases q with
  | non =>
    cases (show y = .non from l2)
    have z' : Q (.pv (.bl (!isNon p))) := by cases p <;> exact z
    exact ⟨rfl, fin1 f (p := .bl (!isNon p)) (by rw [← isNon_iff l1]; rfl) z'⟩
  | _ => cases p <;> exact z.elim

/-! ### x[i] -/
def getP (ps : List PV) (i : Int) (Q : R → Prop) : Prop := match atI ps i with
  | some p => Q (.pv p)
  | none => False
def gIx : G2
  | .tup ps, .int i, Q => getP ps i Q
  | .lst ps, .int i, Q => getP ps i Q
  | .str s, .int i, Q => small s.length ∧ match atI s.cps.toList i with
    | some c => Q (.pv (.str ⟨#[c]⟩))
    | none => False
  | .dic ks ps, p, Q => match keyP p with
    | some k => match getD ks ps k with
      | some q => Q (.pv q)
      | none => False
    | none => False
  | _, _, _ => False
theorem at_iss {K : PySem.W.Frag} {H : Hp} {W : Addr → Prop} {ps : List PV} {vs : List V} {i : Int} {p : PV} (h : Iss K H W ps vs) (e : atI ps i = some p) : ∃ v, atI vs i = some v ∧ Is K H W p v := by
  unfold atI at e ⊢
  rw [h.length] at e
  cases z : ixN vs.length i with
  | none => rw [z] at e; cases e
  | some j => rw [z] at e; exact h.getP e
theorem sOk_at {s : Str} (h : sOk s = true) {i : Int} {c : Nat} (e : atI s.cps.toList i = some c) : sOk ⟨#[c]⟩ = true := by
  unfold atI at e
  cases z : ixN s.cps.toList.length i with
  | none => rw [z] at e; cases e
  | some j =>
    rw [z] at e
    exact sOk_one h (i := j) (by simpa using e)
theorem ix_P : IxP X gIx := by
  refine ⟨_, ix_list.or (ix_tup.or (ix_str.or ix_dict)), fun H W p q x y Q F m l1 l2 z f => ?_⟩
  cases p with
  | dic ks ps =>
    obtain ⟨a, vs, e1, r1, le, ok, i1⟩ := l1
    subst e1
    have z' : (match keyP q with
      | some k => match getD ks ps k with
        | some q => Q (.pv q)
        | none => False
      | none => False) := by cases q <;> exact z
    cases e : keyP q with
    | none => rw [e] at z'; exact z'.elim
    | some k =>
      rw [e] at z'
      dsimp only at z'
      obtain ⟨e2, _⟩ := lk_is l2 e
      cases e3 : getD ks ps k with
      | none => rw [e3] at z'; exact z'.elim
      | some p =>
        rw [e3] at z'
        obtain ⟨v, hv, hi⟩ := getD_is i1 e3
        exact .inr (.inr (.inr ⟨a, _, k, v, rfl, r1, e2, by rw [getD_val le]; exact hv, fin1 f hi z'⟩))
  | tup ps =>
    cases q with
    | int i =>
      cases (show y = _ from l2)
      obtain ⟨a, vs, e1, r1, i1⟩ : ∃ a vs, x = .ref a ∧ H a = some (.tup vs) ∧ Iss X.K H W ps vs := l1
      subst e1
      have z' : getP ps i Q := z
      unfold getP at z'
      cases e : atI ps i with
      | none => rw [e] at z'; exact z'.elim
      | some p =>
        rw [e] at z'
        obtain ⟨v, hv, hi⟩ := at_iss i1 e
        exact .inr (.inl ⟨a, vs, _, v, rfl, rfl, .inl (.inl r1), hv, fin1 f hi z'⟩)
    | _ => exact z.elim
  | lst ps =>
    cases q with
    | int i =>
      cases (show y = _ from l2)
      obtain ⟨a, vs, e1, r1, i1⟩ : ∃ a vs, x = .ref a ∧ H a = some (.lst vs) ∧ Iss X.K H W ps vs := l1
      subst e1
      have z' : getP ps i Q := z
      unfold getP at z'
      cases e : atI ps i with
      | none => rw [e] at z'; exact z'.elim
      | some p =>
        rw [e] at z'
        obtain ⟨v, hv, hi⟩ := at_iss i1 e
        exact .inl ⟨a, vs, _, v, rfl, rfl, .inl (.inl r1), hv, fin1 f hi z'⟩
    | _ => exact z.elim
  | str s =>
    cases q with
    | int i =>
      cases (show y = _ from l2)
      obtain ⟨e1, ok⟩ : x = .str s ∧ sOk s = true := l1
      subst e1
      obtain ⟨z1, z'⟩ : small s.length ∧ (match atI s.cps.toList i with
        | some c => Q (.pv (.str ⟨#[c]⟩))
        | none => False) := z
      cases e : atI s.cps.toList i with
      | none => rw [e] at z'; exact z'.elim
      | some c =>
        rw [e] at z'
        exact .inr (.inr (.inl ⟨s, i, c, rfl, rfl, z1, e, fin1 f (p := .str _) ⟨rfl, sOk_at ok e⟩ z'⟩))
    | _ => exact z.elim
  | _ => cases q <;> exact z.elim

/-! ### built-ins -/
def gLen : GL
  | [.str s], Q => small s.length ∧ Q (.pv (.int (s.length : Nat)))
  | [.tup ps], Q => Q (.pv (.int (ps.length : Nat)))
  | [.lst ps], Q => Q (.pv (.int (ps.length : Nat)))
  | [.dic ks _], Q => Q (.pv (.int (ks.length : Nat)))
  | _, _ => False
theorem lks1 {K : PySem.W.Frag} {H : Hp} {W : Addr → Prop} {p : PV} {xs : List V} (h : Lks K H W [p] xs) : ∃ x, xs = [x] ∧ Lk K H W p x := by
  cases h with
  | cons h t => cases t; exact ⟨_, rfl, h⟩
theorem lks2 {K : PySem.W.Frag} {H : Hp} {W : Addr → Prop} {p q : PV} {xs : List V} (h : Lks K H W [p, q] xs) : ∃ x y, xs = [x, y] ∧ Lk K H W p x ∧ Lk K H W q y := by
  cases h with
  | cons h t =>
    obtain ⟨y, rfl, h2⟩ := lks1 t
    exact ⟨_, y, rfl, h, h2⟩
theorem CallR.or {f : Value} {r r' : List V → Hp → VK → Prop} (h : CallR X f r) (h' : CallR X f r') : CallR X f (fun xs H Q => r xs H Q ∨ r' xs H Q) := by
  intro pins s σ H xs us Q I rs q
  rcases q with q | q
  · exact h pins s σ H xs us Q I rs q
  · exact h' pins s σ H xs us Q I rs q
theorem call_lenP : CallP X (.builtin "len") gLen := by
  refine ⟨_, CallR.or call_len call_lenK, fun H W ps xs Q F m l g f => ?_⟩
  unfold gLen at g
  split at g
  · rename_i s
    obtain ⟨x, rfl, h⟩ := lks1 l
    obtain ⟨e, _⟩ : x = .str s ∧ sOk s = true := h
    subst e
    exact .inl ⟨_, _, rfl, ⟨g.1, rfl⟩, fin1 f (p := .int _) rfl g.2⟩
  · rename_i ps
    obtain ⟨x, rfl, h⟩ := lks1 l
    obtain ⟨a, vs, e, r, i⟩ : ∃ a vs, x = .ref a ∧ H a = some (.tup vs) ∧ Iss X.K H W ps vs := h
    subst e
    exact .inl ⟨_, vs.length, rfl, .inr ⟨vs, .inl (.inl r), rfl⟩, fin1 f (p := .int _) rfl (by rw [← i.length]; exact g)⟩
  · rename_i ps
    obtain ⟨x, rfl, h⟩ := lks1 l
    obtain ⟨a, vs, e, r, i⟩ := h
    subst e
    exact .inl ⟨_, vs.length, rfl, .inl ⟨vs, .inl (.inl r), rfl⟩, fin1 f (p := .int _) rfl (by rw [← i.length]; exact g)⟩
  · rename_i ks ps
    obtain ⟨x, rfl, h⟩ := lks1 l
    obtain ⟨a, vs, e, r, le, _, _⟩ := h
    subst e
    exact .inr ⟨a, _, rfl, r, fin1 f (p := .int _) rfl (by rw [zip_len le]; exact g)⟩
  · exact g.elim
def gAbs : GL
  | [.int i], Q => Q (.pv (.int (if i < 0 then -i else i)))
  | _, _ => False
theorem call_absP : CallP X (.builtin "abs") gAbs := by
  refine ⟨_, call_abs, fun H W ps xs Q F m l g f => ?_⟩
  unfold gAbs at g
  split at g
  · obtain ⟨x, rfl, h⟩ := lks1 l
    cases (show x = _ from h)
    exact ⟨_, rfl, fin1 f (p := .int _) rfl g⟩
  · exact g.elim
def b2n (b : Bool) : Int := if b then 1 else 0
def gIntC : GL
  | [.int i], Q => Q (.pv (.int i))
  | [.bl b], Q => Q (.pv (.int (b2n b)))
  | _, _ => False
theorem call_intP : CallP X (.type "int") gIntC := by
  refine ⟨_, call_int1, fun H W ps xs Q F m l g f => ?_⟩
  unfold gIntC at g
  split at g
  · obtain ⟨x, rfl, h⟩ := lks1 l
    cases (show x = _ from h)
    exact .inl ⟨_, rfl, fin1 f (p := .int _) rfl g⟩
  · obtain ⟨x, rfl, h⟩ := lks1 l
    cases (show x = _ from h)
    exact .inr ⟨_, rfl, fin1 f (p := .int _) rfl g⟩
  · exact g.elim
/-- a list of ints; of truths -/
def asInts : List PV → Option (List Int)
  | [] => some []
  | .int i :: ps => (asInts ps).map (i :: ·)
  | _ :: _ => none
def asBls : List PV → Option (List Bool)
  | [] => some []
  | .bl b :: ps => (asBls ps).map (b :: ·)
  | _ :: _ => none
theorem asInts_iss {K : PySem.W.Frag} {H : Hp} {W : Addr → Prop} : ∀ {ps : List PV} {vs : List V} {ns : List Int}, Iss K H W ps vs → asInts ps = some ns → vs = ns.map V.int
  | [], _, _, h, e => by cases (show _ = [] from h); cases e; rfl
  | p :: ps, vs, ns, h, e => by
    obtain ⟨v, r, e1, h1, h2⟩ := h
    subst e1
    cases p with
    | int i =>
      have e' : (asInts ps).map (i :: ·) = some ns := e
      cases z : asInts ps with
      | none => rw [z] at e'; cases e'
      | some ms => rw [z] at e'; cases e'; cases (show v = .int i from h1); rw [asInts_iss h2 z]; rfl
    | _ => cases e
theorem asBls_iss {K : PySem.W.Frag} {H : Hp} {W : Addr → Prop} : ∀ {ps : List PV} {vs : List V} {ns : List Bool}, Iss K H W ps vs → asBls ps = some ns → vs = ns.map V.bl
  | [], _, _, h, e => by cases (show _ = [] from h); cases e; rfl
  | p :: ps, vs, ns, h, e => by
    obtain ⟨v, r, e1, h1, h2⟩ := h
    subst e1
    cases p with
    | bl i =>
      have e' : (asBls ps).map (i :: ·) = some ns := e
      cases z : asBls ps with
      | none => rw [z] at e'; cases e'
      | some ms => rw [z] at e'; cases e'; cases (show v = .bl i from h1); rw [asBls_iss h2 z]; rfl
    | _ => cases e
def gSum (ps : List PV) (Q : R → Prop) : Prop := match ps with
  | [.lst ps] => match asInts ps with
    | some ns => Q (.pv (.int ns.sum))
    | none => False
  | _ => False
theorem call_sumP (hc : X.calm = true) : CallP X (.builtin "sum") gSum := by
  refine ⟨_, cr_sum hc, fun H W ps xs Q F m l g f => ?_⟩
  unfold gSum at g
  split at g
  · split at g
    · rename_i ps _ ns e
      obtain ⟨x, rfl, h⟩ := lks1 l
      obtain ⟨a, vs, e1, r, i⟩ := h
      subst e1
      exact ⟨a, ns, rfl, by rw [← asInts_iss i e]; exact .inl (.inl r), fin1 f (p := .int _) rfl g⟩
    · exact g.elim
  · exact g.elim
def maxI : Int → List Int → Int
  | m, [] => m
  | m, n :: ns => maxI (if n > m then n else m) ns
theorem maxI_ge : ∀ (ns : List Int) (m : Int), m ≤ maxI m ns ∧ (∀ n ∈ ns, n ≤ maxI m ns) ∧ (maxI m ns = m ∨ maxI m ns ∈ ns)
  | [], m => ⟨Int.le_refl _, fun n h => by simp at h, .inl rfl⟩
  | n :: ns, m => by
    obtain ⟨h1, h2, h3⟩ := maxI_ge ns (if n > m then n else m)
    unfold maxI
    refine ⟨?_, fun k hk => ?_, ?_⟩
    · split at h1 <;> split <;> omega
    · rcases List.mem_cons.mp hk with rfl | hk
      · split at h1 <;> split <;> omega
      · exact h2 k hk
    · rcases h3 with e | e
      · rw [e]
        split
        · exact .inr List.mem_cons_self
        · exact .inl rfl
      · exact .inr (List.mem_cons_of_mem _ e)
def gMax (ps : List PV) (Q : R → Prop) : Prop := match ps with
  | [.lst ps] => match asInts ps with
    | some (n :: ns) => Q (.pv (.int (maxI n ns)))
    | _ => False
  | _ => False
theorem call_maxP (hc : X.calm = true) : CallP X (.builtin "max") gMax := by
  refine ⟨_, cr_max hc, fun H W ps xs Q F m l g f => ?_⟩
  unfold gMax at g
  split at g
  · split at g
    · rename_i ps _ n ns e
      obtain ⟨x, rfl, h⟩ := lks1 l
      obtain ⟨a, vs, e1, r, i⟩ := h
      subst e1
      refine ⟨a, n :: ns, rfl, by rw [← asInts_iss i e]; exact .inl (.inl r), by simp, fun k hk hm => ?_⟩
      obtain ⟨h1, h2, h3⟩ := maxI_ge ns n
      have ek : k = maxI n ns := by
        have a1 : k ≤ maxI n ns := by
          rcases List.mem_cons.mp hk with rfl | hk
          · exact h1
          · exact h2 k hk
        have a2 : maxI n ns ≤ k := by
          rcases h3 with e | e
          · rw [e]; exact hm n List.mem_cons_self
          · exact hm _ (List.mem_cons_of_mem _ e)
        omega
      rw [ek]
      exact fin1 f (p := .int _) rfl g
    · exact g.elim
  · exact g.elim
def gAll (ps : List PV) (Q : R → Prop) : Prop := match ps with
  | [.lst ps] => match asBls ps with
    | some bs => Q (.pv (.bl (bs.all id)))
    | none => False
  | _ => False
theorem call_allP (hc : X.calm = true) : CallP X (.builtin "all") gAll := by
  refine ⟨_, cr_all hc, fun H W ps xs Q F m l g f => ?_⟩
  unfold gAll at g
  split at g
  · split at g
    · rename_i ps _ ns e
      obtain ⟨x, rfl, h⟩ := lks1 l
      obtain ⟨a, vs, e1, r, i⟩ := h
      subst e1
      exact ⟨a, ns, rfl, by rw [← asBls_iss i e]; exact .inl (.inl r), fin1 f (p := .bl _) rfl g⟩
    · exact g.elim
  · exact g.elim
def gAny (ps : List PV) (Q : R → Prop) : Prop := match ps with
  | [.lst ps] => match asBls ps with
    | some bs => Q (.pv (.bl (bs.any id)))
    | none => False
  | _ => False
theorem call_anyP (hc : X.calm = true) : CallP X (.builtin "any") gAny := by
  refine ⟨_, cr_any hc, fun H W ps xs Q F m l g f => ?_⟩
  unfold gAny at g
  split at g
  · split at g
    · rename_i ps _ ns e
      obtain ⟨x, rfl, h⟩ := lks1 l
      obtain ⟨a, vs, e1, r, i⟩ := h
      subst e1
      exact ⟨a, ns, rfl, by rw [← asBls_iss i e]; exact .inl (.inl r), fin1 f (p := .bl _) rfl g⟩
    · exact g.elim
  · exact g.elim
/-- list(x), tuple(x) -/
def gList : GL
  | [.lst ps], Q => Q (.fr (.lst ps))
  | [.tup ps], Q => Q (.fr (.lst ps))
  | [.scr ns], Q => Q (.fr (.lst (ns.map PV.int)))
  | _, _ => False
theorem call_listP : CallP X (.type "list") gList := by
  refine ⟨_, call_list_of, fun H W ps xs Q F m l g f => ?_⟩
  unfold gList at g
  split at g
  · rename_i ps
    obtain ⟨x, rfl, h⟩ := lks1 l
    obtain ⟨a, vs, e, r, i⟩ := h
    subst e
    exact ⟨a, vs, rfl, .inl (.inl (.inl r)), fun p hp => f _ _ _ (same_new hp) (resLst m i hp) g⟩
  · rename_i ps
    obtain ⟨x, rfl, h⟩ := lks1 l
    obtain ⟨a, vs, e, r, i⟩ : ∃ a vs, x = .ref a ∧ H a = some (.tup vs) ∧ Iss X.K H W ps vs := h
    subst e
    exact ⟨a, vs, rfl, .inr (.inl (.inl r)), fun p hp => f _ _ _ (same_new hp) (resLst m i hp) g⟩
  · rename_i ns
    obtain ⟨x, rfl, h⟩ := lks1 l
    obtain ⟨a, e, r⟩ : ∃ a, x = .ref a ∧ ((∃ o, H a = some (.frz o (.lst (ns.map V.int)))) ∨ KLst X.K a (ns.map V.int)) := h
    subst e
    refine ⟨a, ns.map V.int, rfl, .inl ?_, fun p hp => f _ _ _ (same_new hp) (resLst m (Iss.ints ns) hp) g⟩
    rcases r with ⟨o, r⟩ | r
    · exact .inl (.inr ⟨o, r⟩)
    · exact .inr r
  · exact g.elim
def gTuple : GL
  | [.lst ps], Q => Q (.pv (.tup ps))
  | [.tup ps], Q => Q (.pv (.tup ps))
  | _, _ => False
theorem call_tupleP : CallP X (.type "tuple") gTuple := by
  refine ⟨_, call_tuple_of, fun H W ps xs Q F m l g f => ?_⟩
  unfold gTuple at g
  split at g
  · rename_i ps
    obtain ⟨x, rfl, h⟩ := lks1 l
    obtain ⟨a, vs, e, r, i⟩ := h
    subst e
    exact ⟨a, vs, rfl, .inl ⟨.inl (.inl r), fun p hp => f _ _ _ (same_new hp) (resTup m i hp) g⟩⟩
  · rename_i ps
    obtain ⟨x, rfl, h⟩ := lks1 l
    obtain ⟨a, vs, e, r, i⟩ : ∃ a vs, x = .ref a ∧ H a = some (.tup vs) ∧ Iss X.K H W ps vs := h
    subst e
    exact ⟨a, vs, rfl, .inr ⟨.inl (.inl r), fin1 f (p := .tup ps) ⟨a, vs, rfl, r, i⟩ g⟩⟩
  · exact g.elim
/-- isinstance with one built-in type -/
def tyN : PV → String
  | .non => "NoneType"
  | .bl _ => "bool"
  | .int _ => "int"
  | .str _ => "str"
  | .tup _ => "tuple"
  | .lst _ => "list"
  | .dic _ _ => "dict"
  | .scr _ => ""
  | .nst _ _ _ => ""
  | .ty _ => ""
def isTy (p : PV) (T : String) : Bool := tyN p == T || (tyN p == "bool" && T == "int")
def tyOk (T : String) : Prop := T ∈ ["str", "tuple", "int", "bool", "list", "dict"]
theorem kit_all : ∀ a ∈ ["NoneType", "bool", "int", "str", "tuple", "list", "dict"], ∀ T ∈ ["str", "tuple", "int", "bool", "list", "dict"], kitB a T = some (a == T || (a == "bool" && T == "int")) := by decide +kernel
def gIsi : GL
  | [p, .ty T], Q => (tyN p ≠ "" ∧ tyOk T) ∧ Q (.pv (.bl (isTy p T)))
  | _, _ => False
theorem tyx_of {K : PySem.W.Frag} {H : Hp} {W : Addr → Prop} {p : PV} {x : V} (l : Lk K H W p x) (n : tyN p ≠ "") : TyX K H x (.type (tyN p)) ∧ tyN p ∈ ["NoneType", "bool", "int", "str", "tuple", "list", "dict"] := by
  cases p with
  | non => cases (show x = _ from l); exact ⟨.base .non, by decide⟩
  | bl b => cases (show x = _ from l); exact ⟨.base (.bl b), by simp [tyN]⟩
  | int i => cases (show x = _ from l); exact ⟨.base (.int i), by simp [tyN]⟩
  | str s => obtain ⟨e, _⟩ : x = .str s ∧ sOk s = true := l; subst e; exact ⟨.base (.str s), by simp [tyN]⟩
  | tup ps => obtain ⟨a, vs, e, r, _⟩ : ∃ a vs, x = .ref a ∧ H a = some (.tup vs) ∧ Iss K H W ps vs := l; subst e; exact ⟨.base (.tup r), by simp [tyN]⟩
  | lst ps => obtain ⟨a, vs, e, r, _⟩ := l; subst e; exact ⟨.base (.lst r), by simp [tyN]⟩
  | dic ks ps =>
    obtain ⟨a, vs, e, r, _⟩ := l
    subst e
    rcases r with r | ⟨o, r⟩
    · exact ⟨.base (.dK r), by simp [tyN]⟩
    · exact ⟨.fDict r, by simp [tyN]⟩
  | scr ns => exact absurd rfl n
  | nst t c s => exact absurd rfl n
  | ty s => exact absurd rfl n
theorem call_isiP : CallP X (.builtin "isinstance") gIsi := by
  refine ⟨_, call_isi, fun H W ps xs Q F m l g f => ?_⟩
  unfold gIsi at g
  split at g
  · rename_i p T
    obtain ⟨x, y, rfl, h1, h2⟩ := lks2 l
    cases (show y = .ty T from h2)
    obtain ⟨t, mem⟩ := tyx_of h1 g.1.1
    exact ⟨x, .ty T, _, _, isTy p T, rfl, .ty T, t, kit_ty (kit_all _ mem T g.1.2), fin1 f (p := .bl _) rfl g.2⟩
  · exact g.elim
theorem qe_ty {T : String} {x : Str} {pos : Pos} (hm : X.mg x = none) (hg : Gl X x := by rfl) (hv : bootBuiltins x = some (.type T) := by decide +kernel) (hn : x ≠ "__name__" := by decide) (hd : (x == ("__debug__" : Str)) = false := by decide) : QE X (.Name x pos) (qK (.ty T)) :=
  ⟨_, pe_bltn (v := .ty T) hg hm hv rfl hn hd, rz_c fun _ _ => rfl⟩
/-- {} -/
def qDict0 (ρ : En) (Q : PK1) : Prop := Q (.fr (.dic [] [])) ρ
theorem qe_dict0 {pos : Pos} : QE X (.Dict [] [] pos) qDict0 := by
  refine ⟨_, pe_dnewK, fun G H σ ρ pd Q F R1 h f => ?_⟩
  intro d hd
  exact f _ ρ _ _ (res_of (z := .fr (.dic [] [])) R1 (same_new hd) ⟨d, .dK [], rfl, hd, upd_same, [], rfl, rfl, rfl, rfl⟩) h
end
end Px
namespace Px
open PySem L2 PyProof.Rows

/-- a def that keeps its promise, under its name -/
structure Has (P : Program) (w : World) (K : PySem.W.Frag) (mg : Str → Option Value) (base : Heap) (x : Str) (k : Nat) (ps : List Str) (S : FS) : Prop where
  ex : ∃ f fd, FnOk P w K mg base CX0 k f fd ps (spP K S) ∧ mg x = some (.ref f) ∧ PySem.W.keepIn K (.ref f) = true ∧ Binds K fd ps [] ∧ ∃ (y : Str) (o : Option Addr) (c : Value) (sl : Array (Option Value)), K.lookup f = some ⟨c, o, .func fd, sl⟩
theorem _root_.L2.Fun.at {K : PySem.W.Frag} {x y : Str} {st : Stmt} {f : Addr} {fd : FuncData} (F : Fun K x y st f fd) : ∃ (y : Str) (o : Option Addr) (c : Value) (sl : Array (Option Value)), K.lookup f = some ⟨c, o, .func fd, sl⟩ := by
  obtain ⟨oc, od, kV, doc, pm, an, cdv, ct, osl, e1, l1, _⟩ := F.ex
  exact ⟨x, od, oc, osl, l1⟩
/-- a def as it stands behind the top -/
structure IsDef (K : PySem.W.Frag) (mg : Str → Option Value) (x : Str) (st : Stmt) : Prop where
  ex : ∃ f fd, Fun K x x st f fd ∧ mg x = some (.ref f)
section
variable {P : Program} {w : World} {K : PySem.W.Frag} {mg : Str → Option Value} {base : Heap} {x : Str} {k j : Nat} {ps : List Str} {S S' : FS}
theorem Has.mono (h : Has P w K mg base x k ps S) (l : k ≤ j) : Has P w K mg base x j ps S := by
  obtain ⟨f, fd, F, r⟩ := h.ex
  exact ⟨f, fd, F.mono l, r⟩
/-- no call is allowed -/
theorem has_none {st : Stmt} (d : IsDef K mg x st) (b : ∀ {f : Addr} {fd : FuncData}, Fun K x x st f fd → Binds K fd ps []) (n : ∀ pvs, ¬ S.pre pvs) : Has P w K mg base x 0 ps S := by
  obtain ⟨f, fd, F, m⟩ := d.ex
  have no : ∀ vs H Q E, ¬ spP K S vs H Q E := fun vs H Q E h => by
    obtain ⟨pvs, _, _, _, _, _, pre, _⟩ := h
    exact n pvs pre
  exact ⟨f, fd, ⟨fun vs H Q E h => absurd h (no vs H Q E), fun A outer s H args us vs Q E _ _ _ _ h => absurd h (no vs H Q E)⟩, m, F.kp, b F, F.at⟩
end
section
variable {X : Cx} {k j : Nat} {x : Str} {ps : List Str} {S : FS} {e : Expr} {es : List Expr} {t : QTA} {p pos : Pos}
theorem qe_callH (h : Has X.prog X.w X.K X.mg X.base x j ps S) (hr : Room j X.A) (ha : QA X (e :: es) t) (hg : Gl X x := by rfl) (hdb : (x == ("__debug__" : Str)) = false := by decide)
    (he : starEach (e :: es) X.env = (false, eval e X.env) :: starEach es X.env := by rfl) (hpl : (backTo pos (starEach es X.env)).any (·.1) = false := by rfl) : QE X (.Call (.Name x p) (e :: es) [] pos) (qCall S t) := by
  obtain ⟨f, fd, F, m, kk, b, _⟩ := h.ex
  exact qe_call F hr m kk b ha hg hdb he hpl
def qNeg (t : QT) (ρ : En) (Q : PK1) : Prop := t ρ fun r ρ1 => match r with
  | .pv (.int i) => Q (.pv (.int (-i))) ρ1
  | _ => False
theorem qe_neg {a : Expr} {ta : QT} (ha : QE X a ta) : QE X (.UnaryOp .USub a pos) (qNeg ta) := by
  obtain ⟨t1, p1, q1⟩ := ha.ex
  refine ⟨_, pe_un un_neg p1, fun G H σ ρ pd Q F R1 h f => q1 G H σ ρ pd _ _ R1 h fun r ρ' v H' s g => ?_⟩
  cases r with
  | pv p =>
    cases p with
    | int i =>
      have e : v = .int i := s.pd (.int i, v) List.mem_cons_self
      subst e
      exact ⟨i, rfl, f (.pv (.int (-i))) ρ' _ H' (s.re.push rfl) g⟩
    | _ => exact g.elim
  | _ => exact g.elim
theorem room64 {k : Nat} {A : Around} (hr : Room k A) : A.units + 64 < cLine := by have := hr.un; omega
theorem room65 {k : Nat} {A : Around} (hr : Room k A) : A.units + 65 < cLine := by have := hr.un; omega
end

/-- a def's data from its place -/
theorem same_fd {P : Program} {w : World} {K : PySem.W.Frag} {mg : Str → Option Value} {base : Heap} {CX : CXT} {x y : Str} {st : Stmt} {f : Addr} {fd fd' : FuncData} {k : Nat} {ps : List Str} {sp : Sp} (h : Fun K x y st f fd) (F : FnOk P w K mg base CX k f fd' ps sp)
    (h' : ∃ (y : Str) (o : Option Addr) (c : Value) (sl : Array (Option Value)), K.lookup f = some ⟨c, o, .func fd', sl⟩) : FnOk P w K mg base CX k f fd ps sp := by
  obtain ⟨oc, od, kV, doc, pm, an, cdv, ct, osl, e1, l1, _⟩ := h.ex
  obtain ⟨_, _, _, _, l2⟩ := h'
  rw [l1] at l2
  cases l2
  exact F

/-! ### the law -/
def sLaw : FS := { io := [false], pre := fun ps => ∃ ns : List Int, ps = [.scr ns] ∧ ns.length ≤ 63, post := fun _ r _ => r = .bl true }
theorem law_sp {K : PySem.W.Frag} {H : Hp} {a : Addr} {ns : List Int} {E : XK} (hl : ns.length ≤ 63) (ho : Only H) (hs : SqL K H a (ns.map V.int)) : spP K sLaw [.ref a] H (fun v _ => v = .bl true) E := by
  have hi : (∃ o, H a = some (.frz o (.lst (ns.map V.int)))) ∨ KLst K a (ns.map V.int) := by
    rcases hs with (h | ⟨o, h⟩) | h
    · rcases ho a with z | ⟨o, xs, z⟩
      · rw [z] at h; cases h
      · rw [z] at h; cases h
    · exact .inl ⟨o, h⟩
    · exact .inr h
  have nio : ∀ b, ¬ Iob [false] [V.ref a] b := fun b ⟨i, e, _⟩ => by
    cases i with
    | zero => simp at e
    | succ i => simp at e
  have nown : ∀ (i : Nat) (b : Bool) (p : PV), (mk [false] [PV.scr ns])[i]? ≠ some (Sl.own b p) := fun i b p e => by
    obtain ⟨e1, _, _⟩ := mk_own e
    cases i with
    | zero => simp at e1
    | succ i => simp at e1
  refine ⟨[.scr ns], fun _ => False, fun _ => False, rfl, rfl, ⟨rfl, fun i p e => ?_, fun i b p e => absurd e (nown i b p), fun i j b c p q d e1 => absurd e1 (nown i b p), fun i b h => ?_, fun b o e => (G0_of e).2.2, fun b h => h.elim, fun x hx => by simp at hx, ⟨fun b h => h.elim, fun i b p a _ _ h => h.elim, fun i b c s e => absurd e (nown i b _)⟩⟩, ⟨ns, rfl, hl⟩, fun v H' r outs hp _ fin => ?_⟩
  · obtain ⟨e1, e2⟩ := mk_val e
    cases i with
    | zero => cases e2; exact ⟨.ref a, rfl, a, rfl, hi⟩
    | succ i => simp at e2
  · cases i with
    | zero => have := h.1; simp [sLaw] at this
    | succ i => have := h.1; simp [sLaw] at this
  · have hp' : r = .bl true := hp
    subst hp'
    exact fin.res rfl
end Px
namespace Px
open PySem L2 PyProof.Rows

/-! ### facts for readings -/
theorem eqOk_str (s : Str) : eqOk (.str s) := ⟨rfl, Nat.zero_le _⟩
theorem eqOk_int (i : Int) : eqOk (.int i) := ⟨rfl, Nat.zero_le _⟩
theorem eqOk_bl (b : Bool) : eqOk (.bl b) := ⟨rfl, Nat.zero_le _⟩
theorem eqOk_non : eqOk .non := ⟨rfl, Nat.zero_le _⟩
theorem peq_str (a b : Str) : peq (.str a) (.str b) = (a == b) := rfl
theorem peq_int (a b : Int) : peq (.int a) (.int b) = (a == b) := rfl
theorem peq_bl (a b : Bool) : peq (.bl a) (.bl b) = (a == b) := rfl
theorem peq_tup (a b : List PV) : peq (.tup a) (.tup b) = peqs a b := rfl
theorem peq_lst (a b : List PV) : peq (.lst a) (.lst b) = peqs a b := rfl
theorem peqs_nil : peqs [] [] = true := rfl
theorem peqs_cons (a b : PV) (as bs : List PV) : peqs (a :: as) (b :: bs) = (peq a b && peqs as bs) := rfl
theorem peqs_nc (a : PV) (as : List PV) : peqs [] (a :: as) = false := rfl
theorem peqs_cn (a : PV) (as : List PV) : peqs (a :: as) [] = false := rfl
theorem forGo_nil {g : QTG} {body : QTS} {D : PEnds} {ρ : En} : forGo g body D [] ρ = D.nx ρ := rfl
theorem forGo_cons {g : QTG} {body : QTS} {D : PEnds} {p : PV} {ps : List PV} {ρ : En} : forGo g body D (p :: ps) ρ = g p ρ fun ρ1 => body { nx := fun ρ2 => forGo g body D ps ρ2, rt := D.rt, bk := D.nx, ct := fun ρ2 => forGo g body D ps ρ2 } ρ1 := rfl
theorem lcGo_nil {g : QTG} {tt : QTT} {te : QT} {vs : List Nat} {Q : List PV → En → Prop} {acc : List PV} {ρ : En} : lcGo g tt te vs Q [] acc ρ = Q acc ρ := rfl
theorem notIos_nil {ρ : En} : notIos ρ [] = True := by simp [notIos]
theorem notIos_cons {ρ : En} {v : Nat} {vs : List Nat} : notIos ρ (v :: vs) = (notIo ρ v = true ∧ notIos ρ vs) := by simp [notIos]
theorem getP_of {ps : List PV} {i : Int} {p : PV} {Q : R → Prop} (h : atI ps i = some p) (q : Q (.pv p)) : getP ps i Q := by unfold getP; rw [h]; exact q
theorem atI_0 {α : Type} {x : α} {xs : List α} : atI (x :: xs) 0 = some x := atI_nat (j := 0) rfl
theorem atI_1 {α : Type} {x y : α} {xs : List α} : atI (x :: y :: xs) 1 = some y := atI_nat (j := 1) rfl
theorem atI_2 {α : Type} {x y z : α} {xs : List α} : atI (x :: y :: z :: xs) 2 = some z := atI_nat (j := 2) rfl
theorem atI_3 {α : Type} {x y z u : α} {xs : List α} : atI (x :: y :: z :: u :: xs) 3 = some u := atI_nat (j := 3) rfl
theorem atI_in {α : Type} {xs : List α} {i : Int} (h0 : 0 ≤ i) (h : i < (xs.length : Int)) : ∃ x, atI xs i = some x ∧ x ∈ xs := by
  have l : i.toNat < xs.length := by omega
  have e : i = ((i.toNat : Nat) : Int) := by omega
  refine ⟨xs[i.toNat], ?_, List.getElem_mem l⟩
  have z : atI xs ((i.toNat : Nat) : Int) = some xs[i.toNat] := atI_nat (List.getElem?_eq_getElem l)
  rw [← e] at z
  exact z
theorem ixN_of {n : Nat} {k : Nat} (h : k < n) : ixN n (k : Int) = some k := by unfold ixN; simp; omega
theorem ixN_0 {m : Nat} : ixN (m + 1) 0 = some 0 := ixN_of (k := 0) (by omega)
theorem ixN_1 {m : Nat} : ixN (m + 2) 1 = some 1 := ixN_of (k := 1) (by omega)
theorem ixN_2 {m : Nat} : ixN (m + 3) 2 = some 2 := ixN_of (k := 2) (by omega)
theorem ixN_3 {m : Nat} : ixN (m + 4) 3 = some 3 := ixN_of (k := 3) (by omega)
theorem cmul_r {i : Int} {j : Int} (h : -(2 ^ 64) < j ∧ j < 2 ^ 64) : CMul i j := .inr h
theorem atI_int {ns : List Int} {i : Int} (h0 : 0 ≤ i) (h : i < (ns.length : Int)) : ∃ x, atI (ns.map PV.int) i = some (PV.int x) := by
  obtain ⟨x, e, m⟩ := atI_in (xs := ns.map PV.int) h0 (by rw [List.length_map]; exact h)
  obtain ⟨y, _, rfl⟩ := List.mem_map.mp m
  exact ⟨y, e⟩
theorem cut_from1 {α : Type} (x : α) (xs : List α) : cutP (x :: xs) (some 1) none = xs := by
  unfold cutP
  have e1 : HT.sIx (x :: xs).length 0 (some 1) = 1 := by
    rw [show (1 : Int) = ((1 : Nat) : Int) from rfl, HT.sIx_nat]; simp
  have e2 : HT.sIx (x :: xs).length (x :: xs).length none = (x :: xs).length := rfl
  rw [e1, e2]
  simp
theorem lcGo_cons {g : QTG} {tt : QTT} {te : QT} {vs : List Nat} {Q : List PV → En → Prop} {p : PV} {ps acc : List PV} {ρ : En} : lcGo g tt te vs Q (p :: ps) acc ρ = g p ρ fun ρ1 => tt ρ1 fun b ρ2 => Br b (te ρ2 fun r ρ3 => match r.wk with
      | .pv q => small (acc.length + 1) ∧ notIos ρ3 vs ∧ lcGo g tt te vs Q ps (acc ++ [q]) (wipeE ρ3 vs)
      | _ => False) (notIos ρ2 vs ∧ lcGo g tt te vs Q ps acc (wipeE ρ2 vs)) := rfl
/-- a comprehension, by what holds ahead of the rest; N stands for what follows the rest -/
theorem lc_ind {g : QTG} {tt : QTT} {te : QT} {vs : List Nat} {Q : List PV → En → Prop} (I : List PV → List PV → En → Prop) (hn : ∀ acc ρ, I [] acc ρ → Q acc ρ)
    (hc : ∀ p ps acc ρ, I (p :: ps) acc ρ → ∀ N : List PV → En → Prop, (∀ acc' ρ', I ps acc' ρ' → N acc' ρ') → g p ρ fun ρ1 => tt ρ1 fun b ρ2 => Br b (te ρ2 fun r ρ3 => match r.wk with
      | .pv q => small (acc.length + 1) ∧ notIos ρ3 vs ∧ N (acc ++ [q]) (wipeE ρ3 vs)
      | _ => False) (notIos ρ2 vs ∧ N acc (wipeE ρ2 vs))) : ∀ ps acc ρ, I ps acc ρ → lcGo g tt te vs Q ps acc ρ
  | [], acc, ρ, h => hn acc ρ h
  | p :: ps, acc, ρ, h => hc p ps acc ρ h (lcGo g tt te vs Q ps) fun acc' ρ' h' => lc_ind I hn hc ps acc' ρ' h'
theorem tyOk_str : tyOk "str" := by unfold tyOk; decide
theorem tyOk_tuple : tyOk "tuple" := by unfold tyOk; decide
theorem tyOk_int : tyOk "int" := by unfold tyOk; decide
theorem tyOk_bool : tyOk "bool" := by unfold tyOk; decide
theorem tyOk_list : tyOk "list" := by unfold tyOk; decide
theorem tyOk_dict : tyOk "dict" := by unfold tyOk; decide
/-- a slot that the def may store to -/
def Pl (s : Sl) : Prop := s = .un ∨ ∃ p, s = .val p
theorem pl_un : Pl .un := .inl rfl
theorem pl_val {p : PV} : Pl (.val p) := .inr ⟨p, rfl⟩
/-- the items of a list or a tuple -/
def items : PV → List PV
  | .lst qs => qs
  | .tup qs => qs
  | _ => []
def isRow : PV → Prop
  | .lst _ => True
  | .tup _ => True
  | _ => False
theorem call_i {S : FS} {rs : List R} {ρ : En} {Q : PK1} {ps : List PV} {js : List Nat} {dm : Dum Q} (h : splitArgs ρ S.io rs = some (ps, js)) (nd : js.Nodup) (pre : S.pre ps) (k : ∀ r outs, S.post ps r outs → outs.length = js.length → Q (if S.fr = true then .fr r else .pv r) (putOuts js outs ρ)) : callR S rs ρ Q dm := by
  unfold callR
  rw [h]
  exact ⟨nd, pre, k⟩
/-- .. nothing handed on to be changed -/
theorem call_p {S : FS} {rs : List R} {ρ : En} {Q : PK1} {ps : List PV} {dm : Dum Q} (h : splitArgs ρ S.io rs = some (ps, [])) (hf : S.fr = false) (pre : S.pre ps) (k : ∀ r, S.post ps r [] → Q (.pv r) ρ) : callR S rs ρ Q dm :=
  call_i h List.nodup_nil pre fun r outs hp l => by
    have e : outs = [] := List.length_eq_zero_iff.mp l
    subst e
    rw [hf]
    exact k r hp
/-- .. one thing -/
theorem call_1 {S : FS} {rs : List R} {ρ : En} {Q : PK1} {ps : List PV} {j : Nat} {dm : Dum Q} (h : splitArgs ρ S.io rs = some (ps, [j])) (hf : S.fr = false) (pre : S.pre ps) (k : ∀ r d, S.post ps r [d] → Q (.pv r) (setOwn ρ j d)) : callR S rs ρ Q dm :=
  call_i h (List.nodup_cons.mpr ⟨by simp, List.nodup_nil⟩) pre fun r outs hp l => by
    obtain ⟨d, rfl⟩ := List.length_eq_one_iff.mp l
    rw [hf]
    exact k r d hp
theorem lcR_i {g : QTG} {tt : QTT} {te : QT} {vs : List Nat} {ps : List PV} {ρ : En} {Q : PK1} {dm : Dum Q} (h : lcGo g tt te vs (fun acc ρ' => Q (.fr (.lst acc)) ρ') ps [] ρ) : lcR g tt te vs ps ρ Q dm := h
theorem while_i {c : QTT} {body : QTS} {D : PEnds} {ρ : En} (I : Nat → En → Prop) (m : Nat) (h0 : I m ρ) (h : ∀ m ρ, I m ρ → c ρ fun b ρ1 => Br b (body { nx := fun ρ' => ∃ m', m' < m ∧ I m' ρ', rt := D.rt, bk := D.nx, ct := fun ρ' => ∃ m', m' < m ∧ I m' ρ' } ρ1) (D.nx ρ1)) : qWhile c body D ρ := ⟨I, ⟨m, h0⟩, h⟩
/-- a loop, by what holds ahead of the rest; N stands for what follows the rest -/
theorem for_ind {g : QTG} {body : QTS} {D : PEnds} (I : List PV → En → Prop) (hn : ∀ ρ, I [] ρ → D.nx ρ)
    (hc : ∀ p ps ρ, I (p :: ps) ρ → ∀ N : En → Prop, (∀ ρ', I ps ρ' → N ρ') → g p ρ fun ρ1 => body { nx := N, rt := D.rt, bk := D.nx, ct := N } ρ1) : ∀ ps ρ, I ps ρ → forGo g body D ps ρ
  | [], ρ, h => hn ρ h
  | p :: ps, ρ, h => hc p ps ρ h (forGo g body D ps) fun ρ' h' => for_ind I hn hc ps ρ' h'
end Px
set_option maxHeartbeats 1000000
/-! list(zip(xs, ys)), of two lists or two tuples, as the model has it: the pairs are all kept, so the zip's own tuple is never used again -/
namespace PxZ
open PySem PySem.Spec PyProof.Rows RZ
section
variable {prog : Program} {w : World} {A : Around} {E : Value → Shared → Prop} {s : Shared}
theorem freeT {zz TI TO T : Addr} {f : Bool} {oT : Obj} {Q : Bool → Shared → Prop} (e1 : IsZipHeld s.heap zz TI TO T f) (e2 : s.heap.get? T = some oT)
    (h : ∀ h', IsZipHeld h' zz TI TO T true → Heap.SameBut zz s.heap h' → Q false { s with heap := h' }) : wpAny (model prog w) A (Builtin.SmallTypes.ownedTupleIsFree (.ref zz)) Q E s := wpAny_tupleHeld_zip e1 e2 h
/-- the next pair of two tuples, the pair ahead still held -/
theorem heldT {zz TI TO T j1 j2 m1 m2 : Addr} {f : Bool} {oT : Obj} {n1 n2 : Nat} {xs ys : Array Value} {x y : Value} {Q : Option Value → Shared → Prop} (D : ZipApart zz TI TO j1 j2 m1 m2)
    (e1 : IsZipHeld s.heap zz TI TO T f) (e2 : s.heap.get? T = some oT) (e3 : IsPair s.heap TI (.ref j1) (.ref j2))
    (g1 : s.heap.IsTupleIter j1 m1 n1) (g2 : s.heap.IsTupleIter j2 m2 n2) (t1 : s.heap.IsTuple m1 xs) (t2 : s.heap.IsTuple m2 ys) (ex : xs[n1]? = some x) (ey : ys[n2]? = some y)
    (k : ∀ h', IsZipHeld h' zz TI TO T true → h'.IsTupleIter j1 m1 (n1 + 1) → h'.IsTupleIter j2 m2 (n2 + 1) → IsPair h' s.heap.objs.size x y → h'.objs.size = s.heap.objs.size + 1 →
      (∀ c o, c ≠ zz → c ≠ j1 → c ≠ j2 → s.heap.get? c = some o → h'.get? c = some o) → Q (some (.ref s.heap.objs.size)) { s with heap := h' }) :
    wpAny (model prog w) A (pyNext (.ref zz)) Q E s := by
  have ty : s.TypeIs (.ref zz) "zip" := ⟨_, e1, rfl⟩
  unfold pyNext
  refine wpAny_bind (wpAny_attempt (wpAny_callSpecial?_slot (name := Str.ofString "__next__") ty F.slot_zip_next (wpAny_call_entry F.slot_zip_next ty F.entry_zip_next ?_ (F.args_zip_next_1 _))))
  show wpAny _ _ (field (.ref zz) 2 >>= _) _ _ _; refine wpAny_bind (wpAny_field e1 rfl (x := .bool false) rfl ?_)
  show wpAny _ _ (field (.ref zz) 3 >>= _) _ _ _; refine wpAny_bind (wpAny_field e1 rfl (x := .ref TI) rfl ?_)
  refine wpAny_bind (wpAny_seqItems e3 rfl ?_); show wpAny _ _ (Builtin.SmallTypes.ownedTupleIsFree (.ref zz) >>= _) _ _ _
  refine wpAny_bind (freeT e1 e2 fun hA zA sA => ?_)
  simp only [Bool.false_eq_true, if_false]; refine wpAny_bind ?_
  rw [← Array.forIn_toList]; simp only [List.forIn_cons, List.forIn_nil]; refine wpAny_bind (wpAny_bind (wpAny_holding ?_))
  show wpAny _ _ (Builtin.SmallTypes.nextOf (.ref j1) >>= _) _ _ _
  refine wpAny_bind (nextOf_tuple_item (s := { s with heap := hA }) (g1.extBut sA.extBut D.i1z) (t1.extBut sA.extBut D.l1z) ex fun hB gB sB => wpAny_pure ?_)
  refine wpAny_pure ?_; refine wpAny_bind (wpAny_bind (wpAny_holding ?_))
  show wpAny _ _ (Builtin.SmallTypes.nextOf (.ref j2) >>= _) _ _ _
  refine wpAny_bind (nextOf_tuple_item (s := { s with heap := hB }) ((g2.extBut sA.extBut D.i2z).extBut sB.extBut D.i12.symm) ((t2.extBut sA.extBut D.l2z).extBut sB.extBut D.l2i1) ey fun hC gC sC => wpAny_pure ?_)
  refine wpAny_pure (wpAny_pure ?_); show wpAny _ _ (newTuple [x, y] >>= _) _ _ _
  refine wpAny_bind (wpAny_newTuple ?_)
  have sz : hC.objs.size = s.heap.objs.size := by rw [sC.1, sB.1, sA.1]
  have zC : IsZipHeld hC zz TI TO T true := sC.extBut _ _ D.i2z.symm (sB.extBut _ _ D.i1z.symm zA)
  have kp : ∀ c o, c ≠ zz → c ≠ j1 → c ≠ j2 → s.heap.get? c = some o → hC.get? c = some o := fun c o c1 c2 c3 e => sC.extBut _ _ c3 (sB.extBut _ _ c2 (sA.extBut _ _ c1 e))
  have gB' : hC.IsTupleIter j1 m1 (n1 + 1) := gB.extBut sC.extBut D.i12
  refine wpAny_pure ⟨_, rfl, wpAny_pure ?_⟩; show Q (some (.ref hC.objs.size)) _
  have hp : IsPair (hC.push { cls := .type "tuple", data := .seq #[x, y] }) hC.objs.size x y := Heap.get?_push_size _ rfl
  have hz : (hC.push { cls := .type "tuple", data := .seq #[x, y] }).objs.size = hC.objs.size + 1 := Heap.size_push ..
  rw [sz] at hp hz ⊢
  exact k _ (Heap.get?_push_of_some _ zC) (gB'.at fun o e => Heap.get?_push_of_some _ e) (gC.at fun o e => Heap.get?_push_of_some _ e) hp hz fun c o c1 c2 c3 e => Heap.get?_push_of_some _ (kp c o c1 c2 c3 e)
theorem endT {zz TI TO T j1 j2 m1 m2 : Addr} {f : Bool} {oT : Obj} {n1 n2 : Nat} {xs ys : Array Value} {Q : Option Value → Shared → Prop} (hh : A.handled = none) (D : ZipApart zz TI TO j1 j2 m1 m2)
    (e1 : IsZipHeld s.heap zz TI TO T f) (e2 : s.heap.get? T = some oT) (e3 : IsPair s.heap TI (.ref j1) (.ref j2))
    (g1 : s.heap.IsTupleIter j1 m1 n1) (g2 : s.heap.IsTupleIter j2 m2 n2) (t1 : s.heap.IsTuple m1 xs) (t2 : s.heap.IsTuple m2 ys) (en : xs[n1]? = none ∨ ys[n2]? = none)
    (k : ∀ h', (∀ c o, c ≠ zz → c ≠ j1 → c ≠ j2 → s.heap.get? c = some o → h'.get? c = some o) → Q none { s with heap := h' }) : wpAny (model prog w) A (pyNext (.ref zz)) Q E s := by
  have ty : s.TypeIs (.ref zz) "zip" := ⟨_, e1, rfl⟩
  unfold pyNext
  refine wpAny_bind (wpAny_attempt (wpAny_callSpecial?_slot (name := Str.ofString "__next__") ty F.slot_zip_next (wpAny_call_entry F.slot_zip_next ty F.entry_zip_next ?_ (F.args_zip_next_1 _))))
  show wpAny _ _ (field (.ref zz) 2 >>= _) _ _ _; refine wpAny_bind (wpAny_field e1 rfl (x := .bool false) rfl ?_)
  show wpAny _ _ (field (.ref zz) 3 >>= _) _ _ _; refine wpAny_bind (wpAny_field e1 rfl (x := .ref TI) rfl ?_)
  refine wpAny_bind (wpAny_seqItems e3 rfl ?_); show wpAny _ _ (Builtin.SmallTypes.ownedTupleIsFree (.ref zz) >>= _) _ _ _
  refine wpAny_bind (freeT e1 e2 fun hA zA sA => ?_)
  simp only [Bool.false_eq_true, if_false]; refine wpAny_bind ?_
  rw [← Array.forIn_toList]; simp only [List.forIn_cons, List.forIn_nil]; refine wpAny_bind (wpAny_bind (wpAny_holding ?_))
  show wpAny _ _ (Builtin.SmallTypes.nextOf (.ref j1) >>= _) _ _ _
  cases hx : xs[n1]? with
  | none =>
    refine wpAny_bind (nextOf_tuple_end (s := { s with heap := hA }) hh (g1.extBut sA.extBut D.i1z) (t1.extBut sA.extBut D.l1z) hx fun hB e sB he => ?_)
    obtain ⟨o, ho, hc⟩ := he; refine wpAny_bind (wpAny_isInstance (T := "StopIteration") (b := true) ⟨o, ho, hc⟩ isSubtype_stop ?_)
    exact wpAny_pure (k _ fun c o c1 c2 _ x => sB _ _ c2 (sA.extBut _ _ c1 x))
  | some x =>
    have hy : ys[n2]? = none := by rcases en with h | h; rw [hx] at h; cases h; exact h
    refine wpAny_bind (nextOf_tuple_item (s := { s with heap := hA }) (g1.extBut sA.extBut D.i1z) (t1.extBut sA.extBut D.l1z) hx fun hB gB sB => wpAny_pure ?_)
    refine wpAny_pure ?_; refine wpAny_bind (wpAny_bind (wpAny_holding ?_))
    show wpAny _ _ (Builtin.SmallTypes.nextOf (.ref j2) >>= _) _ _ _
    refine wpAny_bind (nextOf_tuple_end (s := { s with heap := hB }) hh ((g2.extBut sA.extBut D.i2z).extBut sB.extBut D.i12.symm) ((t2.extBut sA.extBut D.l2z).extBut sB.extBut D.l2i1) hy fun hC e sC he => ?_)
    obtain ⟨o, ho, hc⟩ := he; refine wpAny_bind (wpAny_isInstance (T := "StopIteration") (b := true) ⟨o, ho, hc⟩ isSubtype_stop ?_)
    exact wpAny_pure (k _ fun c o c1 c2 c3 x => sC _ _ c3 (sB.extBut _ _ c2 (sA.extBut _ _ c1 x)))
end
/-- a zip that is drawn from while the list at S is filled -/
structure ZSrc (prog : Program) (w : World) (zz S : Addr) (fp : List Addr) (n : Nat) (Pv : Nat → Value → Value → Prop) (St : Nat → Heap → Prop) : Prop where
  off : S ∉ fp
  frame : ∀ i h h', St i h → (∀ b o, b ≠ S → h.get? b = some o → h'.get? b = some o) → St i h'
  item : ∀ (A : Around) (s : Shared) (i : Nat) (Q : Option Value → Shared → Prop) (E : Value → Shared → Prop), i < n → St i s.heap → S < s.heap.objs.size →
    (∀ x y h', Pv i x y → IsPair h' s.heap.objs.size x y → h'.objs.size = s.heap.objs.size + 1 → St (i + 1) h' → (∀ b o, b ∉ fp → s.heap.get? b = some o → h'.get? b = some o) → Q (some (.ref s.heap.objs.size)) { s with heap := h' }) →
    wpAny (model prog w) A (pyNext (.ref zz)) Q E s
  done : ∀ (A : Around) (s : Shared) (Q : Option Value → Shared → Prop) (E : Value → Shared → Prop), A.handled = none → St n s.heap →
    (∀ h', (∀ b o, b ∉ fp → s.heap.get? b = some o → h'.get? b = some o) → Q none { s with heap := h' }) → wpAny (model prog w) A (pyNext (.ref zz)) Q E s
section
variable {prog : Program} {w : World}
theorem min_end {xs ys : Array Value} : xs[min xs.size ys.size]? = none ∨ ys[min xs.size ys.size]? = none := by
  rcases Nat.le_total xs.size ys.size with h | h
  · exact .inl (Array.getElem?_eq_none (by omega))
  · exact .inr (Array.getElem?_eq_none (by omega))
theorem zsrcL {zz TI TO j1 j2 m1 m2 S : Addr} (D : ZipApart zz TI TO j1 j2 m1 m2) (xs ys : Array Value) (hS : S ≠ zz ∧ S ≠ TI ∧ S ≠ TO ∧ S ≠ j1 ∧ S ≠ j2 ∧ S ≠ m1 ∧ S ≠ m2) :
    ZSrc prog w zz S [zz, TO, j1, j2] (min xs.size ys.size) (fun i k v => xs[i]? = some k ∧ ys[i]? = some v)
      (fun i h => IsPair h TI (.ref j1) (.ref j2) ∧ h.IsListIter j1 m1 i ∧ h.IsListIter j2 m2 i ∧ h.IsList m1 xs ∧ h.IsList m2 ys ∧
        ((IsZip h zz TI TO .none ∧ ∃ a b, IsPair h TO a b) ∨ ∃ T f oT, IsZipHeld h zz TI TO T f ∧ h.get? T = some oT ∧ T ≠ zz ∧ T ≠ j1 ∧ T ≠ j2 ∧ T ≠ S)) := by
  obtain ⟨s1, s2, s3, s4, s5, s6, s7⟩ := hS
  refine ⟨by simp [s1, s3, s4, s5], fun i h h' st k => ?_, fun A s i Q E hi st hs q => ?_, fun A s Q E hh st q => ?_⟩
  · obtain ⟨p, g1, g2, t1, t2, c⟩ := st
    refine ⟨k _ _ s2.symm p, g1.at fun o => k _ o s4.symm, g2.at fun o => k _ o s5.symm, t1.at fun o => k _ o s6.symm, t2.at fun o => k _ o s7.symm, ?_⟩
    rcases c with ⟨c, a, b, c2⟩ | ⟨T, f, oT, c, hT, r1, r2, r3, r4⟩
    · exact .inl ⟨k _ _ s1.symm c, a, b, k _ _ s3.symm c2⟩
    · exact .inr ⟨T, f, oT, k _ _ s1.symm c, k _ _ r4 hT, r1, r2, r3, r4⟩
  · obtain ⟨p, g1, g2, t1, t2, c⟩ := st
    have ex := Array.getElem?_eq_getElem (Nat.lt_of_lt_of_le hi (Nat.min_le_left xs.size ys.size))
    have ey := Array.getElem?_eq_getElem (Nat.lt_of_lt_of_le hi (Nat.min_le_right xs.size ys.size))
    have lt : ∀ {c o}, s.heap.get? c = some o → s.heap.objs.size ≠ c := fun e => Nat.ne_of_gt (Heap.lt_size e)
    have n1 : s.heap.objs.size ≠ j1 := let ⟨_, e, _⟩ := g1; lt e
    have n2 : s.heap.objs.size ≠ j2 := let ⟨_, e, _⟩ := g2; lt e
    rcases c with ⟨c, a, b, c2⟩ | ⟨T, f, oT, c, hT, r1, r2, r3, r4⟩
    · refine wpAny_pyNext_zip_item D c p c2 g1 g2 t1 t2 ex ey fun h' a1 a2 a3 a4 a5 a6 hk => ?_
      refine q _ _ h' ⟨ex, ey⟩ a5 a6 ⟨hk _ _ D.TIz D.TITO D.TIi1 D.TIi2 p, a3, a4, t1.at fun o => hk _ o D.l1z D.l1TO D.l1i1 D.l1i2, t2.at fun o => hk _ o D.l2z D.l2TO D.l2i1 D.l2i2, .inr ⟨_, false, _, a1, a5, lt c, n1, n2, Nat.ne_of_gt hs⟩⟩ fun d o hd e => ?_
      simp only [List.mem_cons, List.not_mem_nil, or_false, not_or] at hd
      exact hk d o hd.1 hd.2.1 hd.2.2.1 hd.2.2.2 e
    · refine wpAny_pyNext_zip_item_held D c hT p g1 g2 t1 t2 ex ey fun h' a1 a3 a4 a5 a6 hk => ?_
      refine q _ _ h' ⟨ex, ey⟩ a5 a6 ⟨hk _ _ D.TIz D.TIi1 D.TIi2 p, a3, a4, t1.at fun o => hk _ o D.l1z D.l1i1 D.l1i2, t2.at fun o => hk _ o D.l2z D.l2i1 D.l2i2, .inr ⟨T, true, oT, a1, hk _ _ r1 r2 r3 hT, r1, r2, r3, r4⟩⟩ fun d o hd e => ?_
      simp only [List.mem_cons, List.not_mem_nil, or_false, not_or] at hd
      exact hk d o hd.1 hd.2.2.1 hd.2.2.2 e
  · obtain ⟨p, g1, g2, t1, t2, c⟩ := st
    rcases c with ⟨c, a, b, c2⟩ | ⟨T, f, oT, c, hT, r1, r2, r3, r4⟩
    · exact wpAny_pyNext_zip_end hh D c p c2 g1 g2 t1 t2 min_end fun h' hk => q h' fun d o hd e => by
        simp only [List.mem_cons, List.not_mem_nil, or_false, not_or] at hd
        exact hk d o hd.1 hd.2.1 hd.2.2.1 hd.2.2.2 e
    · exact wpAny_pyNext_zip_end_held hh D c hT p g1 g2 t1 t2 min_end fun h' hk => q h' fun d o hd e => by
        simp only [List.mem_cons, List.not_mem_nil, or_false, not_or] at hd
        exact hk d o hd.1 hd.2.2.1 hd.2.2.2 e
theorem zsrcT {zz TI TO j1 j2 m1 m2 S : Addr} (D : ZipApart zz TI TO j1 j2 m1 m2) (xs ys : Array Value) (hS : S ≠ zz ∧ S ≠ TI ∧ S ≠ TO ∧ S ≠ j1 ∧ S ≠ j2 ∧ S ≠ m1 ∧ S ≠ m2) :
    ZSrc prog w zz S [zz, TO, j1, j2] (min xs.size ys.size) (fun i k v => xs[i]? = some k ∧ ys[i]? = some v)
      (fun i h => IsPair h TI (.ref j1) (.ref j2) ∧ h.IsTupleIter j1 m1 i ∧ h.IsTupleIter j2 m2 i ∧ h.IsTuple m1 xs ∧ h.IsTuple m2 ys ∧
        ((IsZip h zz TI TO .none ∧ ∃ a b, IsPair h TO a b) ∨ ∃ T f oT, IsZipHeld h zz TI TO T f ∧ h.get? T = some oT ∧ T ≠ zz ∧ T ≠ j1 ∧ T ≠ j2 ∧ T ≠ S)) := by
  obtain ⟨s1, s2, s3, s4, s5, s6, s7⟩ := hS
  refine ⟨by simp [s1, s3, s4, s5], fun i h h' st k => ?_, fun A s i Q E hi st hs q => ?_, fun A s Q E hh st q => ?_⟩
  · obtain ⟨p, g1, g2, t1, t2, c⟩ := st
    refine ⟨k _ _ s2.symm p, g1.at fun o => k _ o s4.symm, g2.at fun o => k _ o s5.symm, t1.at fun o => k _ o s6.symm, t2.at fun o => k _ o s7.symm, ?_⟩
    rcases c with ⟨c, a, b, c2⟩ | ⟨T, f, oT, c, hT, r1, r2, r3, r4⟩
    · exact .inl ⟨k _ _ s1.symm c, a, b, k _ _ s3.symm c2⟩
    · exact .inr ⟨T, f, oT, k _ _ s1.symm c, k _ _ r4 hT, r1, r2, r3, r4⟩
  · obtain ⟨p, g1, g2, t1, t2, c⟩ := st
    have ex := Array.getElem?_eq_getElem (Nat.lt_of_lt_of_le hi (Nat.min_le_left xs.size ys.size))
    have ey := Array.getElem?_eq_getElem (Nat.lt_of_lt_of_le hi (Nat.min_le_right xs.size ys.size))
    have lt : ∀ {c o}, s.heap.get? c = some o → s.heap.objs.size ≠ c := fun e => Nat.ne_of_gt (Heap.lt_size e)
    have n1 : s.heap.objs.size ≠ j1 := let ⟨_, e, _⟩ := g1; lt e
    have n2 : s.heap.objs.size ≠ j2 := let ⟨_, e, _⟩ := g2; lt e
    rcases c with ⟨c, a, b, c2⟩ | ⟨T, f, oT, c, hT, r1, r2, r3, r4⟩
    · refine pyNext_zipT_item D c p c2 g1 g2 t1 t2 ex ey fun h' a1 a2 a3 a4 a5 a6 hk => ?_
      refine q _ _ h' ⟨ex, ey⟩ a5 a6 ⟨hk _ _ D.TIz D.TITO D.TIi1 D.TIi2 p, a3, a4, t1.at fun o => hk _ o D.l1z D.l1TO D.l1i1 D.l1i2, t2.at fun o => hk _ o D.l2z D.l2TO D.l2i1 D.l2i2, .inr ⟨_, false, _, a1, a5, lt c, n1, n2, Nat.ne_of_gt hs⟩⟩ fun d o hd e => ?_
      simp only [List.mem_cons, List.not_mem_nil, or_false, not_or] at hd
      exact hk d o hd.1 hd.2.1 hd.2.2.1 hd.2.2.2 e
    · refine heldT D c hT p g1 g2 t1 t2 ex ey fun h' a1 a3 a4 a5 a6 hk => ?_
      refine q _ _ h' ⟨ex, ey⟩ a5 a6 ⟨hk _ _ D.TIz D.TIi1 D.TIi2 p, a3, a4, t1.at fun o => hk _ o D.l1z D.l1i1 D.l1i2, t2.at fun o => hk _ o D.l2z D.l2i1 D.l2i2, .inr ⟨T, true, oT, a1, hk _ _ r1 r2 r3 hT, r1, r2, r3, r4⟩⟩ fun d o hd e => ?_
      simp only [List.mem_cons, List.not_mem_nil, or_false, not_or] at hd
      exact hk d o hd.1 hd.2.2.1 hd.2.2.2 e
  · obtain ⟨p, g1, g2, t1, t2, c⟩ := st
    rcases c with ⟨c, a, b, c2⟩ | ⟨T, f, oT, c, hT, r1, r2, r3, r4⟩
    · exact pyNext_zipT_end hh D c p c2 g1 g2 t1 t2 min_end fun h' hk => q h' fun d o hd e => by
        simp only [List.mem_cons, List.not_mem_nil, or_false, not_or] at hd
        exact hk d o hd.1 hd.2.1 hd.2.2.1 hd.2.2.2 e
    · exact endT hh D c hT p g1 g2 t1 t2 min_end fun h' hk => q h' fun d o hd e => by
        simp only [List.mem_cons, List.not_mem_nil, or_false, not_or] at hd
        exact hk d o hd.1 hd.2.2.1 hd.2.2.2 e
/-- the pairs that were laid -/
structure ZG (n : Nat) (Pv : Nat → Value → Value → Prop) (lo : Addr) (h : Heap) (as : List Addr) : Prop where
  rise : as.Pairwise (· < ·)
  above : ∀ a ∈ as, lo ≤ a
  pairs : ∀ (j : Nat) (a : Addr), as[j]? = some a → ∃ x y, Pv j x y ∧ IsPair h a x y
theorem ZG.lt {n : Nat} {Pv : Nat → Value → Value → Prop} {lo : Addr} {h : Heap} {as : List Addr} (g : ZG n Pv lo h as) {a : Addr} (ha : a ∈ as) : a < h.objs.size := by
  obtain ⟨j, hj⟩ := List.mem_iff_getElem?.mp ha
  obtain ⟨_, _, _, e⟩ := g.pairs j a hj
  exact Heap.lt_size e
theorem zloop {A : Around} {s : Shared} {R : Result → Shared → Prop} {zz S : Addr} {fp : List Addr} {n : Nat} {Pv : Nat → Value → Value → Prop} {St : Nat → Heap → Prop} (Z : ZSrc prog w zz S fp n Pv St) (hh : A.handled = none) (hn : n ≤ sizeLine) (res : Value) {h1 : Heap} {lo : Addr} (hSl : S < lo) (hfp : ∀ b ∈ fp, b < lo)
    (hR : ∀ h' acc c as, (∀ b o, b ≠ S → b ∉ fp → h1.get? b = some o → h'.get? b = some o) → h'.get? S = some { cls := .type "list", dict := none, data := .seq acc c, slots := #[] } → as.length = n → ZG n Pv lo h' as → acc.toList = as.map Value.ref → R (.ok (.ret res)) { s with heap := h' }) :
    ∀ (k i : Nat) (h : Heap) (c : Nat) (acc : Array Value) (as : List Addr), n - i = k → i ≤ n → St i h → (∀ b o, b ≠ S → b ∉ fp → h1.get? b = some o → h.get? b = some o) →
      h.get? S = some { cls := .type "list", dict := none, data := .seq acc c, slots := #[] } → acc.toList = as.map Value.ref → as.length = i → ZG n Pv lo h as → lo ≤ h.objs.size →
      codeAny (model prog w) A (.builtin "list.extend.loop" ⟨[.ref S, .ref zz, res], []⟩) R { s with heap := h } := by
  intro k
  induction k with
  | zero =>
    intro i h c acc as hk hi hst hkeep hS hacc hal hG hlo
    have hin : i = n := by omega
    subst hin
    refine codeAny_builtin PySem.F.entry_extend_loop ?_
    rw [Around.under_plainId PySem.F.plain_extend_loop _]; show wpAny _ A.in1 (pyNext (.ref zz) >>= _) _ _ _
    refine wpAny_bind (Z.done A.in1 { s with heap := h } _ _ hh hst fun h' hk' => ?_)
    refine wpAny_pure (hR h' acc c as (fun b o b1 b2 e => hk' b o b2 (hkeep b o b1 b2 e)) (hk' S _ Z.off hS) hal ⟨hG.rise, hG.above, fun j a hj => ?_⟩ hacc)
    obtain ⟨x, y, pv, e3⟩ := hG.pairs j a hj
    exact ⟨x, y, pv, hk' a _ (fun m => absurd (hfp a m) (Nat.not_lt.mpr (hG.above a (List.mem_of_getElem? hj)))) e3⟩
  | succ k ih =>
    intro i h c acc as hk hi hst hkeep hS hacc hal hG hlo
    have hlt : i < n := by omega
    have hsz : acc.size = i := by rw [← Array.length_toList, hacc, List.length_map, hal]
    have hSz : S < h.objs.size := Heap.lt_size hS
    refine codeAny_builtin PySem.F.entry_extend_loop ?_
    rw [Around.under_plainId PySem.F.plain_extend_loop _]; show wpAny _ A.in1 (pyNext (.ref zz) >>= _) _ _ _
    refine wpAny_bind (Z.item A.in1 { s with heap := h } i _ _ hlt hst hSz fun x y h' pv ht hz hst' hkp => ?_)
    dsimp only at ht hz hkp ⊢
    have hS' := hkp S _ Z.off hS
    have up : ∀ b o, b ≠ S → h'.get? b = some o → (h'.update S (Obj.mapSeq (·.push (Value.ref h.objs.size)))).get? b = some o := fun b o hb e => (Heap.get?_update_other _ _ (Ne.symm hb)).trans e
    have nS : h.objs.size ≠ S := Nat.ne_of_gt hSz
    show wpAny _ A.in1 (updateSeq S (·.push (Value.ref h.objs.size)) >>= _) _ _ _; refine wpAny_bind ?_
    refine wpAny_updateSeq hS' rfl (wpAny_pure ⟨plainId_quiet PySem.F.plain_extend_loop _, ih (i + 1) _ _ (acc.push (Value.ref h.objs.size)) (as ++ [h.objs.size]) (by omega) hlt (Z.frame _ _ _ hst' up)
      (fun b o b1 b2 e => up b o b1 (hkp b o b2 (hkeep b o b1 b2 e))) (Heap.get?_update_self _ hS' rfl) (by rw [Array.toList_push, hacc, List.map_append]; rfl) (by rw [List.length_append, hal]; rfl) ⟨?_, ?_, ?_⟩ ?_⟩) (by rw [hsz]; omega) (by show (acc.push (Value.ref h.objs.size)).size ≤ sizeLine + 1; rw [Array.size_push, hsz]; omega)
    · refine List.pairwise_append.mpr ⟨hG.rise, List.pairwise_singleton _ _, fun a ha b hb => ?_⟩
      rw [List.mem_singleton.mp hb]; exact hG.lt ha
    · intro a ha
      rcases List.mem_append.mp ha with ha | ha
      · exact hG.above a ha
      · rw [List.mem_singleton.mp ha]; exact hlo
    · intro j b hj
      rcases Nat.lt_trichotomy j as.length with q1 | q1 | q1
      · rw [List.getElem?_append_left q1] at hj
        obtain ⟨x', y', pv', e3⟩ := hG.pairs j b hj
        have hb := hG.above b (List.mem_of_getElem? hj)
        exact ⟨x', y', pv', up b _ (fun z => by rw [z] at hb; exact absurd hSl (Nat.not_lt.mpr hb)) (hkp b _ (fun m => absurd (hfp b m) (Nat.not_lt.mpr hb)) e3)⟩
      · subst q1
        have hb : h.objs.size = b := by simpa using hj
        subst hb
        exact ⟨x, y, by rw [hal]; exact pv, up _ _ nS ht⟩
      · rw [List.getElem?_eq_none (by rw [List.length_append, List.length_singleton]; omega)] at hj; cases hj
    · have e : (h'.update S (Obj.mapSeq (·.push (Value.ref h.objs.size)))).get? h.objs.size = _ := up _ _ nS ht
      exact Nat.le_trans hlo (Nat.le_of_lt (Heap.lt_size e))
theorem zip_nolen : typeLookup (.type "zip") "__len__" = pure none := am_miss_of_fast (by decide +kernel)
theorem zip_nohint : typeLookup (.type "zip") "__length_hint__" = pure none := am_miss_of_fast (by decide +kernel)
theorem zhint {A : Around} {E : Value → Shared → Prop} {s : Shared} {zz : Addr} {Q : Bool → Shared → Prop} (ty : s.TypeIs (.ref zz) "zip") (h : Q true s) : wpAny (model prog w) A (Builtin.List.listLengthHint (.ref zz)) Q E s := by
  unfold Builtin.List.listLengthHint
  refine wpAny_bind (wpAny_specialOf ty zip_nolen ?_)
  refine PySem.W.KFB.if_not rfl ?_
  refine PySem.W.KFB.if_not rfl ?_
  refine wpAny_bind (wpAny_specialOf ty zip_nohint ?_)
  exact wpAny_pure h
theorem zextend {A : Around} {s : Shared} {R : Result → Shared → Prop} {zz S : Addr} {fp : List Addr} {n : Nat} {Pv : Nat → Value → Value → Prop} {St : Nat → Heap → Prop} (Z : ZSrc prog w zz S fp n Pv St) (hh : A.handled = none) (hn : n ≤ sizeLine) (res : Value) {lo : Addr} (hSl : S < lo) (hfp : ∀ b ∈ fp, b < lo) (hz : zz ∈ fp)
    {TI TO : Addr} {f0 : Value} (hZ : IsZip s.heap zz TI TO f0) (st : St 0 s.heap) (c0 : Nat) (hS : s.heap.get? S = some { cls := .type "list", data := .seq #[] c0 }) (hlo : lo ≤ s.heap.objs.size)
    (hR : ∀ h' acc c as, (∀ b o, b ≠ S → b ∉ fp → s.heap.get? b = some o → h'.get? b = some o) → h'.get? S = some { cls := .type "list", dict := none, data := .seq acc c, slots := #[] } → as.length = n → ZG n Pv lo h' as → acc.toList = as.map Value.ref → R (.ok (.ret res)) { s with heap := h' }) :
    wpAny (model prog w) A.in1 (Builtin.List.listExtendWith (.ref S) (.ref zz) res)
      (fun fin s' => match fin with | .done f => R (.ok f) s' | .again c' => c'.quiet = true ∧ codeAny (model prog w) A c' R s') (fun e s' => R (.error e) s') s := by
  have ty : s.TypeIs (.ref zz) "zip" := ⟨_, hZ, rfl⟩
  have ne : S ≠ zz := fun e => Z.off (by rw [e]; exact hz)
  unfold Builtin.List.listExtendWith
  refine wpAny_bind (wpAny_typeOf (T := "zip") ty ?_)
  have q1 : Builtin.List.listSameRef (.ref S) (.ref zz) = false := by simp [Builtin.List.listSameRef, ne]
  have q2 : (Value.type "zip" == Value.type "list") = false := by decide
  have q3 : (Value.type "zip" == Value.type "tuple") = false := by decide
  simp only [q1, q2, q3, Bool.or_false, Bool.false_eq_true, if_false]
  refine wpAny_bind (wpAny_pyIter_zip hZ ?_)
  refine wpAny_bind (wpAny_holding (zhint ty ?_))
  refine wpAny_ite_split (fun _ => ?_) (fun hf => absurd rfl hf)
  refine wpAny_bind (wpAny_rule ?_); refine wpAny_bind ?_
  show wpAny _ _ (updateSeq S (·.push .none) >>= fun _ => updateSeq S (·.pop)) _ _ _; refine wpAny_bind (wpAny_updateSeq hS rfl ?_)
  have hS2 := Heap.get?_update_self (Obj.mapSeq (·.push Value.none)) hS rfl
  refine wpAny_updateSeq (hz := by seq_fits) hS2 rfl ?_
  have hS3 := Heap.get?_update_self (Obj.mapSeq (·.pop)) hS2 rfl
  have up : ∀ b o, b ≠ S → s.heap.get? b = some o → ((s.heap.update S (Obj.mapSeq (·.push Value.none))).update S (Obj.mapSeq (·.pop))).get? b = some o := fun b o hb e =>
    (Heap.get?_update_other _ _ (Ne.symm hb)).trans ((Heap.get?_update_other _ _ (Ne.symm hb)).trans e)
  refine wpAny_pure ⟨plainId_quiet PySem.F.plain_extend_loop _, ?_⟩
  exact zloop (s := { s with heap := _ }) Z hh hn res (h1 := s.heap) hSl hfp (fun h' acc c as k1 k2 k3 k4 k5 => hR h' acc c as k1 k2 k3 k4 k5) n 0 _ _ #[] [] (Nat.sub_zero _) (Nat.zero_le _) (Z.frame _ _ _ st up) (fun b o b1 _ e => up b o b1 e) hS3 rfl rfl
    ⟨List.Pairwise.nil, (fun _ ha => nomatch ha), (fun j a hj => by simp at hj)⟩ (by rw [Heap.size_update, Heap.size_update]; exact hlo)
theorem zcall {A : Around} {E : Value → Shared → Prop} {s : Shared} {zz : Addr} {fp : List Addr} {n : Nat} {Pv : Nat → Value → Value → Prop} {St : Nat → Heap → Prop} {Q : Value → Shared → Prop} (Z : ZSrc prog w zz s.heap.objs.size fp n Pv St) (hh : A.handled = none) (hn : n ≤ sizeLine) (hfp : ∀ b ∈ fp, b < s.heap.objs.size) (hz : zz ∈ fp)
    {TI TO : Addr} {f0 : Value} (hZ : IsZip s.heap zz TI TO f0) (st : ∀ h', (∀ b o, s.heap.get? b = some o → h'.get? b = some o) → St 0 h')
    (hQ : ∀ h' acc c as, (∀ b o, b ∉ fp → s.heap.get? b = some o → h'.get? b = some o) → h'.get? s.heap.objs.size = some { cls := .type "list", dict := none, data := .seq acc c, slots := #[] } → as.length = n → ZG n Pv (s.heap.objs.size + 1) h' as → acc.toList = as.map Value.ref → Q (.ref s.heap.objs.size) { s with heap := h' }) :
    wpAny (model prog w) A (call (.type "list") [.ref zz]) Q E s := by
  refine callType_codes (Q₁ := fun obj s₁ => obj = .ref s.heap.objs.size ∧ s₁ = { s with heap := s.heap.push { cls := .type "list", data := .seq #[] } }) PySem.F.called_list (PySem.F.typeCall_list_1 _) PySem.F.entry_list_init (code_list_new _ ⟨rfl, rfl⟩) fun obj s₁ g => ?_
  obtain ⟨rfl, rfl⟩ := g
  have hS : (s.heap.push { cls := .type "list", data := .seq #[] }).get? s.heap.objs.size = some { cls := .type "list", data := .seq #[] } := Heap.get?_push_size _ rfl
  have lS : ∀ b o, s.heap.get? b = some o → b ≠ s.heap.objs.size := fun b o e => Nat.ne_of_lt (Heap.lt_size e)
  refine ⟨⟨_, hS, rfl⟩, PySem.F.args_list_init_2 _ _, ?_⟩
  show wpAny _ _ (do let old ← Builtin.List.listItems (.ref s.heap.objs.size); Builtin.List.listUpdate (.ref s.heap.objs.size) (fun _ => #[]); letGo old.toList.reverse; Builtin.List.listExtendWith (.ref s.heap.objs.size) (.ref zz) .none) _ _ _; refine wpAny_bind ?_
  unfold Builtin.List.listItems
  refine wpAny_bind (wpAny_seqItems hS rfl (wpAny_pure ?_))
  show wpAny _ _ (updateSeq s.heap.objs.size (fun _ => #[]) >>= fun _ => letGo (#[] : Array Value).toList.reverse >>= fun _ => Builtin.List.listExtendWith (.ref s.heap.objs.size) (.ref zz) .none) _ _ _; refine wpAny_bind (wpAny_updateSeq hS rfl ?_)
  have hS2 := Heap.get?_update_self (Obj.mapSeq (fun _ => (#[] : Array Value))) hS rfl
  have up : ∀ b o, s.heap.get? b = some o → ((s.heap.push { cls := .type "list", data := .seq #[] }).update s.heap.objs.size (Obj.mapSeq (fun _ => (#[] : Array Value)))).get? b = some o :=
    fun b o e => (Heap.get?_update_other _ _ (lS b o e).symm).trans (Heap.get?_push_of_some _ e)
  refine wpAny_bind (wpAny_letGo ?_)
  refine zextend (A := A.in1) (s := { s with heap := (s.heap.push { cls := .type "list", data := .seq #[] }).update s.heap.objs.size (Obj.mapSeq (fun _ => (#[] : Array Value))) }) (lo := s.heap.objs.size + 1) Z hh hn .none (Nat.lt_succ_self _) (fun b hb => Nat.lt_succ_of_lt (hfp b hb)) hz (up _ _ hZ) (st _ up) _ hS2 (by show _ ≤ (Heap.update _ _ _).objs.size; rw [Heap.size_update, Heap.size_push]; exact Nat.le_refl _) fun h' acc c as k1 k2 k3 k4 k5 => ?_
  exact ⟨rfl, hQ h' acc c as (fun b o b1 e => k1 b o (lS b o e) b1 (up b o e)) k2 k3 k4 k5⟩
end
end PxZ
namespace Px
open PySem L2 PySem.Spec PyProof.Rows RZ PxZ
/-- many new objects tracked at once -/
theorem inv_more {X : Cx} {pins : List (Addr × Obj)} {σ : L2.St} {H H' : Hp} {s : Shared} {h' : Heap} {t' : Nat} (I : Inv X pins σ H s) (k : ∀ b u, s.heap.get? b = some u → h'.get? b = some u) (sm : ∀ b o, H b = some o → H' b = some o)
    (fr : ∀ b o, H b = none → H' b = some o → s.heap.objs.size ≤ b) (new : ∀ b o, H b = none → H' b = some o → ObjOk X.prog X.w H' h' b o) : Inv X pins σ H' { s with heap := h', toks := t' } := by
  refine I.un ⟨fun b u q _ _ _ => k b u q, fun b u q _ _ _ => ⟨u.slots, k b u q⟩, fun b u q n _ => ?_, fun b u q _ => ⟨u, k b u q⟩, fun b xs q => sm b _ q, fun b u xs q => sm b _ q, fun b ps q => ⟨#[], by rw [sm b _ q]; simp⟩⟩ fun b o e => ?_
  · cases e : H' b with
    | none => rfl
    | some o => exact absurd (fr b o n e) (Nat.not_le.mpr (Heap.lt_size q))
  · cases e2 : H b with
    | none => exact new b o e2 e
    | some u =>
      have e3 := sm b u e2
      rw [e] at e3; cases e3
      exact (I.hok b o e2).stay (fun c v _ q => k c v q) (fun c q => sm c _ q) fun c xs q => sm c _ q
/-- list(zip(xs, ys)) -/
def rLZ (K : PySem.W.Frag) (vs : List V) (H : Hp) (Q : VK) : Prop := ∃ a b xs ys, vs = [.ref a, .ref b] ∧ ((SqL K H a xs ∧ SqL K H b ys) ∨ (SqT K H a xs ∧ SqT K H b ys)) ∧
  ∀ (H' : Hp) (p : Addr) (as : List Addr), Same H H' → H p = none → H' p = some (.lst (as.map V.ref)) → as.length = min xs.length ys.length → (∀ (j : Nat) (c : Addr), as[j]? = some c → ∃ x y, xs[j]? = some x ∧ ys[j]? = some y ∧ H' c = some (.tup [x, y])) → Q (.ref p) H'
def tLZ (K : PySem.W.Frag) (ta : TA) : TE := fun σ H Q => ta σ H fun vs H1 => rLZ K vs H1 Q
theorem vals_get {xs : List V} {us : List Value} (h : Vals xs us) : ∀ {j : Nat} {u : Value}, us[j]? = some u → ∃ x, xs[j]? = some x ∧ RelV x u := by
  induction h with
  | nil => intro j u e; simp at e
  | cons r _ ih =>
    intro j u e
    cases j with
    | zero => simp at e; subst e; exact ⟨_, rfl, r⟩
    | succ j => simpa using ih (by simpa using e)
theorem lz_end {X : Cx} {pins : List (Addr × Obj)} {σ : L2.St} {H : Hp} {s : Shared} {xs ys : List V} {its its2 : List Value} {h' : Heap} {acc : Array Value} {c : Nat} {as : List Addr} {S lo : Addr} {Q : VK} (I : Inv X pins σ H s) (rv : Vals xs its) (rv2 : Vals ys its2) (zx : xs.length ≤ sizeLine)
    (k : ∀ b u, s.heap.get? b = some u → h'.get? b = some u) (hS : h'.get? S = some { cls := .type "list", dict := none, data := .seq acc c, slots := #[] }) (sS : s.heap.objs.size ≤ S) (sl : S < lo)
    (hl : as.length = min its.toArray.size its2.toArray.size) (g : ZG (min its.toArray.size its2.toArray.size) (fun i k v => its.toArray[i]? = some k ∧ its2.toArray[i]? = some v) lo h' as) (ea : acc.toList = as.map Value.ref)
    (q : ∀ (H' : Hp) (p : Addr) (as : List Addr), Same H H' → H p = none → H' p = some (.lst (as.map V.ref)) → as.length = min xs.length ys.length → (∀ (j : Nat) (c : Addr), as[j]? = some c → ∃ x y, xs[j]? = some x ∧ ys[j]? = some y ∧ H' c = some (.tup [x, y])) → Q (.ref p) H') :
    ∃ v H', Inv X pins σ H' { s with heap := h' } ∧ RelV v (.ref S) ∧ Q v H' := by
  have pr : ∀ (j : Nat) (c : Addr), as[j]? = some c → ∃ x y u v, xs[j]? = some x ∧ ys[j]? = some y ∧ RelV x u ∧ RelV y v ∧ IsPair h' c u v := fun j c e => by
    obtain ⟨u, v, ⟨e1, e2⟩, e3⟩ := g.pairs j c e
    obtain ⟨x, e4, r4⟩ := vals_get rv (j := j) (u := u) (by simpa using e1)
    obtain ⟨y, e5, r5⟩ := vals_get rv2 (j := j) (u := v) (by simpa using e2)
    exact ⟨x, y, u, v, e4, e5, r4, r5, e3⟩
  have nd : as.Nodup := g.rise.imp fun h => Nat.ne_of_lt h
  let H' : Hp := fun d => if d = S then some (.lst (as.map V.ref)) else match as.idxOf? d with
    | some j => match xs[j]?, ys[j]? with
      | some x, some y => some (.tup [x, y])
      | _, _ => H d
    | none => H d
  have hS' : H' S = some (.lst (as.map V.ref)) := if_pos rfl
  have ix : ∀ (j : Nat) (c : Addr), as[j]? = some c → as.idxOf? c = some j := fun j c e => by
    rw [List.idxOf?, List.findIdx?_eq_some_iff_getElem]
    obtain ⟨l, e1⟩ := List.getElem?_eq_some_iff.mp e
    refine ⟨l, by simp [e1], fun i hi => ?_⟩
    have := (List.pairwise_iff_getElem.mp g.rise) i j (by omega) l hi
    rw [e1] at this
    simpa using Nat.ne_of_lt this
  have hc : ∀ (j : Nat) (c : Addr) (x y : V), as[j]? = some c → xs[j]? = some x → ys[j]? = some y → H' c = some (.tup [x, y]) := fun j c x y e e1 e2 => by
    have ne : c ≠ S := fun z => by have := g.above c (List.mem_of_getElem? e); rw [z] at this; exact absurd sl (Nat.not_lt.mpr this)
    show (if c = S then _ else _) = _
    rw [if_neg ne, ix j c e]
    simp only [e1, e2]
  have old : ∀ d, d ≠ S → d ∉ as → H' d = H d := fun d n m => by
    show (if d = S then _ else _) = _
    rw [if_neg n]
    have : as.idxOf? d = none := by
      rw [List.idxOf?, List.findIdx?_eq_none_iff]
      intro x hx
      simpa using fun z => m (by rw [← z]; exact hx)
    rw [this]
  have big : ∀ d, d = S ∨ d ∈ as → s.heap.objs.size ≤ d := fun d h => by
    rcases h with rfl | h
    · exact sS
    · exact Nat.le_trans sS (Nat.le_trans (Nat.le_of_lt sl) (g.above d h))
  have fresh : ∀ d, d = S ∨ d ∈ as → H d = none := fun d h => I.hok.fresh (big d h)
  have sm : Same H H' := fun d o e => by
    have n1 : d ≠ S := fun z => by rw [fresh d (.inl z)] at e; cases e
    have n2 : d ∉ as := fun z => by rw [fresh d (.inr z)] at e; cases e
    rw [old d n1 n2]; exact e
  have hal : as.length = min xs.length ys.length := by rw [hl, List.size_toArray, List.size_toArray, ← rv.length, ← rv2.length]
  refine ⟨.ref S, H', inv_more (t' := s.toks) I k sm (fun d o n e => ?_) fun d o n e => ?_, rfl, q H' S as sm (fresh S (.inl rfl)) hS' hal fun j c e => ?_⟩
  · refine big d (Classical.byContradiction fun z => ?_)
    rw [old d (fun y => z (.inl y)) fun y => z (.inr y), n] at e
    cases e
  · by_cases e1 : d = S
    · subst e1
      rw [hS'] at e; cases e
      refine ⟨by rw [List.length_map, hal]; omega, acc.toList, c, ?_, by rw [Array.toArray_toList]; exact hS⟩
      rw [ea]
      clear hl ea g pr hal nd ix hc old big fresh sm hS' n
      induction as with
      | nil => exact .nil
      | cons d as ih => exact .cons rfl ih
    · by_cases e2 : d ∈ as
      · obtain ⟨j, ej⟩ := List.mem_iff_getElem?.mp e2
        obtain ⟨x, y, u, v, ex, ey, rx, ry, e3⟩ := pr j d ej
        rw [hc j d x y ej ex ey] at e; cases e
        exact ⟨by show 2 ≤ sizeLine; rw [sizeLine_eq]; decide, [u, v], .cons rx (.cons ry .nil), _, e3, rfl, _, rfl⟩
      · rw [old d e1 e2, n] at e; cases e
  · obtain ⟨x, y, u, v, ex, ey, _⟩ := pr j c e
    exact ⟨x, y, ex, ey, hc j c x y e ex ey⟩
section
variable {X : Cx} {e e2 : Expr} {ta : TA} {p p2 q pos : Pos}
theorem pe_lz (hg : Gl X "list") (hm : X.mg "list" = none) (hg2 : Gl X "zip") (hm2 : X.mg "zip" = none) (ha : PA X [e, e2] ta) (hc : X.calm = true := by rfl)
    (na : starEach [.Call (.Name "zip" p2) [e, e2] [] q] X.env = (false, eval (.Call (.Name "zip" p2) [e, e2] [] q) X.env) :: starEach [] X.env := by rfl)
    (hs : starEach [e, e2] X.env = (false, eval e X.env) :: starEach [e2] X.env := by rfl) (hpl : (backTo q (starEach [e2] X.env)).any (·.1) = false := by rfl) :
    PE X (.Call (.Name "list" p) [.Call (.Name "zip" p2) [e, e2] [] q] [] pos) (tLZ X.K ta) := by
  refine ⟨fun pins s σ H Q I h => ?_⟩
  refine Call_ (ld_blt I hg hm PyProof.Rows.boot_list ?_)
  refine PyProof.Rows.callWith_type1 (PyProof.Rows.args_cons ?_ na) na rfl
  refine Call_ (ld_blt I hg2 hm2 PyProof.Rows.boot_zip (PyProof.Rows.callWith_type1 (thn (ha.run q pins s σ H _ I h) fun us s1 ⟨vs, H1, I1, r1, q1⟩ => ?_) hs hpl))
  obtain ⟨a, b, xs, ys, rfl, hq, qq⟩ := q1
  cases r1 with
  | cons r rr =>
    cases rr with
    | cons r' rr =>
      cases rr
      cases r
      cases r'
      have fpn : ∀ (n : Nat), ∀ c ∈ [n + 4, n + 3, n, n + 1], n ≤ c ∧ c < n + 5 := fun n c hc => by
        simp only [List.mem_cons, List.not_mem_nil, or_false] at hc
        rcases hc with rfl | rfl | rfl | rfl <;> omega
      have five : ∀ (n m : Nat), m = n + 5 → ∀ l1 l2 : Nat, l1 < n → l2 < n → m ≠ n + 4 ∧ m ≠ n + 2 ∧ m ≠ n + 3 ∧ m ≠ n ∧ m ≠ n + 1 ∧ m ≠ l1 ∧ m ≠ l2 := fun n m e l1 l2 h1 h2 => by omega
      rcases hq with ⟨hqx, hqy⟩ | ⟨hqx, hqy⟩
      · obtain ⟨its, rv, p1, zx⟩ := I1.list hqx
        obtain ⟨its2, rv2, p2, _⟩ := I1.list hqy
        have la : a < s1.heap.objs.size := p1.lt
        have lb : b < s1.heap.objs.size := p2.lt
        refine call_zip_2 p1.isList p2.isList fun h' hz hTI hTO h1 h2 hsz hk => PyProof.Rows.args_nil ?_
        have D := PySem.W.ktu_apart s1.heap.objs.size a b la lb
        refine zcall (s := { s1 with heap := h' }) (zsrcL D its.toArray its2.toArray (five _ _ hsz _ _ la lb)) (I1.ok.hd hc) (Nat.le_trans (Nat.min_le_left _ _) (by rw [List.size_toArray, ← rv.length]; exact zx)) (fun c hc => by show c < h'.objs.size; rw [hsz]; exact (fpn _ c hc).2) List.mem_cons_self hz
          (fun h2' k => ⟨k _ _ hTI, h1.at fun o => k _ o, h2.at fun o => k _ o, (p1.isList.at fun o e => hk _ o e).at fun o => k _ o, (p2.isList.at fun o e => hk _ o e).at fun o => k _ o, .inl ⟨k _ _ hz, _, _, k _ _ hTO⟩⟩) fun h2' acc c as k1 k2 k3 k4 k5 => ?_
        exact lz_end (s := s1) I1 rv rv2 zx (fun d o e => k1 d o (fun m => absurd (Heap.lt_size e) (Nat.not_lt.mpr (fpn _ d m).1)) (hk d o e)) k2 (by show _ ≤ h'.objs.size; rw [hsz]; exact Nat.le_add_right _ _) (Nat.lt_succ_self _) k3 k4 k5 qq
      · obtain ⟨its, rv, p1, zx⟩ := I1.tuple hqx
        obtain ⟨its2, rv2, p2, _⟩ := I1.tuple hqy
        have p1' : s1.heap.IsTuple a its.toArray := p1
        have p2' : s1.heap.IsTuple b its2.toArray := p2
        have la : a < s1.heap.objs.size := p1.lt
        have lb : b < s1.heap.objs.size := p2.lt
        refine call_zipT p1' p2' fun h' hz hTI hTO h1 h2 hsz hk => PyProof.Rows.args_nil ?_
        have D := PySem.W.ktu_apart s1.heap.objs.size a b la lb
        refine zcall (s := { s1 with heap := h' }) (zsrcT D its.toArray its2.toArray (five _ _ hsz _ _ la lb)) (I1.ok.hd hc) (Nat.le_trans (Nat.min_le_left _ _) (by rw [List.size_toArray, ← rv.length]; exact zx)) (fun c hc => by show c < h'.objs.size; rw [hsz]; exact (fpn _ c hc).2) List.mem_cons_self hz
          (fun h2' k => ⟨k _ _ hTI, h1.at fun o => k _ o, h2.at fun o => k _ o, (p1'.at fun o e => hk _ o e).at fun o => k _ o, (p2'.at fun o e => hk _ o e).at fun o => k _ o, .inl ⟨k _ _ hz, _, _, k _ _ hTO⟩⟩) fun h2' acc c as k1 k2 k3 k4 k5 => ?_
        exact lz_end (s := s1) I1 rv rv2 zx (fun d o e => k1 d o (fun m => absurd (Heap.lt_size e) (Nat.not_lt.mpr (fpn _ d m).1)) (hk d o e)) k2 (by show _ ≤ h'.objs.size; rw [hsz]; exact Nat.le_add_right _ _) (Nat.lt_succ_self _) k3 k4 k5 qq
end
end Px
namespace Px
open PySem L2 PySem.Spec PyProof.Rows
section
variable {X : Cx} {a b c e o : Expr} {es : List Expr} {ta tb tc te : QT} {tr : QTA} {pos p p2 q apos cpos : Pos}
/-! ### d.get -/
def isDic : Option PV → Prop
  | some (.dic _ _) => True
  | _ => False
def qGet1 (td ty : QT) (ρ : En) (Q : PK1) : Prop := td ρ fun r ρ1 => isDic (r.look ρ1) ∧ ty ρ1 fun r2 ρ2 => match r.look ρ2, r2.wk with
  | some (.dic ks ps), .pv k => match keyP k with
    | some j => match getD ks ps j with
      | some z => Q (.pv z) ρ2
      | none => Q (.pv .non) ρ2
    | none => False
  | _, _ => False
def qGet2 (td ty tx : QT) (ρ : En) (Q : PK1) : Prop := td ρ fun r ρ1 => isDic (r.look ρ1) ∧ ty ρ1 fun r2 ρ2 => tx ρ2 fun r3 ρ3 => match r.look ρ3, r2.wk with
  | some (.dic ks ps), .pv k => match keyP k with
    | some j => match getD ks ps j with
      | some z => Q (.pv z) ρ3
      | none => Q r3.wk ρ3
    | none => False
  | _, _ => False
theorem isDic_rd {K : PySem.W.Frag} {G : Gd} {H : Hp} {σ : L2.St} {ρ : En} {pd : Pds} {r : R} {v : V} (s : Res K G H σ ρ pd r v) (h : isDic (r.look ρ)) : ∃ a, v = .ref a ∧ IsD H a := by
  unfold isDic at h
  split at h
  · rename_i ks ps e
    obtain ⟨a, vs, e1, r, _⟩ := s.lk e
    exact ⟨a, e1, .inl ⟨_, r⟩⟩
  · exact h.elim
theorem get_at {K : PySem.W.Frag} {H : Hp} {W : Addr → Prop} {ks : List Key} {ps : List PV} {a : Addr} {k : PV} {kv : V} {j : Key} (l : Lk K H W (.dic ks ps) (.ref a)) (hk : Is K H W k kv) (e : keyP k = some j) :
    ∃ o, DGet H a kv o ∧ (∀ z, getD ks ps j = some z → ∃ v, o = some v ∧ Is K H W z v) ∧ (getD ks ps j = none → o = none) := by
  obtain ⟨b, vs, e1, r, le, ok, i⟩ := l
  cases e1
  obtain ⟨e2, _⟩ := keyP_is hk e
  refine ⟨valV (ks.zip vs) j, .inl ⟨_, j, r, e2, rfl⟩, fun z hz => ?_, fun hz => ?_⟩
  · rw [getD_val le]; exact getD_is i hz
  · rw [getD_val le]; exact getD_no i hz
theorem qe_get1 (hu : X.A.units + 65 < cLine) (ho : QE X o ta) (he : QE X e tb) (m : M1 X o "get" apos e cpos := by exact ⟨rfl, rfl, rfl, rfl⟩) : QE X (.Call (.Attribute o "get" apos) [e] [] cpos) (qGet1 ta tb) := by
  obtain ⟨t1, p1, q1⟩ := ho.ex
  obtain ⟨t2, p2, q2⟩ := he.ex
  refine ⟨_, pe_dget1 (by omega) p1 p2 m, fun G H σ ρ pd Q F R1 h f => ?_⟩
  refine q1 G H σ ρ pd _ _ R1 h fun r ρ1 v H1 s ⟨hd, g⟩ => ?_
  obtain ⟨x, rfl, dd⟩ := isDic_rd s hd
  refine ⟨x, rfl, dd, ?_⟩
  obtain ⟨pd1, sb, R2, a1⟩ := s.arg
  refine q2 G H1 σ ρ1 pd1 _ _ R2 g fun r2 ρ2 kv H2 s2 g2 => ?_
  obtain ⟨pd2, sb2, R3, a2⟩ := s2.arg
  split at g2
  · rename_i ks ps k e1 e2
    rw [e2] at a2
    have hk : Is X.K H2 (WS G σ ρ2) k kv := R3.pd _ a2
    cases ek : keyP k with
    | none => rw [ek] at g2; exact g2.elim
    | some j =>
      rw [ek] at g2
      dsimp only at g2
      obtain ⟨ov, dg, h1, h2⟩ := get_at ((a1.mono sb2).lk R3 (by rw [look_wk]; exact e1)) hk ek
      refine ⟨ov, dg, ?_⟩
      have R4 := R3.pds fun y hy => sb2 y (sb y hy)
      cases ez : getD ks ps j with
      | none =>
        rw [ez] at g2
        rw [h2 ez]
        exact f (.pv .non) ρ2 _ H2 (R4.push rfl) g2
      | some z =>
        rw [ez] at g2
        obtain ⟨w, ew, iw⟩ := h1 z ez
        rw [ew]
        exact f (.pv z) ρ2 _ H2 (R4.push iw) g2
  · exact g2.elim
theorem qe_get2 (hu : X.A.units + 65 < cLine) (ho : QE X o ta) (he : QE X e tb) (hf : QE X c tc) (m : M2 X o "get" apos e c cpos := by exact ⟨rfl, rfl, rfl, rfl⟩) : QE X (.Call (.Attribute o "get" apos) [e, c] [] cpos) (qGet2 ta tb tc) := by
  obtain ⟨t1, p1, q1⟩ := ho.ex
  obtain ⟨t2, p2, q2⟩ := he.ex
  obtain ⟨t3, p3, q3⟩ := hf.ex
  refine ⟨_, pe_dget2 (by omega) p1 p2 p3 m, fun G H σ ρ pd Q F R1 h f => ?_⟩
  refine q1 G H σ ρ pd _ _ R1 h fun r ρ1 v H1 s ⟨hd, g⟩ => ?_
  obtain ⟨x, rfl, dd⟩ := isDic_rd s hd
  refine ⟨x, rfl, dd, ?_⟩
  obtain ⟨pd1, sb, R2, a1⟩ := s.arg
  refine q2 G H1 σ ρ1 pd1 _ _ R2 g fun r2 ρ2 kv H2 s2 g2 => ?_
  obtain ⟨pd2, sb2, R3, a2⟩ := s2.arg
  refine q3 G H2 σ ρ2 pd2 _ _ R3 g2 fun r3 ρ3 xv H3 s3 g3 => ?_
  obtain ⟨pd3, sb3, R4, a3⟩ := s3.arg
  split at g3
  · rename_i ks ps k e1 e2
    rw [e2] at a2
    have hk : Is X.K H3 (WS G σ ρ3) k kv := R4.pd _ (sb3 _ a2)
    cases ek : keyP k with
    | none => rw [ek] at g3; exact g3.elim
    | some j =>
      rw [ek] at g3
      dsimp only at g3
      obtain ⟨ov, dg, h1, h2⟩ := get_at ((a1.mono fun y hy => sb3 y (sb2 y hy)).lk R4 (by rw [look_wk]; exact e1)) hk ek
      refine ⟨ov, dg, ?_⟩
      cases ez : getD ks ps j with
      | none =>
        rw [ez] at g3
        rw [h2 ez]
        exact f _ ρ3 xv H3 (s3.wk.pds fun y hy => sb2 y (sb y hy)) g3
      | some z =>
        rw [ez] at g3
        obtain ⟨w, ew, iw⟩ := h1 z ez
        rw [ew]
        exact f (.pv z) ρ3 _ H3 ((R4.pds fun y hy => sb3 y (sb2 y (sb y hy))).push iw) g3
  · exact g3.elim
/-! ### list(zip(xs, ys)) -/
def zipP : List PV → List PV → List PV
  | p :: ps, q :: qs => .tup [p, q] :: zipP ps qs
  | _, _ => []
def gZip (ps : List PV) (Q : R → Prop) : Prop := match ps with
  | [.lst ps, .lst qs] => Q (.fr (.lst (zipP ps qs)))
  | [.tup ps, .tup qs] => Q (.fr (.lst (zipP ps qs)))
  | _ => False
theorem zipP_iss {K : PySem.W.Frag} {H : Hp} {W : Addr → Prop} : ∀ {ps qs : List PV} {xs ys : List V} {as : List Addr}, Iss K H W ps xs → Iss K H W qs ys → as.length = min xs.length ys.length → (∀ (j : Nat) (c : Addr), as[j]? = some c → ∃ x y, xs[j]? = some x ∧ ys[j]? = some y ∧ H c = some (.tup [x, y])) → Iss K H W (zipP ps qs) (as.map V.ref)
  | [], qs, xs, ys, as, h1, h2, hl, _ => by
    cases (show xs = [] from h1)
    have : as = [] := List.length_eq_zero_iff.mp (by simpa using hl)
    subst this
    cases qs <;> exact rfl
  | p :: ps, [], xs, ys, as, h1, h2, hl, _ => by
    cases (show ys = [] from h2)
    have : as = [] := List.length_eq_zero_iff.mp (by simpa using hl)
    subst this
    exact rfl
  | p :: ps, q :: qs, xs, ys, as, h1, h2, hl, hp => by
    obtain ⟨v, r, e1, i1, j1⟩ := h1
    obtain ⟨u, s, e2, i2, j2⟩ := h2
    subst e1 e2
    cases as with
    | nil => simp at hl
    | cons c as =>
      obtain ⟨x, y, ex, ey, ec⟩ := hp 0 c rfl
      simp only [List.getElem?_cons_zero, Option.some.injEq] at ex ey
      subst ex ey
      exact ⟨_, _, rfl, ⟨c, [v, u], rfl, ec, v, [u], rfl, i1, u, [], rfl, i2, rfl⟩, zipP_iss j1 j2 (by simp only [List.length_cons] at hl; omega) fun j d e => by
        obtain ⟨x, y, e1, e2, e3⟩ := hp (j + 1) d (by simpa using e)
        exact ⟨x, y, by simpa using e1, by simpa using e2, e3⟩⟩
def qLZ (tr : QTA) : QT := qCB gZip tr
theorem qe_lz (hm : X.mg "list" = none) (hm2 : X.mg "zip" = none) (ha : QA X [a, b] tr) (hg : Gl X "list" := by rfl) (hg2 : Gl X "zip" := by rfl) (hc : X.calm = true := by rfl)
    (na : starEach [.Call (.Name "zip" p2) [a, b] [] q] X.env = (false, eval (.Call (.Name "zip" p2) [a, b] [] q) X.env) :: starEach [] X.env := by rfl)
    (hs : starEach [a, b] X.env = (false, eval a X.env) :: starEach [b] X.env := by rfl) (hpl : (backTo q (starEach [b] X.env)).any (·.1) = false := by rfl) :
    QE X (.Call (.Name "list" p) [.Call (.Name "zip" p2) [a, b] [] q] [] pos) (qLZ tr) := by
  obtain ⟨t, p1, q1⟩ := ha.ex
  refine ⟨_, pe_lz hg hm hg2 hm2 p1 hc na hs hpl, fun G H σ ρ pd Q F R1 h f => ?_⟩
  refine q1 G H σ ρ pd _ _ R1 h fun rs ρ1 pd1 vs H1 sb R2 ar g => ?_
  cases el : looks ρ1 rs with
  | none => rw [el] at g; exact g.elim
  | some ps =>
    rw [el] at g
    have lk := ar.lks R2 el
    dsimp only at g
    have fin : ∀ {ps qs : List PV} {a b : Addr} {xs ys : List V} {H' : Hp} {p : Addr} {as : List Addr}, Iss X.K H1 (WS G σ ρ1) ps xs → Iss X.K H1 (WS G σ ρ1) qs ys → Q (.fr (.lst (zipP ps qs))) ρ1 → Same H1 H' → H1 p = none → H' p = some (.lst (as.map V.ref)) → as.length = min xs.length ys.length → (∀ (j : Nat) (c : Addr), as[j]? = some c → ∃ x y, xs[j]? = some x ∧ ys[j]? = some y ∧ H' c = some (.tup [x, y])) → F (.ref p) H' := by
      intro ps qs a b xs ys H' p as i1 i2 hq sm hn hp hl hc
      have mv : ∀ {ps : List PV} {xs : List V}, Iss X.K H1 (WS G σ ρ1) ps xs → Iss X.K H' (fun b => b = p ∨ WS G σ ρ1 b) ps xs := fun {ps xs} i =>
        Iss.move (fun b o e _ => sm b o e) R2.mut (fun b t w => by
          rcases w with w | w
          · obtain ⟨u, t⟩ := t; rw [w, hn] at t; cases t
          · exact w) ps xs i
      exact f (.fr (.lst (zipP ps qs))) ρ1 _ H' (res_of (z := .fr (.lst (zipP ps qs))) (R2.pds sb) sm ⟨p, .lst (as.map V.ref), rfl, hn, hp, zipP_iss (mv i1) (mv i2) hl hc⟩) hq
    unfold gZip at g
    split at g
    · rename_i ps qs
      obtain ⟨x, y, rfl, l1, l2⟩ := lks2 lk
      obtain ⟨a1, xs, e1, r1, i1⟩ := l1
      obtain ⟨a2, ys, e2, r2, i2⟩ := l2
      subst e1 e2
      exact ⟨a1, a2, xs, ys, rfl, .inl ⟨.inl (.inl r1), .inl (.inl r2)⟩, fun H' p as sm hn hp hl hc => fin (a := a1) (b := a2) i1 i2 g sm hn hp hl hc⟩
    · rename_i ps qs
      obtain ⟨x, y, rfl, l1, l2⟩ := lks2 lk
      obtain ⟨a1, xs, e1, r1, i1⟩ : ∃ a vs, x = .ref a ∧ H1 a = some (.tup vs) ∧ Iss X.K H1 (WS G σ ρ1) ps vs := l1
      obtain ⟨a2, ys, e2, r2, i2⟩ : ∃ a vs, y = .ref a ∧ H1 a = some (.tup vs) ∧ Iss X.K H1 (WS G σ ρ1) qs vs := l2
      subst e1 e2
      exact ⟨a1, a2, xs, ys, rfl, .inr ⟨.inl (.inl r1), .inl (.inl r2)⟩, fun H' p as sm hn hp hl hc => fin (a := a1) (b := a2) i1 i2 g sm hn hp hl hc⟩
    · exact g.elim

/-! ### {k: v, ..} -/
def qPairs : List (QT × QT) → En → (List (PV × PV) → En → Prop) → Prop
  | [], ρ, Q => Q [] ρ
  | (tk, tv) :: r, ρ, Q => tk ρ fun r1 ρ1 => match r1.wk with
    | .pv k => tv ρ1 fun r2 ρ2 => match r2.wk with
      | .pv z => qPairs r ρ2 fun ps ρ3 => Q ((k, z) :: ps) ρ3
      | _ => False
    | _ => False
def mergeP : List (PV × PV) → List Key → List PV → Option (List Key × List PV)
  | [], ks, ps => some (ks, ps)
  | (k, z) :: r, ks, ps => match keyP k with
    | some j => mergeP r (putKs ks j) (putPs ks ps j z)
    | none => none
def qDisp (prs : List (QT × QT)) (ρ : En) (Q : PK1) : Prop := qPairs prs ρ fun ps ρ1 => match mergeP ps [] [] with
  | some (ks, zs) => Q (.fr (.dic ks zs)) ρ1
  | none => False
inductive QPs (X : Cx) (pos : Pos) : List (Option Expr) → List Expr → List (QT × QT) → Prop where
  | nil : QPs X pos [] [] []
  | cons {k v : Expr} {ks : List (Option Expr)} {vs : List Expr} {tk tv : QT} {r : List (QT × QT)} (hk : QE X k tk) (hv : QE X v tv) (t : QPs X pos ks vs r) : QPs X pos (some k :: ks) (v :: vs) ((tk, tv) :: r)
theorem qps_ex {ks : List (Option Expr)} {vs : List Expr} {r : List (QT × QT)} (h : QPs X pos ks vs r) : ∃ trs : List (TE × TE), PPs X pos ks vs trs ∧ trs.length = ks.length ∧
    ∀ (G : Gd) (H : Hp) (σ : L2.St) (ρ : En) (pd : Pds) (Q : List (PV × PV) → En → Prop) (F : List (V × V) → Hp → Prop), RE X.K G H σ ρ pd → qPairs r ρ Q →
      (∀ ps ρ' pd' vs H', (∀ x ∈ pd, x ∈ pd') → RE X.K G H' σ ρ' pd' → ps.length = ks.length → vs.length = ps.length → (∀ x ∈ ps.zip vs, (x.1.1, x.2.1) ∈ pd' ∧ (x.1.2, x.2.2) ∈ pd') → Q ps ρ' → F vs H') → tPairs trs σ H F := by
  induction h with
  | nil => exact ⟨[], pps_nil, rfl, fun G H σ ρ pd Q F R1 h f => f [] ρ pd [] H (fun _ h => h) R1 rfl rfl (fun x hx => by simp at hx) h⟩
  | cons hk hv t ih =>
    obtain ⟨trs, p3, l3, q3⟩ := ih
    obtain ⟨t1, p1, q1⟩ := hk.ex
    obtain ⟨t2, p2, q2⟩ := hv.ex
    refine ⟨(t1, t2) :: trs, pps_cons p1 p2 p3, by simp [l3], fun G H σ ρ pd Q F R1 h f => ?_⟩
    refine q1 G H σ ρ pd _ _ R1 h fun r1 ρ1 kv H1 s1 g1 => ?_
    have s1' := s1.wk
    cases e1 : r1.wk with
    | sl _ => rw [e1] at g1; exact g1.elim
    | fr _ => rw [e1] at g1; exact g1.elim
    | pv k =>
      rw [e1] at g1 s1'
      have R2 : RE X.K G H1 σ ρ1 ((k, kv) :: pd) := s1'
      refine q2 G H1 σ ρ1 _ _ _ R2 g1 fun r2 ρ2 zv H2 s2 g2 => ?_
      have s2' := s2.wk
      cases e2 : r2.wk with
      | sl _ => rw [e2] at g2; exact g2.elim
      | fr _ => rw [e2] at g2; exact g2.elim
      | pv z =>
        rw [e2] at g2 s2'
        have R3 : RE X.K G H2 σ ρ2 ((z, zv) :: (k, kv) :: pd) := s2'
        refine q3 G H2 σ ρ2 _ _ _ R3 g2 fun ps ρ3 pd3 vs3 H3 sb R4 l4 l5 m4 g4 => ?_
        refine f ((k, z) :: ps) ρ3 pd3 ((kv, zv) :: vs3) H3 (fun x hx => sb x (List.mem_cons_of_mem _ (List.mem_cons_of_mem _ hx))) R4 (by simp [l4]) (by simp [l5]) (fun x hx => ?_) g4
        rcases List.mem_cons.mp hx with e | hx
        · rw [e]; exact ⟨sb _ (List.mem_cons_of_mem _ List.mem_cons_self), sb _ List.mem_cons_self⟩
        · exact m4 x hx
theorem merge_is {K : PySem.W.Frag} {H : Hp} {W : Addr → Prop} : ∀ {ps : List (PV × PV)} {vs : List (V × V)} {ks : List Key} {zs : List PV} {us : List V} {ks' : List Key} {zs' : List PV}, vs.length = ps.length → (∀ x ∈ ps.zip vs, Is K H W x.1.1 x.2.1 ∧ Is K H W x.1.2 x.2.2) → mergeP ps ks zs = some (ks', zs') → ks.length = us.length → ks.all keyOk = true → Iss K H W zs us →
    ∃ kvs : List (Key × V), vs = kvs.map (fun kv => (kV kv.1, kv.2)) ∧ ∃ us', mergeK (ks.zip us) kvs = ks'.zip us' ∧ ks'.length = us'.length ∧ ks'.all keyOk = true ∧ Iss K H W zs' us'
  | [], vs, ks, zs, us, ks', zs', hl, _, e, le, ok, i => by
    have : vs = [] := List.length_eq_zero_iff.mp hl
    subst this
    cases e
    exact ⟨[], rfl, us, rfl, le, ok, i⟩
  | (k, z) :: ps, vs, ks, zs, us, ks', zs', hl, m, e, le, ok, i => by
    cases vs with
    | nil => simp at hl
    | cons v vs =>
      obtain ⟨i1, i2⟩ := m ((k, z), v) (by simp)
      unfold mergeP at e
      cases ek : keyP k with
      | none => rw [ek] at e; cases e
      | some j =>
        rw [ek] at e
        dsimp only at e
        obtain ⟨e1, ko⟩ := keyP_is i1 ek
        obtain ⟨e2, le2⟩ := put_zip (j := j) (v := v.2) le
        obtain ⟨kvs, e3, us', e4, r⟩ := merge_is (ps := ps) (vs := vs) (by simpa using hl) (fun x hx => m x (by simp [hx])) e le2 (putKs_ok ok ko) (putPs_is i i2)
        refine ⟨(j, v.2) :: kvs, ?_, us', ?_, r⟩
        · rw [List.map_cons, ← e3]
          obtain ⟨v1, v2⟩ := v
          have : v1 = kV j := e1
          rw [this]
        · rw [← e4]
          show mergeK (putK (ks.zip us) j v.2) kvs = _
          rw [e2]
theorem qe_disp {ks : List (Option Expr)} {vs : List Expr} {r : List (QT × QT)} (h : QPs X pos ks vs r) (hall : ks.all (·.isSome) = true := by rfl) (hl : ks.length = vs.length := by rfl) (h0 : ks ≠ [] := by intro z; cases z) (h15 : ks.length ≤ 15 := by decide) : QE X (.Dict ks vs pos) (qDisp r) := by
  obtain ⟨trs, p1, l1, q1⟩ := qps_ex h
  refine ⟨_, pe_disp p1 hall hl h0 h15, fun G H σ ρ pd Q F R1 hw f => ?_⟩
  intro D hD
  have kx := R1.exk
  have kD : G.keep D = none := by
    cases q : G.keep D with
    | none => rfl
    | some u => rw [R1.keep D u q] at hD; cases hD
  have R2 := R1.add (o := .dK []) hD (same_new hD) upd_same trivial
  refine q1 (G.add D (.dK [])) _ σ ρ pd _ _ R2 hw fun ps ρ1 pd1 vs1 H1 sb R3 l3 l4 m3 g => ?_
  cases em : mergeP ps [] [] with
  | none => rw [em] at g; exact g.elim
  | some kz =>
    rw [em] at g
    obtain ⟨ks', zs'⟩ := kz
    have hD1 : H1 D = some (.dK []) := R3.keep D _ upd_same
    obtain ⟨kvs, e1, us, e2, le, ok, i⟩ := merge_is (K := X.K) (H := H1) (W := WS (G.add D (.dK [])) σ ρ1) (us := []) l4 (fun x hx => ⟨R3.pd _ (m3 x hx).1, R3.pd _ (m3 x hx).2⟩) em rfl rfl Iss.nil
    refine ⟨hD1, kvs, e1, ?_, ?_⟩
    · have : kvs.length = ps.length := by rw [← l4, e1, List.length_map]
      omega
    · have R4 := R3.readd (o' := .dK (mergeK [] kvs)) trivial
      refine f (.fr (.dic ks' zs')) ρ1 (.ref D) _ ⟨D, .dK (mergeK [] kvs), rfl, kD, kx, R4.pds sb, ?_⟩ g
      refine ⟨us, e2, le, ok, ?_⟩
      have Wa : WS (G.add D (.dK [])) σ ρ1 D := .inl (.inl rfl)
      exact Iss.move (W' := WS (G.add D (.dK (mergeK [] kvs))) σ ρ1) (fun b u e n => by
        have ne : b ≠ D := fun z => n (by rw [z]; exact Wa)
        rw [upd_ne ne]; exact e) R3.mut (fun _ _ w => w) zs' us i
end
end Px
namespace Px
open PySem L2 PySem.Spec PyProof.Rows
section
variable {X : Cx} {a b c e o : Expr} {es : List Expr} {ta tb tc te : QT} {tr : QTA} {pos p p2 q apos cpos : Pos}
/-! ### dict(d), list(d), sorted -/
def gDictC (ps : List PV) (Q : R → Prop) : Prop := match ps with
  | [.dic ks ps] => Q (.fr (.dic ks ps))
  | _ => False
theorem call_dictC : CallP X (.type "dict") gDictC := by
  refine ⟨_, call_dictD, fun H W ps xs Q F m l g f => ?_⟩
  unfold gDictC at g
  split at g
  · rename_i ks ps
    obtain ⟨x, rfl, h⟩ := lks1 l
    obtain ⟨a, vs, e, r, le, ok, i⟩ := h
    subst e
    exact ⟨a, _, rfl, r, fun p hp => f _ _ (.fr (.dic ks ps)) (same_new hp) ⟨p, _, rfl, hp, upd_same, vs, rfl, le, ok, issNew m i hp⟩ g⟩
  · exact g.elim
def gListD (ps : List PV) (Q : R → Prop) : Prop := match ps with
  | [.dic ks _] => Q (.fr (.lst (ks.map keyV)))
  | ps => gList ps Q
theorem keys_iss {K : PySem.W.Frag} {H : Hp} {W : Addr → Prop} : ∀ {ks : List Key} {vs : List V}, ks.all keyOk = true → ks.length = vs.length → Iss K H W (ks.map keyV) ((ks.zip vs).map fun kv => kV kv.1)
  | [], _, _, _ => rfl
  | k :: ks, [], _, h => by simp at h
  | k :: ks, v :: vs, ok, h => by
    rw [List.all_cons, Bool.and_eq_true] at ok
    exact ⟨_, _, rfl, keyV_is ok.1, keys_iss ok.2 (by simpa using h)⟩
theorem call_listPD (hc : X.calm = true) : CallP X (.type "list") gListD := by
  obtain ⟨r1, h1, h2⟩ := call_listP (X := X)
  refine ⟨_, CallR.or h1 (call_listD hc), fun H W ps xs Q F m l g f => ?_⟩
  unfold gListD at g
  split at g
  · rename_i ks ps
    obtain ⟨x, rfl, h⟩ := lks1 l
    obtain ⟨a, vs, e, r, le, ok, i⟩ := h
    subst e
    exact .inr ⟨a, _, rfl, r, fun p hp => f _ _ _ (same_new hp) (resLst m (keys_iss ok le) hp) g⟩
  · exact .inl (h2 H W ps xs Q F m l g f)
def asStrs : List PV → Option (List Str)
  | [] => some []
  | .str s :: ps => (asStrs ps).map (s :: ·)
  | _ :: _ => none
theorem asStrs_iss {K : PySem.W.Frag} {H : Hp} {W : Addr → Prop} : ∀ {ps : List PV} {vs : List V} {ss : List Str}, Iss K H W ps vs → asStrs ps = some ss → vs = ss.map V.str ∧ ∀ s ∈ ss, sOk s = true
  | [], _, _, h, e => by cases (show _ = [] from h); cases e; exact ⟨rfl, fun s hs => by simp at hs⟩
  | p :: ps, vs, ns, h, e => by
    obtain ⟨v, r, e1, h1, h2⟩ := h
    subst e1
    cases p with
    | str s =>
      have e' : (asStrs ps).map (s :: ·) = some ns := e
      cases z : asStrs ps with
      | none => rw [z] at e'; cases e'
      | some ms =>
        rw [z] at e'; cases e'
        obtain ⟨e2, o⟩ : v = .str s ∧ sOk s = true := h1
        obtain ⟨h3, h4⟩ := asStrs_iss h2 z
        subst e2
        exact ⟨by rw [h3]; rfl, fun t ht => by rcases List.mem_cons.mp ht with e | ht; rw [e]; exact o; exact h4 t ht⟩
    | _ => cases e
theorem strs_iss {K : PySem.W.Frag} {H : Hp} {W : Addr → Prop} : ∀ {ss : List Str}, (∀ s ∈ ss, sOk s = true) → Iss K H W (ss.map PV.str) (ss.map V.str)
  | [], _ => rfl
  | s :: ss, h => ⟨_, _, rfl, ⟨rfl, h s List.mem_cons_self⟩, strs_iss fun t ht => h t (List.mem_cons_of_mem _ ht)⟩
def keyS : List Key → Option (List Str)
  | [] => some []
  | .inr s :: ks => (keyS ks).map (s :: ·)
  | _ :: _ => none
theorem keyS_map : ∀ {ks : List Key} {ss : List Str}, keyS ks = some ss → ks = ss.map Sum.inr
  | [], _, e => by cases e; rfl
  | .inr s :: ks, ss, e => by
    have e' : (keyS ks).map (s :: ·) = some ss := e
    cases z : keyS ks with
    | none => rw [z] at e'; cases e'
    | some r => rw [z] at e'; cases e'; rw [keyS_map z]; rfl
  | .inl _ :: _, _, e => by cases e
/-- sorted of texts, of numbers, of a dict with texts -/
def gSorted (ps : List PV) (Q : R → Prop) : Prop := match ps with
  | [.lst ps] => match asStrs ps with
    | some ss => ss.length < 64 ∧ ∀ ys, ys.Perm ss → sortedS ys = true → Q (.fr (.lst (ys.map PV.str)))
    | none => match asInts ps with
      | some ns => ∀ ms : List Int, ms.Perm ns → ms.Pairwise (· ≤ ·) → Q (.fr (.lst (ms.map PV.int)))
      | none => False
  | [.dic ks _] => match keyS ks with
    | some ss => ss.length < 64 ∧ ∀ ys, ys.Perm ss → sortedS ys = true → Q (.fr (.lst (ys.map PV.str)))
    | none => False
  | _ => False
theorem call_sortedP (hc : X.calm = true) : CallP X (.builtin "sorted") gSorted := by
  refine ⟨_, CallR.or cr_sortedS (CallR.or cr_sortedI (call_sortedD hc)), fun H W ps xs Q F m l g f => ?_⟩
  unfold gSorted at g
  split at g
  · rename_i ps
    obtain ⟨x, rfl, h⟩ := lks1 l
    obtain ⟨a, vs, e, r, i⟩ := h
    subst e
    cases es : asStrs ps with
    | some ss =>
      rw [es] at g
      obtain ⟨e2, ok⟩ := asStrs_iss i es
      subst e2
      exact .inl ⟨a, ss, rfl, .inl (.inl r), g.1, fun ys p pm so hp => f _ _ _ (same_new hp) (resLst m (strs_iss fun s hs => ok s (pm.mem_iff.mp hs)) hp) (g.2 ys pm so)⟩
    | none =>
      rw [es] at g
      dsimp only at g
      cases ei : asInts ps with
      | some ns =>
        rw [ei] at g
        have e2 := asInts_iss i ei
        subst e2
        exact .inr (.inl ⟨a, ns, rfl, .inl (.inl r), fun ms p pm so hp => f _ _ _ (same_new hp) (resLst m (Iss.ints ms) hp) (g ms pm so)⟩)
      | none => rw [ei] at g; exact g.elim
  · rename_i ks ps
    obtain ⟨x, rfl, h⟩ := lks1 l
    obtain ⟨a, vs, e, r, le, ok, i⟩ := h
    subst e
    cases es : keyS ks with
    | some ss =>
      rw [es] at g
      have ek := keyS_map es
      have oks : ∀ s ∈ ss, sOk s = true := fun s hs => by
        have := List.all_eq_true.mp ok (.inr s) (by rw [ek]; exact List.mem_map_of_mem hs)
        exact this
      refine .inr (.inr ⟨a, _, ss, rfl, r, ?_, g.1, fun ys p pm so hp => f _ _ _ (same_new hp) (resLst m (strs_iss fun s hs => oks s (pm.mem_iff.mp hs)) hp) (g.2 ys pm so)⟩)
      rw [List.map_fst_zip (Nat.le_of_eq le), ek]
    | none => rw [es] at g; exact g.elim
  · exact g.elim
/-! ### str(i) -/
def gStr (ps : List PV) (Q : R → Prop) : Prop := match ps with
  | [.int i] => i.natAbs.log2 < 1920 ∧ sOk (toString i) = true ∧ Q (.pv (.str (toString i)))
  | _ => False
theorem call_strP : CallP X (.type "str") gStr := by
  refine ⟨_, call_str_int, fun H W ps xs Q F m l g f => ?_⟩
  unfold gStr at g
  split at g
  · obtain ⟨x, rfl, h⟩ := lks1 l
    cases (show x = _ from h)
    exact ⟨_, rfl, g.1, fin1 f (p := .str _) ⟨rfl, g.2.1⟩ g.2.2⟩
  · exact g.elim
/-! ### isinstance with several types -/
def asTys : List PV → Option (List String)
  | [] => some []
  | .ty s :: ps => (asTys ps).map (s :: ·)
  | _ :: _ => none
def gIsiT (ps : List PV) (Q : R → Prop) : Prop := match ps with
  | [p, .tup ts] => match asTys ts with
    | some Ts => (tyN p ≠ "" ∧ ∀ T ∈ Ts, tyOk T) ∧ Q (.pv (.bl (Ts.any fun T => isTy p T)))
    | none => False
  | ps => gIsi ps Q
theorem kit_anys {K : PySem.W.Frag} {t : String} (ht : t ∈ ["NoneType", "bool", "int", "str", "tuple", "list", "dict"]) : ∀ {Ts : List String}, (∀ T ∈ Ts, tyOk T) → PySem.W.kitAny K (.type t) (Ts.map Value.type) = some (Ts.any fun T => t == T || (t == "bool" && T == "int"))
  | [], _ => kitAny_nil
  | T :: Ts, h => by
    have ih := kit_anys (K := K) ht (Ts := Ts) fun U hU => h U (List.mem_cons_of_mem _ hU)
    rw [List.map_cons]
    refine kitAny_cons (kit_ty (kit_all t ht T (h T List.mem_cons_self))) (fun e => ?_) fun e => ?_
    · rw [ih, List.any_cons, e, Bool.false_or]
    · rw [List.any_cons, e, Bool.true_or]
theorem asTys_iss {K : PySem.W.Frag} {H : Hp} {W : Addr → Prop} : ∀ {ps : List PV} {vs : List V} {Ts : List String}, Iss K H W ps vs → asTys ps = some Ts → Paired ClsV vs (Ts.map Value.type)
  | [], _, _, h, e => by cases (show _ = [] from h); cases e; exact .nil
  | p :: ps, vs, ns, h, e => by
    obtain ⟨v, r, e1, h1, h2⟩ := h
    subst e1
    cases p with
    | ty s =>
      have e' : (asTys ps).map (s :: ·) = some ns := e
      cases z : asTys ps with
      | none => rw [z] at e'; cases e'
      | some ms =>
        rw [z] at e'; cases e'
        cases (show v = .ty s from h1)
        exact .cons (.ty s) (asTys_iss h2 z)
    | _ => cases e
theorem call_isiPT : CallP X (.builtin "isinstance") gIsiT := by
  obtain ⟨r1, h1, h2⟩ := call_isiP (X := X)
  refine ⟨_, CallR.or h1 call_isiT, fun H W ps xs Q F m l g f => ?_⟩
  unfold gIsiT at g
  split at g
  · rename_i p ts
    cases et : asTys ts with
    | none => rw [et] at g; exact g.elim
    | some Ts =>
      rw [et] at g
      obtain ⟨x, y, rfl, l1, l2⟩ := lks2 l
      obtain ⟨a, vs, e, r, i⟩ : ∃ a vs, y = .ref a ∧ H a = some (.tup vs) ∧ Iss X.K H W ts vs := l2
      subst e
      obtain ⟨t, mem⟩ := tyx_of l1 g.1.1
      exact .inr ⟨x, a, vs, _, _, _, rfl, r, asTys_iss i et, t, kit_anys mem g.1.2, fin1 f (p := .bl _) rfl g.2⟩
  · exact .inl (h2 H W ps xs Q F m l g f)
/-! ### a < b < c -/
def qChain (g g' : G2) (ta tb tc : QT) (ρ : En) (Q : PK1) : Prop := ta ρ fun r1 ρ1 => tb ρ1 fun r2 ρ2 => match r1.look ρ2, r2.look ρ2 with
  | some p, some q => g p q fun z => match z with
    | .pv (.bl k) => Br k (tc ρ2 fun r3 ρ3 => match r2.look ρ3, r3.look ρ3 with
      | some q, some r => g' q r fun z => Q z ρ3
      | _, _ => False) (Q (.pv (.bl false)) ρ2)
    | _ => False
  | _, _ => False
theorem rz_chain {op op' : CmpOp} {g g' : G2} (ho : OpP X (compareOp op) g) (ho' : OpP X (compareOp op') g') {t1 t2 t3 : TE} (h1 : Rz X.K t1 ta) (h2 : Rz X.K t2 tb) (h3 : Rz X.K t3 tc) : Rz X.K (tChain (Classical.choose ho) (Classical.choose ho') t1 t2 t3) (qChain g g' ta tb tc) := by
  have o1 := (Classical.choose_spec ho).2
  have o2 := (Classical.choose_spec ho').2
  intro G H σ ρ pd Q F R1 h f
  refine h1 G H σ ρ pd _ _ R1 h fun r1 ρ1 x H1 s1 g1 => ?_
  obtain ⟨pd1, sb1, R2, a1⟩ := s1.arg
  refine h2 G H1 σ ρ1 pd1 _ _ R2 g1 fun r2 ρ2 y H2 s2 g2 => ?_
  obtain ⟨pd2, sb2, R3, a2⟩ := s2.arg
  cases e1 : r1.look ρ2 with
  | none => rw [e1] at g2; exact g2.elim
  | some p =>
    cases e2 : r2.look ρ2 with
    | none => rw [e1, e2] at g2; exact g2.elim
    | some q =>
      rw [e1, e2] at g2
      refine o1 H2 _ p q x y _ _ R3.mut ((a1.mono sb2).lk R3 (by rw [look_wk]; exact e1)) (a2.lk R3 (by rw [look_wk]; exact e2)) g2 fun v H3 z sm rv hq => ?_
      cases z with
      | pv z =>
        cases z with
        | bl k =>
          cases (show v = .bl k from rv)
          refine ⟨k, rfl, ?_⟩
          have R4 := R3.same sm
          cases k with
          | true =>
            have hq' := hq.1 rfl
            show t3 σ H3 _
            refine h3 G H3 σ ρ2 pd2 _ _ R4 hq' fun r3 ρ3 w H4 s3 g3 => ?_
            obtain ⟨pd3, sb3, R5, a3⟩ := s3.arg
            cases e3 : r2.look ρ3 with
            | none => rw [e3] at g3; exact g3.elim
            | some q' =>
              cases e4 : r3.look ρ3 with
              | none => rw [e3, e4] at g3; exact g3.elim
              | some r =>
                rw [e3, e4] at g3
                refine o2 H4 _ q' r y w _ F R5.mut ((a2.mono sb3).lk R5 (by rw [look_wk]; exact e3)) (a3.lk R5 (by rw [look_wk]; exact e4)) g3 fun v' H5 z' sm' rv' hz => ?_
                exact f z' ρ3 v' H5 (res_of (R5.pds fun u hu => sb3 u (sb2 u (sb1 u hu))) sm' rv') hz
          | false => exact f (.pv (.bl false)) ρ2 _ H3 ((R4.pds fun u hu => sb2 u (sb1 u hu)).push (p := .bl false) rfl) (hq.2 rfl)
        | _ => exact hq.elim
      | _ => exact hq.elim
theorem qe_chain {op op' : CmpOp} {g g' : G2} (ho : OpP X (compareOp op) g) (ho' : OpP X (compareOp op') g') (ha : QE X a ta) (hb : QE X b tb) (hc : QE X c tc) (hm : lastMarks [op, op'] [b, c] = false := by with_unfolding_all rfl) : QE X (.Compare a [op, op'] [b, c] pos) (qChain g g' ta tb tc) := by
  obtain ⟨t1, p1, q1⟩ := ha.ex
  obtain ⟨t2, p2, q2⟩ := hb.ex
  obtain ⟨t3, p3, q3⟩ := hc.ex
  exact ⟨_, pe_chain (Classical.choose_spec ho).1 (Classical.choose_spec ho').1 p1 p2 p3 hm, rz_chain ho ho' q1 q2 q3⟩
theorem qc_chain {op op' : CmpOp} {g g' : G2} (ho : OpP X (compareOp op) g) (ho' : OpP X (compareOp op') g') (ha : QE X a ta) (hb : QE X b tb) (hc : QE X c tc) (hm : lastMarks [op, op'] [b, c] = false := by with_unfolding_all rfl) : QC X (.Compare a [op, op'] [b, c] pos) (qB (qChain g g' ta tb tc)) := by
  obtain ⟨t1, p1, q1⟩ := ha.ex
  obtain ⟨t2, p2, q2⟩ := hb.ex
  obtain ⟨t3, p3, q3⟩ := hc.ex
  refine ⟨_, pt_chain (Classical.choose_spec ho).1 (Classical.choose_spec ho').1 p1 p2 p3 hm, fun G H σ ρ pd Q F R1 h f => ?_⟩
  refine rz_chain ho ho' q1 q2 q3 G H σ ρ pd _ _ R1 h fun r ρ' v H' s hq => ?_
  cases r with
  | pv p =>
    cases p with
    | bl k =>
      have e : v = .bl k := s.pd (.bl k, v) List.mem_cons_self
      exact ⟨k, e, f k ρ' H' s.tl hq⟩
    | _ => exact hq.elim
  | _ => exact hq.elim
/-! ### a, b = x, y; x += e -/
def qPar (i j : Nat) (tr : QTA) (D : PEnds) (ρ : En) : Prop := tr ρ fun rs ρ1 => match rs with
  | [.pv p, .pv q] => notIo ρ1 i = true ∧ notIo ρ1 j = true ∧ D.nx ((ρ1.set i (.val p)).set j (.val q))
  | _ => False
theorem qs_par (i j : Nat) {x y : Str} {px py pt : Pos} {kt k2 : Nat} {pt2 : Pos} (hN : X.N.Nodup) (ha : QA X [a, b] tr) (hc : X.calm = true := by rfl) (hi : X.N[i]? = some x := by rfl) (hj : X.N[j]? = some y := by rfl) (hij : i ≠ j := by decide)
    (hx : X.env.scope.names.lookup x = some .local := by rfl) (hy : X.env.scope.names.lookup y = some .local := by rfl)
    (hw : swappedStores [.Tuple [.Name x px, .Name y py] kt pt] (.Tuple [a, b] k2 pt2) X.env = pure (some [x, y]) := by rfl)
    (hs : swapsWithSole [.Tuple [.Name x px, .Name y py] kt pt] (.Tuple [a, b] k2 pt2) pos.line X.env = pure false := by rfl) : QS X (.Assign [.Tuple [.Name x px, .Name y py] kt pt] (.Tuple [a, b] k2 pt2) pos) (qPar i j tr) := by
  obtain ⟨t, p, q⟩ := ha.ex
  refine ⟨_, ps_par hc hN hi hj hij hx hy p hw hs, fun G H σ ρ pd D' D R1 h ee => ?_⟩
  refine q G H σ ρ pd _ _ R1 h fun rs ρ1 pd1 vs H1 sb R2 ar g => ?_
  unfold qPar at h
  cases ar with
  | nil => exact g.elim
  | @cons r v rs vs h1 t1 =>
    cases t1 with
    | nil => cases r <;> exact g.elim
    | @cons r2 v2 rs2 vs2 h2 t2 =>
      cases t2 with
      | cons _ _ => cases r <;> cases r2 <;> exact g.elim
      | nil =>
        cases r with
        | pv p =>
          cases r2 with
          | pv q =>
            obtain ⟨n1, n2, g⟩ := g
            refine ⟨v, v2, rfl, ee.nx _ _ H1 ?_ g⟩
            have R3 : RE X.K G H1 σ ρ1 ((p, v) :: (q, v2) :: pd) := R2.pds fun x hx => by
              rcases List.mem_cons.mp hx with e | hx
              · rw [e]; exact h1
              rcases List.mem_cons.mp hx with e | hx
              · rw [e]; exact h2
              exact sb x hx
            refine RE.set (R3.set n1) ?_
            unfold notIo at n2 ⊢
            rw [ix_ne hij]; exact n2
          | _ => exact g.elim
        | _ => cases r2 <;> exact g.elim
/-- x += e of numbers -/
def qAug (i : Nat) (g : Int → Int → Int) (te : QT) (D : PEnds) (ρ : En) : Prop := match ρ[i]? with
  | some (.val (.int a)) => te ρ fun r ρ1 => match r with
    | .pv (.int b) => notIo ρ1 i = true ∧ D.nx (ρ1.set i (.val (.int (g a b))))
    | _ => False
  | _ => False
theorem qs_aug (i : Nat) {op : Operator} {g : Int → Int → Int} {x : Str} {pos' : Pos} (hN : X.N.Nodup) (ho : PIp X op (ipI g)) (he : QE X e te) (hi : X.N[i]? = some x := by rfl) (hx : Loc X.env.scope x := by first | exact Or.inl rfl | exact Or.inr rfl) (hf : X.fn x = true ∨ X.env.scope.names.lookup x = some .local := by first | exact .inl rfl | exact .inr rfl) :
    QS X (.AugAssign (.Name x pos') op e pos) (qAug i g te) := by
  obtain ⟨t, p, q⟩ := he.ex
  refine ⟨_, ps_aug hN hi hx p ho hf, fun G H σ ρ pd D' D R1 h ee => ?_⟩
  unfold qAug at h
  split at h
  · rename_i a ea
    obtain ⟨v, ev, iv⟩ := R1.val i _ ea
    cases (show v = .int a from iv)
    refine ⟨_, ev, q G H σ ρ pd _ _ R1 h fun r ρ1 w H1 s g1 => ?_⟩
    cases r with
    | pv p =>
      cases p with
      | int b =>
        have R2 : RE X.K G H1 σ ρ1 ((.int b, w) :: pd) := s
        cases (show w = .int b from R2.pd (.int b, w) List.mem_cons_self)
        exact ⟨a, b, rfl, rfl, ee.nx _ _ H1 ((R2.tl.push (p := .int (g a b)) (v := .int (g a b)) rfl).set g1.1) g1.2⟩
      | _ => exact g1.elim
    | _ => exact g1.elim
  · exact h.elim
/-! ### a method of a value that changes nothing -/
def tyIs (T : String) : Option PV → Prop
  | some (.lst _) => T = "list"
  | some (.dic _ _) => False
  | some (.str _) => T = "str"
  | _ => False
abbrev MethP (X : Cx) (id : String) (g : PV → List PV → (R → Prop) → Prop) : Prop := ∃ r, MtR X id r ∧ ∀ (H : Hp) (W : Addr → Prop) (p : PV) (x : V) (ps : List PV) (xs : List V) (Q : R → Prop) (F : VK), MutT H W → Lk X.K H W p x → Lks X.K H W ps xs → g p ps Q → (∀ v H' z, Same H H' → ResV X.K H W H' z v → Q z → F v H') → r x xs H F
def qMeth (T : String) (g : PV → List PV → (R → Prop) → Prop) (to : QT) (ta : QTA) (ρ : En) (Q : PK1) : Prop := to ρ fun r ρ1 => tyIs T (r.look ρ1) ∧ ta ρ1 fun rs ρ2 => match r.look ρ2, looks ρ2 rs with
  | some p, some ps => g p ps fun z => Q z ρ2
  | _, _ => False
theorem tyIs_v {K : PySem.W.Frag} {H : Hp} {W : Addr → Prop} {T : String} {p : PV} {v : V} (l : Lk K H W p v) (h : tyIs T (some p)) : tyV K T v H := by
  cases p with
  | lst ps => obtain ⟨a, vs, e, r, _⟩ := l; subst e; exact .inl ⟨h, vs, .inl (.inl r)⟩
  | str s => obtain ⟨e, _⟩ : v = .str s ∧ sOk s = true := l; subst e; exact h
  | _ => exact h.elim
theorem qe_meth {T id : String} {nm : Str} {g : PV → List PV → (R → Prop) → Prop} (hm : MethP X id g) (pa : PlainAttrs T) (slot : Slot T nm id) (hty : typeOf (.builtin id) = pure (.type "method_descriptor")) (ho : QE X o te) (ha : QA X (e :: es) tr)
    (hbase : attributeBase o nm X.env (eval o X.env) = eval o X.env := by rfl)
    (hfew : ((backTo cpos (starEach (e :: es) X.env)).all (fun x => !x.1) && (backToKw cpos (keywordEach [] X.env)).all (fun x => x.1.isSome)
      && decide ((e :: es).length + ([] : List Keyword).length + (if ([] : List Keyword).isEmpty then 0 else 1) < 30)) = true := by rfl)
    (hline : (apos.endLine == cpos.line) = true := by rfl) (hs : starEach (e :: es) X.env = (false, eval e X.env) :: starEach es X.env := by rfl) (hplain : (backTo cpos (starEach es X.env)).any (·.1) = false := by rfl) :
    QE X (.Call (.Attribute o nm apos) (e :: es) [] cpos) (qMeth T g te tr) := by
  obtain ⟨r, h1, h2⟩ := hm
  obtain ⟨t1, p1, q1⟩ := ho.ex
  obtain ⟨t2, p2, q2⟩ := ha.ex
  refine ⟨_, pe_bm pa slot hty h1 p1 p2 hbase hfew hline hs hplain, fun G H σ ρ pd Q F R1 h f => ?_⟩
  refine q1 G H σ ρ pd _ _ R1 h fun r ρ1 v H1 s ⟨ht, g1⟩ => ?_
  obtain ⟨pd1, sb, R2, a1⟩ := s.arg
  cases el : r.look ρ1 with
  | none => rw [el] at ht; exact ht.elim
  | some p =>
    rw [el] at ht
    refine ⟨tyIs_v (s.lk el) ht, ?_⟩
    refine q2 G H1 σ ρ1 pd1 _ _ R2 g1 fun rs ρ2 pd2 vs H2 sb2 R3 ar g2 => ?_
    cases e1 : r.look ρ2 with
    | none => rw [e1] at g2; exact g2.elim
    | some p' =>
      cases e2 : looks ρ2 rs with
      | none => rw [e1, e2] at g2; exact g2.elim
      | some ps =>
        rw [e1, e2] at g2
        refine h2 H2 _ p' v ps vs _ F R3.mut ((a1.mono sb2).lk R3 (by rw [look_wk]; exact e1)) (ar.lks R3 e2) g2 fun v' H' z sm rv hq => ?_
        exact f z ρ2 v' H' (res_of (R3.pds fun x hx => sb2 x (sb x hx)) sm rv) hq
/-- xs.index(y): the first place -/
def idxP (y : PV) : List PV → Option Nat
  | [] => none
  | p :: ps => if peq p y = true then some 0 else (idxP y ps).map (· + 1)
def gIndex (p : PV) (ps : List PV) (Q : R → Prop) : Prop := match p, ps with
  | .lst xs, [y] => eqOk y ∧ eqOk (.lst xs) ∧ match idxP y xs with
    | some j => Q (.pv (.int (j : Nat)))
    | none => False
  | _, _ => False
theorem idxP_at {y : PV} : ∀ {xs : List PV} {j : Nat}, idxP y xs = some j → ∃ z, (toDs xs)[j]? = some z ∧ PyData.eqv z (toD y) = true ∧ ∀ (m : Nat) (z' : PyData), m < j → (toDs xs)[m]? = some z' → PyData.eqv z' (toD y) = false
  | [], _, e => by cases e
  | p :: xs, j, e => by
    unfold idxP at e
    split at e
    · rename_i h
      cases e
      exact ⟨toD p, rfl, h, fun m z hm => by omega⟩
    · rename_i h
      cases z : idxP y xs with
      | none => rw [z] at e; cases e
      | some k =>
        rw [z] at e; cases e
        obtain ⟨w, h1, h2, h3⟩ := idxP_at z
        refine ⟨w, by rw [toDs]; simpa using h1, h2, fun m z' hm hz => ?_⟩
        cases m with
        | zero =>
          rw [toDs] at hz
          simp only [List.getElem?_cons_zero, Option.some.injEq] at hz
          rw [← hz]
          exact Bool.eq_false_iff.mpr h
        | succ m => exact h3 m z' (by have hm' : m + 1 < k + 1 := hm; omega) (by rw [toDs] at hz; simpa using hz)
theorem me_index (hu : X.A.units + 65 < cLine) : MethP X "list.index" gIndex := by
  refine ⟨_, mt_indexD hu, fun H W p x ps xs Q F m l ls g f => ?_⟩
  unfold gIndex at g
  split at g
  · rename_i qs y
    obtain ⟨h1, h2, g⟩ := g
    obtain ⟨v, rfl, ly⟩ := lks1 ls
    cases ei : idxP y qs with
    | none => rw [ei] at g; exact g.elim
    | some j =>
      rw [ei] at g
      obtain ⟨d1, c1, z1⟩ := lk_dp h1.1 ly
      obtain ⟨d2, c2, z2⟩ := lk_dp h2.1 l
      obtain ⟨z, e1, e2, e3⟩ := idxP_at ei
      obtain ⟨a, vs, e, r, i⟩ := l
      subst e
      exact ⟨a, v, _, _, j, z, rfl, rfl, d2, d1, shaped_of c2 z2 h2, shaped_of c1 z1 h1, e1, e2, e3, fin1 f (p := .int _) rfl g⟩
  · exact g.elim
end
end Px
namespace Px
open PySem L2 PySem.Spec PyProof.Rows
/-! ### a dict walked: it stands locked -/
structure HM (H H' : Hp) : Prop where
  lst : ∀ b xs, H b = some (.lst xs) → H' b = some (.lst xs)
  tup : ∀ b xs, H b = some (.tup xs) → H' b = some (.tup xs)
  dK : ∀ b kvs, Rd H b (.dK kvs) → Rd H' b (.dK kvs)
  fl : ∀ b o xs, H b = some (.frz o (.lst xs)) → H' b = some (.frz o (.lst xs))
mutual
theorem Is.hm {K : PySem.W.Frag} {H H' : Hp} {W : Addr → Prop} (m : HM H H') : ∀ (p : PV) (v : V), Is K H W p v → Is K H' W p v
  | .non, _, h => h
  | .bl _, _, h => h
  | .int _, _, h => h
  | .ty _, _, h => h
  | .str _, _, h => h
  | .tup ps, v, h => by
    obtain ⟨a, vs, e, r, q⟩ := h
    exact ⟨a, vs, e, m.tup a vs r, Iss.hm m ps vs q⟩
  | .lst ps, v, h => by
    obtain ⟨a, vs, e, n, r, q⟩ := h
    exact ⟨a, vs, e, n, m.lst a vs r, Iss.hm m ps vs q⟩
  | .dic ks ps, v, h => by
    obtain ⟨a, vs, e, n, r, l, kk, q⟩ := h
    exact ⟨a, vs, e, n, m.dK a _ r, l, kk, Iss.hm m ps vs q⟩
  | .scr ns, v, h => by
    obtain ⟨a, e, q⟩ := h
    rcases q with ⟨o, q⟩ | q
    · exact ⟨a, e, .inl ⟨o, m.fl a o _ q⟩⟩
    · exact ⟨a, e, .inr q⟩
  | .nst _ c s, v, h => by
    obtain ⟨a, e, n, r⟩ := h
    exact ⟨a, e, n, m.lst a _ r⟩
theorem Iss.hm {K : PySem.W.Frag} {H H' : Hp} {W : Addr → Prop} (m : HM H H') : ∀ (ps : List PV) (vs : List V), Iss K H W ps vs → Iss K H' W ps vs
  | [], _, h => h
  | p :: ps, vs, h => by
    obtain ⟨v, r, e, h1, h2⟩ := h
    exact ⟨v, r, e, Is.hm m p v h1, Iss.hm m ps r h2⟩
end
theorem OwnO.hm {K : PySem.W.Frag} {H H' : Hp} {W : Addr → Prop} (m : HM H H') {p : PV} {o : HO} (h : OwnO K H W p o) : OwnO K H' W p o := by
  cases p <;> cases o <;> first
    | exact h.elim
    | exact Iss.hm m _ _ h
    | (obtain ⟨vs, e, l, kk, q⟩ := h; exact ⟨vs, e, l, kk, Iss.hm m _ _ q⟩)
    | exact h
theorem hm_lock {H : Hp} {d : Addr} {o : Obj} {kvs : List (Key × V)} (h : H d = some (.dK kvs)) : HM H (upd H d (.frz o (.dK kvs))) := by
  have ne : ∀ b (u : HO), H b = some u → u ≠ .dK kvs → b ≠ d := fun b u e n z => by rw [z, h] at e; cases e; exact n rfl
  refine ⟨fun b xs e => by rw [upd_ne (ne b _ e (by intro z; cases z))]; exact e, fun b xs e => by rw [upd_ne (ne b _ e (by intro z; cases z))]; exact e, fun b ks e => ?_, fun b o xs e => by rw [upd_ne (ne b _ e (by intro z; cases z))]; exact e⟩
  by_cases z : b = d
  · subst z
    rcases e with e | ⟨u, e⟩
    · rw [h] at e; cases e; exact .inr ⟨o, upd_same⟩
    · rw [h] at e; cases e
  · rcases e with e | ⟨u, e⟩
    · exact .inl (by rw [upd_ne z]; exact e)
    · exact .inr ⟨u, by rw [upd_ne z]; exact e⟩
theorem hm_unlock {H : Hp} {d : Addr} {o : Obj} {kvs : List (Key × V)} (h : H d = some (.frz o (.dK kvs))) : HM H (upd H d (.dK kvs)) := by
  have ne : ∀ b (u : HO), H b = some u → u ≠ .frz o (.dK kvs) → b ≠ d := fun b u e n z => by rw [z, h] at e; cases e; exact n rfl
  refine ⟨fun b xs e => by rw [upd_ne (ne b _ e (by intro z; cases z))]; exact e, fun b xs e => by rw [upd_ne (ne b _ e (by intro z; cases z))]; exact e, fun b ks e => ?_, fun b o' xs e => by rw [upd_ne (ne b _ e (by intro z; cases z))]; exact e⟩
  by_cases z : b = d
  · subst z
    rcases e with e | ⟨u, e⟩
    · rw [h] at e; cases e
    · rw [h] at e; cases e; exact .inl upd_same
  · rcases e with e | ⟨u, e⟩
    · exact .inl (by rw [upd_ne z]; exact e)
    · exact .inr ⟨u, by rw [upd_ne z]; exact e⟩
def Gd.lk (G : Gd) (d : Addr) (u : HO) : Gd := ⟨upd G.keep d u, G.ex, G.io, G.vo⟩
theorem lk_add {G : Gd} {a d : Addr} {u v : HO} (ne : a ≠ d) : (G.lk d u).add a v = (G.add a v).lk d u := by
  have : upd (upd G.keep d u) a v = upd (upd G.keep a v) d u := by
    funext b
    by_cases z1 : b = a
    · subst z1; rw [upd_same, upd_ne ne, upd_same]
    · by_cases z2 : b = d
      · subst z2; rw [upd_ne z1, upd_same, upd_same]
      · rw [upd_ne z1, upd_ne z2, upd_ne z2, upd_ne z1]
  exact congrArg (fun k => Gd.mk k (fun b => b = a ∨ G.ex b) G.io G.vo) this
theorem RX.lk {G : Gd} {H H' : Hp} {σ : L2.St} {ρ : En} {d : Addr} {u : HO} (R : RX G H σ ρ) (n : ¬ G.ex d) (k : ∀ b, b ≠ d → H' b = H b) : RX (G.lk d u) H' σ ρ := ⟨fun b h => by
  obtain ⟨h1, h2, ns, e, h3⟩ := R.vo b h
  have ne : b ≠ d := fun z => n (by rw [← z]; exact h1)
  exact ⟨h1, by show upd G.keep d u b = none; rw [upd_ne ne]; exact h2, ns, by rw [k b ne]; exact e, h3⟩, R.off, R.nst⟩
theorem RX.unlk {G : Gd} {H H' : Hp} {σ : L2.St} {ρ : En} {d : Addr} {u : HO} (R : RX (G.lk d u) H σ ρ) (k : ∀ b, b ≠ d → H' b = H b) : RX G H' σ ρ := ⟨fun b h => by
  obtain ⟨h1, h2, ns, e, h3⟩ := R.vo b h
  have h2' : upd G.keep d u b = none := h2
  have ne : b ≠ d := fun z => by rw [z, upd_same] at h2'; cases h2'
  rw [upd_ne ne] at h2'
  exact ⟨h1, h2', ns, by rw [k b ne]; exact e, h3⟩, R.off, R.nst⟩
section
variable {K : PySem.W.Frag} {G : Gd} {H : Hp} {σ : L2.St} {ρ : En} {pd : Pds} {d : Addr} {o : Obj} {kvs : List (Key × V)}
theorem RE.lock (R : RE K G H σ ρ pd) (n : ¬ WS G σ ρ d) (h : H d = some (.dK kvs)) : RE K (G.lk d (.frz o (.dK kvs))) (upd H d (.frz o (.dK kvs))) σ ρ pd := by
  have m := hm_lock (o := o) h
  refine ⟨R.len, fun i p e => ?_, fun i b p e => ?_, R.inj, R.io, fun b u e => ?_, fun b w hv => ?_, fun x hx => Is.hm m _ _ (R.pd x hx), R.ext.lk (fun z => n (.inl z)) fun b ne => upd_ne ne⟩
  · obtain ⟨v, e1, q⟩ := R.val i p e
    exact ⟨v, e1, Is.hm m _ _ q⟩
  · obtain ⟨a, e1, k, u, e2, q⟩ := R.own i b p e
    have ne : a ≠ d := fun z => n (by rw [← z]; exact .inr ⟨i, b, p, e, e1⟩)
    exact ⟨a, e1, by show upd G.keep d _ a = none; rw [upd_ne ne]; exact k, u, by rw [upd_ne ne]; exact e2, q.hm m⟩
  · have e' : upd G.keep d (.frz o (.dK kvs)) b = some u := e
    by_cases z : b = d
    · rw [z] at e' ⊢; rw [upd_same] at e' ⊢; exact e'
    · rw [upd_ne z] at e' ⊢; exact R.keep b u e'
  · obtain ⟨u, e1, m1⟩ := R.exk b w hv
    have ne : b ≠ d := fun z => n (by rw [← z]; exact .inl w)
    exact ⟨u, by show upd G.keep d _ b = some u; rw [upd_ne ne]; exact e1, m1⟩
theorem RE.unlock (R : RE K (G.lk d (.frz o (.dK kvs))) H σ ρ pd) (kd : ∀ u, G.keep d = some u → u = .dK kvs) : H d = some (.frz o (.dK kvs)) ∧ RE K G (upd H d (.dK kvs)) σ ρ pd := by
  have h : H d = some (.frz o (.dK kvs)) := R.keep d _ upd_same
  have m := hm_unlock h
  have kne : ∀ a, (G.lk d (.frz o (.dK kvs))).keep a = none → a ≠ d ∧ G.keep a = none := fun a e => by
    have e' : upd G.keep d (.frz o (.dK kvs)) a = none := e
    by_cases z : a = d
    · rw [z, upd_same] at e'; cases e'
    · rw [upd_ne z] at e'; exact ⟨z, e'⟩
  refine ⟨h, R.len, fun i p e => ?_, fun i b p e => ?_, R.inj, R.io, fun b u e => ?_, fun b w hv => ?_, fun x hx => Is.hm m _ _ (R.pd x hx), R.ext.unlk fun b ne => upd_ne ne⟩
  · obtain ⟨v, e1, q⟩ := R.val i p e
    exact ⟨v, e1, Is.hm m _ _ q⟩
  · obtain ⟨a, e1, k, u, e2, q⟩ := R.own i b p e
    obtain ⟨ne, k'⟩ := kne a k
    exact ⟨a, e1, k', u, by rw [upd_ne ne]; exact e2, q.hm m⟩
  · by_cases z : b = d
    · rw [z] at e ⊢; rw [kd u e, upd_same]
    · rw [upd_ne z]
      exact R.keep b u (by show upd G.keep d _ b = some u; rw [upd_ne z]; exact e)
  · obtain ⟨u, e1, m1⟩ := R.exk b w hv
    have e' : upd G.keep d (.frz o (.dK kvs)) b = some u := e1
    by_cases z : b = d
    · rw [z, upd_same] at e'; cases e'; exact m1.elim
    · rw [upd_ne z] at e'; exact ⟨u, e', m1⟩
theorem Res.unlock {r : R} {v : V} (s : Res K (G.lk d (.frz o (.dK kvs))) H σ ρ pd r v) (kd : ∀ u, G.keep d = some u → u = .dK kvs) (kx : exkOk G) : H d = some (.frz o (.dK kvs)) ∧ Res K G (upd H d (.dK kvs)) σ ρ pd r v := by
  cases r with
  | pv p => exact RE.unlock (pd := (p, v) :: pd) s kd
  | sl i =>
    obtain ⟨R1, e1, x⟩ := s
    obtain ⟨h, R2⟩ := R1.unlock kd
    exact ⟨h, R2, e1, x⟩
  | fr p =>
    obtain ⟨a, u, e1, n, _, R1, w⟩ := s
    have n' : upd G.keep d (.frz o (.dK kvs)) a = none := n
    have ne : a ≠ d := fun z => by rw [z, upd_same] at n'; cases n'
    rw [upd_ne ne] at n'
    have eg : (G.lk d (.frz o (.dK kvs))).add a u = (G.add a u).lk d (.frz o (.dK kvs)) := lk_add ne
    rw [eg] at R1 w
    obtain ⟨h, R2⟩ := R1.unlock (fun x e => kd x (by
      have e' : upd G.keep a u d = some x := e
      rw [upd_ne ne.symm] at e'; exact e'))
    exact ⟨h, a, u, e1, n', kx, R2, w.hm (hm_unlock h)⟩
end
theorem pe_either {X : Cx} {e : Expr} {t t' : TE} (h : PE X e t) (h' : PE X e t') : PE X e (fun σ H Q => t σ H Q ∨ t' σ H Q) := ⟨fun pins s σ H Q I q => q.elim (h.run pins s σ H Q I) (h'.run pins s σ H Q I)⟩
theorem ps_either {X : Cx} {st : Stmt} {t t' : TS} (h : PS X st t) (h' : PS X st t') : PS X st (fun D σ H => t D σ H ∨ t' D σ H) := ⟨fun pins s σ H D I q => q.elim (h.run pins s σ H D I) (h'.run pins s σ H D I)⟩
theorem wk_keys {K : PySem.W.Frag} {d : Addr} {o : Obj} {ks : List Key} {vs : List V} {pd : Pds} {kp : Hp} (hl : ks.length = vs.length) (ok : ks.all keyOk = true) (hk : kp d = some (.frz o (.dK (ks.zip vs)))) : Wk K (Itk d o (ks.zip vs)) (ks.map keyV) pd kp := by
  constructor
  · intro G H σ ρ pd' i p sb kk R1 hp
    have hd := R1.keep d _ (kk d _ hk)
    rw [List.getElem?_map] at hp
    cases e : ks[i]? with
    | none => rw [e] at hp; cases hp
    | some k =>
      rw [e] at hp; cases hp
      have l : i < ks.length := (List.getElem?_eq_some_iff.mp e).1
      refine ⟨⟨hd, by rw [zip_len hl]; exact l⟩, fun x H' y => ?_⟩
      obtain ⟨rfl, k', v, e2, rfl⟩ := y
      rw [List.getElem?_zip_eq_some] at e2
      rw [e] at e2
      obtain ⟨e3, _⟩ := e2
      have okk := List.all_eq_true.mp ok k (List.mem_of_getElem? e)
      cases e3
      exact R1.push (keyV_is okk)
  · intro G H σ ρ pd' i sb kk R1 hp
    refine ⟨R1.keep d _ (kk d _ hk), ?_⟩
    rw [zip_len hl]
    simpa using hp
/-- the dict at a slot -/
def dicAt (ρ : En) (i : Nat) : Option (List Key × List PV) := match ρ[i]? with
  | some (.val (.dic ks ps)) => some (ks, ps)
  | _ => none
def qLcK (i : Nat) (g : QTG) (tt : QTT) (te : QT) (vs : List Nat) (ρ : En) (Q : PK1) : Prop := match dicAt ρ i with
  | some (ks, _) => notIos ρ vs ∧ lcR g tt te vs (ks.map keyV) (wipeE ρ vs) Q .mk
  | none => False
def qForK (i : Nat) (g : QTG) (body : QTS) (D : PEnds) (ρ : En) : Prop := match dicAt ρ i with
  | some (ks, _) => forGo g body D (ks.map keyV) ρ
  | none => False
theorem dicAt_is {K : PySem.W.Frag} {G : Gd} {H : Hp} {σ : L2.St} {ρ : En} {pd : Pds} {i : Nat} {ks : List Key} {ps : List PV} (R1 : RE K G H σ ρ pd) (e : dicAt ρ i = some (ks, ps)) :
    ∃ d vs, σ[i]? = some (some (V.ref d)) ∧ ¬ WS G σ ρ d ∧ Rd H d (.dK (ks.zip vs)) ∧ ks.length = vs.length ∧ ks.all keyOk = true := by
  unfold dicAt at e
  split at e
  · rename_i ks' ps' e1
    cases e
    obtain ⟨v, e2, a, vs, e3, n, r, l, ok, _⟩ := R1.val i _ e1
    subst e3
    exact ⟨a, vs, e2, n, r, l, ok⟩
  · cases e
section
variable {X : Cx} {elt tg : Expr} {ifs : List Expr} {scope : Scope} {own : List (Str × Nat)} {pos npos : Pos} {g : QTG} {tt : QTT} {te : QT} {sl : List Nat} {x : Str}
theorem rz_lcK {g1 : TG} {t1 : TT} {e1 : TE} {vs : List Nat} {i : Nat} (q2 : RzG X.K g1 sl g) (q3 : RzT X.K t1 tt) (q4 : Rz X.K e1 te) (hs : ∀ i ∈ sl, i ∈ vs) :
    Rz X.K (fun σ H Q => tLockE (tLc (iKeys (tVar i)) g1 t1 e1 vs) σ H Q ∨ tLc (iKeys (tVar i)) g1 t1 e1 vs σ H Q) (qLcK i g tt te vs) := by
  intro G H σ ρ pd Q F R1 h f
  unfold qLcK at h
  cases e : dicAt ρ i with
  | none => rw [e] at h; exact h.elim
  | some kp =>
    obtain ⟨ks, ps⟩ := kp
    rw [e] at h
    obtain ⟨nio, go⟩ := h
    obtain ⟨d, us, e2, n, r, hl, ok⟩ := dicAt_is R1 e
    rcases r with r | ⟨o, r⟩
    · refine .inl ⟨d, _, r, trivial, fun od => ?_⟩
      have R2 := R1.lock (o := od) n r
      refine ⟨.ref d, e2, d, od, rfl, .inl ⟨_, upd_same, ?_⟩⟩
      have kd : ∀ u, G.keep d = some u → u = .dK (ks.zip us) := fun u eu => by have := R1.keep d u eu; rw [r] at this; cases this; rfl
      refine lc_walk (F := fun v H' => H' d = some (.frz od (.dK (ks.zip us))) ∧ F v (upd H' d (.dK (ks.zip us)))) q2 q3 q4 hs (pd1 := pd) (fun _ hx => hx) R2 (wk_keys hl ok upd_same) nio go fun r ρ' v H' s hq => ?_
      obtain ⟨h1, s'⟩ := s.unlock kd R1.exk
      exact ⟨h1, f r ρ' v _ s' hq⟩
    · refine .inr ⟨.ref d, e2, d, o, rfl, .inl ⟨_, r, ?_⟩⟩
      by_cases hk : G.keep d = some (.frz o (.dK (ks.zip us)))
      · exact lc_walk q2 q3 q4 hs (pd1 := pd) (fun _ hx => hx) R1 (wk_keys hl ok hk) nio go f
      · have kn : G.keep d = none := by
          cases eq : G.keep d with
          | none => rfl
          | some u => have := R1.keep d u eq; rw [r] at this; cases this; exact absurd eq hk
        have R2 : RE X.K (G.lk d (.frz o (.dK (ks.zip us)))) H σ ρ pd := by
          refine ⟨R1.len, R1.val, fun j b p e => ?_, R1.inj, R1.io, fun b u e => ?_, fun b w hv => ?_, R1.pd, R1.ext.lk (fun z => n (.inl z)) fun b ne => rfl⟩
          · obtain ⟨a, e1, k, rest⟩ := R1.own j b p e
            have ne : a ≠ d := fun z => n (by rw [← z]; exact .inr ⟨j, b, p, e, e1⟩)
            exact ⟨a, e1, by show upd G.keep d _ a = none; rw [upd_ne ne]; exact k, rest⟩
          · have e' : upd G.keep d (.frz o (.dK (ks.zip us))) b = some u := e
            by_cases z : b = d
            · rw [z] at e' ⊢; rw [upd_same] at e'; rw [r]; exact e'
            · rw [upd_ne z] at e'; exact R1.keep b u e'
          · obtain ⟨u, e1, m1⟩ := R1.exk b w hv
            have ne : b ≠ d := fun z => n (by rw [← z]; exact .inl w)
            exact ⟨u, by show upd G.keep d _ b = some u; rw [upd_ne ne]; exact e1, m1⟩
        refine lc_walk q2 q3 q4 hs (pd1 := pd) (fun _ hx => hx) R2 (wk_keys hl ok upd_same) nio go fun r ρ' v H' s hq => ?_
        refine f r ρ' v H' ?_ hq
        have dn : ∀ {H' : Hp} {σ : L2.St} {ρ : En} {pd : Pds} {G : Gd}, G.keep d = none → RE X.K (G.lk d (.frz o (.dK (ks.zip us)))) H' σ ρ pd → RE X.K G H' σ ρ pd := fun {H' σ ρ pd G} kn R => by
          refine ⟨R.len, R.val, fun j b p e => ?_, R.inj, R.io, fun b u e => ?_, fun b w hv => ?_, R.pd, R.ext.unlk fun b ne => rfl⟩
          · obtain ⟨a, e1, k, rest⟩ := R.own j b p e
            have k' : upd G.keep d (.frz o (.dK (ks.zip us))) a = none := k
            by_cases z : a = d
            · rw [z, upd_same] at k'; cases k'
            · rw [upd_ne z] at k'; exact ⟨a, e1, k', rest⟩
          · have ne : b ≠ d := fun z => by rw [z, kn] at e; cases e
            exact R.keep b u (by show upd G.keep d _ b = some u; rw [upd_ne ne]; exact e)
          · obtain ⟨u, e1, m1⟩ := R.exk b w hv
            have e' : upd G.keep d (.frz o (.dK (ks.zip us))) b = some u := e1
            by_cases z : b = d
            · rw [z, upd_same] at e'; cases e'; exact m1.elim
            · rw [upd_ne z] at e'; exact ⟨u, e', m1⟩
        cases r with
        | pv p => exact dn kn s
        | sl j => exact ⟨dn kn s.1, s.2⟩
        | fr p =>
          obtain ⟨a, u, e1, na, _, R3, w⟩ := s
          have n' : upd G.keep d (.frz o (.dK (ks.zip us))) a = none := na
          have ne : a ≠ d := fun z => by rw [z, upd_same] at n'; cases n'
          rw [upd_ne ne] at n'
          have eg : (G.lk d (.frz o (.dK (ks.zip us)))).add a u = (G.add a u).lk d (.frz o (.dK (ks.zip us))) := lk_add ne
          rw [eg] at R3 w
          exact ⟨a, u, e1, n', R1.exk, dn (G := G.add a u) (by show upd G.keep a u d = none; rw [upd_ne ne.symm]; exact kn) R3, w⟩
theorem qe_lcK (i : Nat) (hc : X.calm = true) (hN : X.N.Nodup) (ok : BlkOk X.N X.env.scope scope own) (hg : ∀ c, QG (blkX X scope c) tg sl g) (ht : ∀ c, QCs (blkX X scope c) ifs tt) (he : ∀ c, QE (blkX X scope c) elt te)
    (hs : ∀ i ∈ sl, i ∈ own.map (·.2) := by decide) (hNx : X.N[i]? = some x := by rfl) (hv : Vis X.env.scope x := by first | exact Or.inl rfl | exact Or.inr (Or.inl rfl) | exact Or.inr (Or.inr rfl)) (hd : (x == ("__debug__" : Str)) = false := by decide)
    (hcd : (x == ("__classdict__" : Str)) = false := by decide) (hf : ∀ y, foldedSetIterable (.Name x npos) X.env y = pure y := by intro _; rfl) {vs : List Nat} (hvs : vs = own.map (·.2) := by rfl) : QE X (.ListComp elt [⟨tg, .Name x npos, ifs, 0⟩] scope pos) (qLcK i g tt te vs) := by
  subst hvs
  obtain ⟨g1, p2, q2⟩ := QG.all (X := blkX X scope) (K := X.K) (fun _ => rfl) hg
  obtain ⟨t1, p3, q3⟩ := QCs.all (X := blkX X scope) (K := X.K) (fun _ => rfl) ht
  obtain ⟨e1, p4, q4⟩ := QE.all (X := blkX X scope) (K := X.K) (fun _ => rfl) he
  have base := pe_lc (pos := pos) hc hN (pi_keys (pe_var (pos := npos) hNx hv hd hcd)) ok (fun s H C cl fp => p2 (s, H, C, cl, fp)) (fun s H C cl fp => p3 (s, H, C, cl, fp)) (fun s H C cl fp => p4 (s, H, C, cl, fp)) hf
  exact ⟨_, pe_either (pe_lock base) base, rz_lcK q2 q3 q4 hs⟩
/-- for x in d -/
theorem endsLock {K : PySem.W.Frag} {G : Gd} {pd : Pds} {D' : PEnds} {D : Ends} {d : Addr} {o : Obj} {kvs : List (Key × V)} (kd : ∀ u, G.keep d = some u → u = .dK kvs) (kx : exkOk G) (e : EndsOk K G pd D' D) :
    EndsOk K (G.lk d (.frz o (.dK kvs))) pd D' ⟨fun σ' H' => H' d = some (.frz o (.dK kvs)) ∧ D.nx σ' (upd H' d (.dK kvs)), fun v H' => H' d = some (.frz o (.dK kvs)) ∧ D.rt v (upd H' d (.dK kvs)), fun σ' H' => H' d = some (.frz o (.dK kvs)) ∧ D.bk σ' (upd H' d (.dK kvs)), fun σ' H' => H' d = some (.frz o (.dK kvs)) ∧ D.ct σ' (upd H' d (.dK kvs))⟩ := by
  refine ⟨fun σ ρ H R h => ?_, fun r v σ ρ H R h => ?_, fun σ ρ H R h => ?_, fun σ ρ H R h => ?_⟩
  · obtain ⟨h1, R2⟩ := R.unlock kd; exact ⟨h1, e.nx σ ρ _ R2 h⟩
  · obtain ⟨h1, R2⟩ := R.unlock kd kx; exact ⟨h1, e.rt r v σ ρ _ R2 h⟩
  · obtain ⟨h1, R2⟩ := R.unlock kd; exact ⟨h1, e.bk σ ρ _ R2 h⟩
  · obtain ⟨h1, R2⟩ := R.unlock kd; exact ⟨h1, e.ct σ ρ _ R2 h⟩
/-- the dict must not be locked already -/
theorem qs_forK (i : Nat) {body : List Stmt} {t : QTS} (hp : PassesOwn (model X.prog X.w) X.A X.env X.xe) (hc : X.calm = true) (hg : QG X tg sl g) (hb : QSs X body t)
    (hNx : X.N[i]? = some x := by rfl) (hv : Vis X.env.scope x := by first | exact Or.inl rfl | exact Or.inr (Or.inl rfl) | exact Or.inr (Or.inr rfl)) (hd : (x == ("__debug__" : Str)) = false := by decide)
    (hcd : (x == ("__classdict__" : Str)) = false := by decide) (hf : ∀ y, foldedSetIterable (.Name x npos) X.env y = pure y := by intro _; rfl) : QS X (.For tg (.Name x npos) body [] pos) (qForK i g t) := by
  obtain ⟨g1, p2, q2⟩ := hg.ex
  obtain ⟨t1, p3, q3⟩ := hb.ex
  have base := ps_for (pos := pos) hp hc (pi_keys (pe_var (pos := npos) hNx hv hd hcd)) p2 p3 hf
  refine ⟨_, ps_either (ps_lock base) base, fun G H σ ρ pd D' D R1 h ee => ?_⟩
  unfold qForK at h
  cases e : dicAt ρ i with
  | none => rw [e] at h; exact h.elim
  | some kp =>
    obtain ⟨ks, ps⟩ := kp
    rw [e] at h
    obtain ⟨d, us, e2, n, r, hl, ok⟩ := dicAt_is R1 e
    rcases r with r | ⟨o, r⟩
    · refine .inl ⟨d, _, r, trivial, fun od => ?_⟩
      have R2 := R1.lock (o := od) n r
      have kd : ∀ u, G.keep d = some u → u = .dK (ks.zip us) := fun u eu => by have := R1.keep d u eu; rw [r] at this; cases this; rfl
      refine ⟨.ref d, e2, d, od, rfl, .inl ⟨_, upd_same, ?_⟩⟩
      exact for_walk q2 q3 (pd1 := pd) (fun _ hx => hx) R2 (wk_keys hl ok upd_same) h (endsLock kd R1.exk ee)
    · refine .inr ⟨.ref d, e2, d, o, rfl, .inl ⟨_, r, ?_⟩⟩
      have dn : ∀ {H' : Hp} {σ : L2.St} {ρ : En} {pd : Pds} {G : Gd}, G.keep d = none → RE X.K (G.lk d (.frz o (.dK (ks.zip us)))) H' σ ρ pd → RE X.K G H' σ ρ pd := fun {H' σ ρ pd G} kn R => by
        refine ⟨R.len, R.val, fun j b p e => ?_, R.inj, R.io, fun b u e => ?_, fun b w hv => ?_, R.pd, R.ext.unlk fun b ne => rfl⟩
        · obtain ⟨a, e1, k, rest⟩ := R.own j b p e
          have k' : upd G.keep d (.frz o (.dK (ks.zip us))) a = none := k
          by_cases z : a = d
          · rw [z, upd_same] at k'; cases k'
          · rw [upd_ne z] at k'; exact ⟨a, e1, k', rest⟩
        · have ne : b ≠ d := fun z => by rw [z, kn] at e; cases e
          exact R.keep b u (by show upd G.keep d _ b = some u; rw [upd_ne ne]; exact e)
        · obtain ⟨u, e1, m1⟩ := R.exk b w hv
          have e' : upd G.keep d (.frz o (.dK (ks.zip us))) b = some u := e1
          by_cases z : b = d
          · rw [z, upd_same] at e'; cases e'; exact m1.elim
          · rw [upd_ne z] at e'; exact ⟨u, e', m1⟩
      by_cases hk : G.keep d = some (.frz o (.dK (ks.zip us)))
      · exact for_walk q2 q3 (pd1 := pd) (fun _ hx => hx) R1 (wk_keys hl ok hk) h ee
      · have kn : G.keep d = none := by
          cases eq : G.keep d with
          | none => rfl
          | some u => have := R1.keep d u eq; rw [r] at this; cases this; exact absurd eq hk
        have R2 : RE X.K (G.lk d (.frz o (.dK (ks.zip us)))) H σ ρ pd := by
          refine ⟨R1.len, R1.val, fun j b p e => ?_, R1.inj, R1.io, fun b u e => ?_, fun b w hv => ?_, R1.pd, R1.ext.lk (fun z => n (.inl z)) fun b ne => rfl⟩
          · obtain ⟨a, e1, k, rest⟩ := R1.own j b p e
            have ne : a ≠ d := fun z => n (by rw [← z]; exact .inr ⟨j, b, p, e, e1⟩)
            exact ⟨a, e1, by show upd G.keep d _ a = none; rw [upd_ne ne]; exact k, rest⟩
          · have e' : upd G.keep d (.frz o (.dK (ks.zip us))) b = some u := e
            by_cases z : b = d
            · rw [z] at e' ⊢; rw [upd_same] at e'; rw [r]; exact e'
            · rw [upd_ne z] at e'; exact R1.keep b u e'
          · obtain ⟨u, e1, m1⟩ := R1.exk b w hv
            have ne : b ≠ d := fun z => n (by rw [← z]; exact .inl w)
            exact ⟨u, by show upd G.keep d _ b = some u; rw [upd_ne ne]; exact e1, m1⟩
        refine for_walk q2 q3 (pd1 := pd) (fun _ hx => hx) R2 (wk_keys hl ok upd_same) h ⟨fun σ ρ H R h => ee.nx σ ρ H (dn kn R) h, fun r v σ ρ H s h => ee.rt r v σ ρ H ?_ h, fun σ ρ H R h => ee.bk σ ρ H (dn kn R) h, fun σ ρ H R h => ee.ct σ ρ H (dn kn R) h⟩
        cases r with
        | pv p => exact dn kn s
        | sl j => exact ⟨dn kn s.1, s.2⟩
        | fr p =>
          obtain ⟨a, u, e1, na, _, R3, w⟩ := s
          have n' : upd G.keep d (.frz o (.dK (ks.zip us))) a = none := na
          have ne : a ≠ d := fun z => by rw [z, upd_same] at n'; cases n'
          rw [upd_ne ne] at n'
          have eg : (G.lk d (.frz o (.dK (ks.zip us)))).add a u = (G.add a u).lk d (.frz o (.dK (ks.zip us))) := lk_add ne
          rw [eg] at R3 w
          exact ⟨a, u, e1, n', R1.exk, dn (G := G.add a u) (by show upd G.keep a u d = none; rw [upd_ne ne.symm]; exact kn) R3, w⟩
end
/-! ### zip and enumerate walked -/
section
variable {X : Cx} {a b e : Expr} {es elts : List Expr} {tr : QTA} {te : QT} {p pos tpos : Pos} {kk : Nat}
theorem zipP_get {ps : List PV} : ∀ {qs : List PV} {i : Nat} {z : PV}, (zipP ps qs)[i]? = some z → ∃ p q, ps[i]? = some p ∧ qs[i]? = some q ∧ z = .tup [p, q] := by
  induction ps with
  | nil => intro qs i z h; unfold zipP at h; simp at h
  | cons p ps ih =>
    intro qs i z h
    cases qs with
    | nil => unfold zipP at h; simp at h
    | cons q qs =>
      cases i with
      | zero => unfold zipP at h; simp at h; exact ⟨p, q, rfl, rfl, h.symm⟩
      | succ i =>
        rw [zipP, List.getElem?_cons_succ] at h
        obtain ⟨p', q', h1, h2, h3⟩ := ih h
        exact ⟨p', q', by simpa using h1, by simpa using h2, h3⟩
theorem zipP_len : ∀ (ps qs : List PV), (zipP ps qs).length = min ps.length qs.length
  | [], qs => by unfold zipP; simp
  | p :: ps, [] => by unfold zipP; simp
  | p :: ps, q :: qs => by unfold zipP; rw [List.length_cons, zipP_len ps qs]; simp only [List.length_cons]; omega
theorem wk_zipL {K : PySem.W.Frag} {a b : Addr} {ps qs : List PV} {pd : Pds} {kp : Hp} (h1 : (PV.lst ps, V.ref a) ∈ pd) (h2 : (PV.lst qs, V.ref b) ∈ pd) : Wk K (Itz K a b) (zipP ps qs) pd kp := by
  constructor
  · intro G H σ ρ pd' i p s _ R1 hp
    obtain ⟨c, vs, e, n, hc, q⟩ : ∃ b vs, V.ref a = .ref b ∧ ¬ WS G σ ρ b ∧ H b = some (.lst vs) ∧ Iss K H (WS G σ ρ) ps vs := R1.pd _ (s _ h1)
    cases e
    obtain ⟨c, us, e, n, hd, q2⟩ : ∃ c vs, V.ref b = .ref c ∧ ¬ WS G σ ρ c ∧ H c = some (.lst vs) ∧ Iss K H (WS G σ ρ) qs vs := R1.pd _ (s _ h2)
    cases e
    obtain ⟨x, y, ex, ey, rfl⟩ := zipP_get hp
    obtain ⟨v, hv, iv⟩ := q.getP ex
    obtain ⟨u, hu, iu⟩ := q2.getP ey
    refine ⟨⟨vs, us, v, u, .inl (.inl hc), .inl (.inl hd), hv, hu⟩, fun z H' yl => ?_⟩
    obtain ⟨T, x', y', rfl, nT, rfl, f1, f2⟩ := yl
    have z1 := f1 vs (.inl (.inl hc))
    have z2 := f2 us (.inl (.inl hd))
    rw [hv] at z1; rw [hu] at z2; cases z1; cases z2
    exact (R1.same (same_new nT)).push ⟨T, [v, u], rfl, upd_same, v, [u], rfl, isNew R1.mut iv nT, u, [], rfl, isNew R1.mut iu nT, rfl⟩
  · intro G H σ ρ pd' i s _ R1 hp
    obtain ⟨c, vs, e, n, hc, q⟩ : ∃ b vs, V.ref a = .ref b ∧ ¬ WS G σ ρ b ∧ H b = some (.lst vs) ∧ Iss K H (WS G σ ρ) ps vs := R1.pd _ (s _ h1)
    cases e
    obtain ⟨c, us, e, n, hd, q2⟩ : ∃ c vs, V.ref b = .ref c ∧ ¬ WS G σ ρ c ∧ H c = some (.lst vs) ∧ Iss K H (WS G σ ρ) qs vs := R1.pd _ (s _ h2)
    cases e
    rw [zipP_len] at hp
    exact ⟨vs, us, .inl (.inl hc), .inl (.inl hd), by rw [← q.length, ← q2.length]; omega⟩
theorem wk_zipT {K : PySem.W.Frag} {a b : Addr} {ps qs : List PV} {pd : Pds} {kp : Hp} (h1 : (PV.tup ps, V.ref a) ∈ pd) (h2 : (PV.tup qs, V.ref b) ∈ pd) : Wk K (RZ.ItzT K a b) (zipP ps qs) pd kp := by
  constructor
  · intro G H σ ρ pd' i p s _ R1 hp
    obtain ⟨c, vs, e, hc, q⟩ : ∃ b vs, V.ref a = .ref b ∧ H b = some (.tup vs) ∧ Iss K H (WS G σ ρ) ps vs := R1.pd _ (s _ h1)
    cases e
    obtain ⟨c, us, e, hd, q2⟩ : ∃ c vs, V.ref b = .ref c ∧ H c = some (.tup vs) ∧ Iss K H (WS G σ ρ) qs vs := R1.pd _ (s _ h2)
    cases e
    obtain ⟨x, y, ex, ey, rfl⟩ := zipP_get hp
    obtain ⟨v, hv, iv⟩ := q.getP ex
    obtain ⟨u, hu, iu⟩ := q2.getP ey
    refine ⟨⟨vs, us, v, u, .inl (.inl hc), .inl (.inl hd), hv, hu⟩, fun z H' yl => ?_⟩
    obtain ⟨T, x', y', rfl, nT, rfl, f1, f2⟩ := yl
    have z1 := f1 vs (.inl (.inl hc))
    have z2 := f2 us (.inl (.inl hd))
    rw [hv] at z1; rw [hu] at z2; cases z1; cases z2
    exact (R1.same (same_new nT)).push ⟨T, [v, u], rfl, upd_same, v, [u], rfl, isNew R1.mut iv nT, u, [], rfl, isNew R1.mut iu nT, rfl⟩
  · intro G H σ ρ pd' i s _ R1 hp
    obtain ⟨c, vs, e, hc, q⟩ : ∃ b vs, V.ref a = .ref b ∧ H b = some (.tup vs) ∧ Iss K H (WS G σ ρ) ps vs := R1.pd _ (s _ h1)
    cases e
    obtain ⟨c, us, e, hd, q2⟩ : ∃ c vs, V.ref b = .ref c ∧ H c = some (.tup vs) ∧ Iss K H (WS G σ ρ) qs vs := R1.pd _ (s _ h2)
    cases e
    rw [zipP_len] at hp
    exact ⟨vs, us, .inl (.inl hc), .inl (.inl hd), by rw [← q.length, ← q2.length]; omega⟩
/-- for a, b in zip(xs, ys) -/
def qZipI (t : QTA) (ρ : En) (Q : List PV → En → Prop) : Prop := t ρ fun rs ρ1 => match rs with
  | [.pv (.lst ps), .pv (.lst qs)] => Q (zipP ps qs) ρ1
  | [.pv (.tup ps), .pv (.tup qs)] => Q (zipP ps qs) ρ1
  | _ => False
theorem qi_zip (hm : X.mg "zip" = none) (ha : QA X [a, b] tr) (hg : Gl X "zip" := by rfl) (hs : starEach [a, b] X.env = (false, eval a X.env) :: starEach [b] X.env := by rfl) (hpl : (backTo pos (starEach [b] X.env)).any (·.1) = false := by rfl) : QI X (.Tuple elts kk tpos) (.Call (.Name "zip" p) [a, b] [] pos) (qZipI tr) := by
  obtain ⟨t, p1, q1⟩ := ha.ex
  refine ⟨_, RZ.pi_zipA hg hm p1 hs hpl, fun G H σ ρ pd Q F R1 hw f => ?_⟩
  refine q1 G H σ ρ pd _ _ R1 hw fun rs ρ1 pd1 vs H1 sb R2 ar g => ?_
  match rs, vs, ar, g with
  | [.pv (.lst ps), .pv (.lst qs)], [v, w], .cons h1 (.cons h2 .nil), g =>
    obtain ⟨a, us, e1, _, r1, _⟩ : ∃ a vs, v = .ref a ∧ ¬ WS G σ ρ1 a ∧ H1 a = some (.lst vs) ∧ Iss X.K H1 (WS G σ ρ1) ps vs := R2.pd _ h1
    obtain ⟨b, ws, e2, _, r2, _⟩ : ∃ a vs, w = .ref a ∧ ¬ WS G σ ρ1 a ∧ H1 a = some (.lst vs) ∧ Iss X.K H1 (WS G σ ρ1) qs vs := R2.pd _ h2
    subst e1 e2
    exact ⟨a, b, us, ws, rfl, .inl ⟨.inl (.inl r1), .inl (.inl r2), f _ _ ρ1 pd1 H1 sb R2 (wk_zipL h1 h2) g⟩⟩
  | [.pv (.tup ps), .pv (.tup qs)], [v, w], .cons h1 (.cons h2 .nil), g =>
    obtain ⟨a, us, e1, r1, _⟩ : ∃ a vs, v = .ref a ∧ H1 a = some (.tup vs) ∧ Iss X.K H1 (WS G σ ρ1) ps vs := R2.pd _ h1
    obtain ⟨b, ws, e2, r2, _⟩ : ∃ a vs, w = .ref a ∧ H1 a = some (.tup vs) ∧ Iss X.K H1 (WS G σ ρ1) qs vs := R2.pd _ h2
    subst e1 e2
    exact ⟨a, b, us, ws, rfl, .inr ⟨.inl (.inl r1), .inl (.inl r2), f _ _ ρ1 pd1 H1 sb R2 (wk_zipT h1 h2) g⟩⟩
end
end Px
namespace Px
open PySem L2 PyProof.Rows
/-- nothing in it can be changed, but itself -/
def immO : PV → Bool
  | .lst ps => imms ps
  | .dic _ ps => imms ps
  | _ => true
theorem OwnO.immO {K : PySem.W.Frag} {H : Hp} {W W' : Addr → Prop} {p : PV} {o : HO} (h : OwnO K H W p o) (i : immO p = true) : OwnO K H W' p o := by
  cases p <;> cases o <;> first
    | exact h.elim
    | exact Iss.imm _ _ i h
    | (obtain ⟨vs, e, l, kk, q⟩ := h; exact ⟨vs, e, l, kk, Iss.imm _ _ i q⟩)
    | exact h
def Bo (σ : L2.St) (bs : List Nat) (b : Addr) : Prop := ∃ j ∈ bs, σ[j]? = some (some (V.ref b))
/-- the arguments, one by one: a value, a slot's own that is looked at alone, or the j-th slot that is handed on -/
inductive SplB (σ : L2.St) (ρ : En) (pd : Pds) : List Bool → List V → List PV → List Nat → List Nat → Prop where
  | nil : SplB σ ρ pd [] [] [] [] []
  | val {fs : List Bool} {v : V} {vs : List V} {p : PV} {ps : List PV} {js bs : List Nat} (h : (p, v) ∈ pd) (t : SplB σ ρ pd fs vs ps js bs) : SplB σ ρ pd (false :: fs) (v :: vs) (p :: ps) js bs
  | bor {fs : List Bool} {v : V} {vs : List V} {p : PV} {ps : List PV} {j : Nat} {js bs : List Nat} {b : Bool} (e : ρ[j]? = some (Sl.own b p)) (h : σ[j]? = some (some v)) (t : SplB σ ρ pd fs vs ps js bs) : SplB σ ρ pd (false :: fs) (v :: vs) (p :: ps) js (j :: bs)
  | own {fs : List Bool} {v : V} {vs : List V} {p : PV} {ps : List PV} {j : Nat} {js bs : List Nat} {b : Bool} (e : ρ[j]? = some (Sl.own b p)) (h : σ[j]? = some (some v)) (t : SplB σ ρ pd fs vs ps js bs) : SplB σ ρ pd (true :: fs) (v :: vs) (p :: ps) (j :: js) bs
def splitB (ρ : En) : List Bool → List R → Option (List PV × List Nat × List Nat)
  | [], [] => some ([], [], [])
  | false :: fs, .pv p :: rs => match splitB ρ fs rs with
    | some (ps, js, bs) => some (p :: ps, js, bs)
    | none => none
  | false :: fs, .sl j :: rs => match ρ[j]?, splitB ρ fs rs with
    | some (Sl.own _ p), some (ps, js, bs) => some (p :: ps, js, j :: bs)
    | _, _ => none
  | true :: fs, .sl j :: rs => match ρ[j]?, splitB ρ fs rs with
    | some (Sl.own _ p), some (ps, js, bs) => some (p :: ps, j :: js, bs)
    | _, _ => none
  | _, _ => none
theorem splB_of {σ : L2.St} {ρ : En} {pd : Pds} : ∀ {fs : List Bool} {rs : List R} {vs : List V} {ps : List PV} {js bs : List Nat}, ArgsR σ pd rs vs → splitB ρ fs rs = some (ps, js, bs) → SplB σ ρ pd fs vs ps js bs
  | [], [], _, _, _, _, a, e => by cases a; cases e; exact .nil
  | [], _ :: _, _, _, _, _, a, e => by simp [splitB] at e
  | false :: fs, [], _, _, _, _, a, e => by simp [splitB] at e
  | true :: fs, [], _, _, _, _, a, e => by simp [splitB] at e
  | false :: fs, r :: rs, _, _, _, _, a, e => by
    cases r with
    | pv p =>
      cases a with
      | cons h t =>
        unfold splitB at e
        cases e1 : splitB ρ fs rs with
        | none => rw [e1] at e; cases e
        | some x => rw [e1] at e; cases e; exact .val h (splB_of t e1)
    | sl j =>
      cases a with
      | cons h t =>
        unfold splitB at e
        cases e2 : ρ[j]? with
        | none => rw [e2] at e; simp at e
        | some s =>
          rw [e2] at e
          cases s with
          | own b p =>
            cases e1 : splitB ρ fs rs with
            | none => rw [e1] at e; simp at e
            | some x => rw [e1] at e; cases e; exact .bor e2 h (splB_of t e1)
          | _ => simp at e
    | _ => simp [splitB] at e
  | true :: fs, r :: rs, _, _, _, _, a, e => by
    cases r with
    | sl j =>
      cases a with
      | cons h t =>
        unfold splitB at e
        cases e2 : ρ[j]? with
        | none => rw [e2] at e; simp at e
        | some s =>
          rw [e2] at e
          cases s with
          | own b p =>
            cases e1 : splitB ρ fs rs with
            | none => rw [e1] at e; simp at e
            | some x => rw [e1] at e; cases e; exact .own e2 h (splB_of t e1)
          | _ => simp at e
    | _ => simp [splitB] at e
theorem SplB.len {σ : L2.St} {ρ : En} {pd : Pds} {fs : List Bool} {vs : List V} {ps : List PV} {js bs : List Nat} (s : SplB σ ρ pd fs vs ps js bs) : vs.length = fs.length ∧ ps.length = fs.length ∧ js.length = (fs.filter id).length := by
  induction s with
  | nil => exact ⟨rfl, rfl, rfl⟩
  | val _ _ ih => exact ⟨by simp [ih.1], by simp [ih.2.1], by simp [ih.2.2]⟩
  | bor _ _ _ ih => exact ⟨by simp [ih.1], by simp [ih.2.1], by simp [ih.2.2]⟩
  | own _ _ _ ih => exact ⟨by simp [ih.1], by simp [ih.2.1], by simp [ih.2.2]⟩
theorem SplB.get {σ : L2.St} {ρ : En} {pd : Pds} {fs : List Bool} {vs : List V} {ps : List PV} {js bs : List Nat} (s : SplB σ ρ pd fs vs ps js bs) : ∀ {i : Nat} {b : Bool} {p : PV}, fs[i]? = some b → ps[i]? = some p → ∃ v, vs[i]? = some v ∧
    (b = false → (p, v) ∈ pd ∨ ∃ (j : Nat) (c : Bool), j ∈ bs ∧ ρ[j]? = some (Sl.own c p) ∧ σ[j]? = some (some v)) ∧ (b = true → ∃ (j : Nat) (c : Bool), j ∈ js ∧ ρ[j]? = some (Sl.own c p) ∧ σ[j]? = some (some v)) := by
  induction s with
  | nil => intro i b p e; simp at e
  | val h t ih =>
    intro i b p e1 e2
    cases i with
    | zero => cases e1; cases e2; exact ⟨_, rfl, fun _ => .inl h, (fun z => nomatch z)⟩
    | succ i => simpa using ih (i := i) (by simpa using e1) (by simpa using e2)
  | bor e h t ih =>
    intro i b p e1 e2
    cases i with
    | zero => cases e1; cases e2; exact ⟨_, rfl, fun _ => .inr ⟨_, _, List.mem_cons_self, e, h⟩, (fun z => nomatch z)⟩
    | succ i =>
      obtain ⟨v, h1, h2, h3⟩ := ih (i := i) (by simpa using e1) (by simpa using e2)
      refine ⟨v, by simpa using h1, fun z => ?_, h3⟩
      rcases h2 z with h2 | ⟨j, c, m, r⟩
      · exact .inl h2
      · exact .inr ⟨j, c, List.mem_cons_of_mem _ m, r⟩
  | own e h t ih =>
    intro i b p e1 e2
    cases i with
    | zero => cases e1; cases e2; exact ⟨_, rfl, (fun z => nomatch z), fun _ => ⟨_, _, List.mem_cons_self, e, h⟩⟩
    | succ i =>
      obtain ⟨v, h1, h2, h3⟩ := ih (i := i) (by simpa using e1) (by simpa using e2)
      exact ⟨v, by simpa using h1, h2, fun z => let ⟨j, c, m, r⟩ := h3 z; ⟨j, c, List.mem_cons_of_mem _ m, r⟩⟩
/-- the k-th owned slot and its parameter -/
theorem SplB.io {σ : L2.St} {ρ : En} {pd : Pds} {fs : List Bool} {vs : List V} {ps : List PV} {js bs : List Nat} (s : SplB σ ρ pd fs vs ps js bs) : ∀ {outs : List PV} {k j : Nat} {q : PV}, js[k]? = some j → outs[k]? = some q → ∃ (i : Nat) (v : V), fs[i]? = some true ∧ vs[i]? = some v ∧ σ[j]? = some (some v) ∧ (sel fs outs)[i]? = some (some q) := by
  induction s with
  | nil => intro outs k j q e; simp at e
  | val h t ih =>
    intro outs k j q e1 e2
    obtain ⟨i, v, h1, h2, h3, h4⟩ := ih e1 e2
    exact ⟨i + 1, v, by simpa using h1, by simpa using h2, h3, by simpa [sel] using h4⟩
  | bor _ h t ih =>
    intro outs k j q e1 e2
    obtain ⟨i, v, h1, h2, h3, h4⟩ := ih e1 e2
    exact ⟨i + 1, v, by simpa using h1, by simpa using h2, h3, by simpa [sel] using h4⟩
  | own e h t ih =>
    intro outs k j q e1 e2
    cases outs with
    | nil => simp at e2
    | cons o outs =>
      cases k with
      | zero => cases e1; cases e2; exact ⟨0, _, rfl, rfl, h, rfl⟩
      | succ k =>
        obtain ⟨i, v, h1, h2, h3, h4⟩ := ih (outs := outs) (k := k) (by simpa using e1) (by simpa using e2)
        exact ⟨i + 1, v, by simpa using h1, by simpa using h2, h3, by simpa [sel] using h4⟩
theorem SplB.js {σ : L2.St} {ρ : En} {pd : Pds} {fs : List Bool} {vs : List V} {ps : List PV} {js bs : List Nat} (s : SplB σ ρ pd fs vs ps js bs) : ∀ j ∈ js, ∃ b p, ρ[j]? = some (Sl.own b p) := by
  induction s with
  | nil => intro j hj; simp at hj
  | val _ _ ih => exact ih
  | bor _ _ _ ih => exact ih
  | own e _ _ ih =>
    intro j hj
    rcases List.mem_cons.mp hj with rfl | hj
    · exact ⟨_, _, e⟩
    · exact ih j hj
theorem SplB.bsOwn {σ : L2.St} {ρ : En} {pd : Pds} {fs : List Bool} {vs : List V} {ps : List PV} {js bs : List Nat} (s : SplB σ ρ pd fs vs ps js bs) : ∀ j ∈ bs, ∃ b p, ρ[j]? = some (Sl.own b p) := by
  induction s with
  | nil => intro j hj; simp at hj
  | val _ _ ih => exact ih
  | own _ _ _ ih => exact ih
  | bor e _ _ ih =>
    intro j hj
    rcases List.mem_cons.mp hj with rfl | hj
    · exact ⟨_, _, e⟩
    · exact ih j hj
/-- slot and place apart -/
theorem SplB.same {K : PySem.W.Frag} {G : Gd} {H : Hp} {σ : L2.St} {ρ : En} {pd pd0 : Pds} (R1 : RE K G H σ ρ pd0) {fs : List Bool} {vs : List V} {ps : List PV} {js bs : List Nat} (s : SplB σ ρ pd fs vs ps js bs) (nd : js.Nodup) : ∀ {i j : Nat} {a : Addr}, fs[i]? = some true → fs[j]? = some true → vs[i]? = some (V.ref a) → vs[j]? = some (V.ref a) → i = j := by
  induction s with
  | nil => intro i j a e; simp at e
  | val h t ih =>
    intro i j a e1 e2 e3 e4
    cases i with
    | zero => simp at e1
    | succ i =>
      cases j with
      | zero => simp at e2
      | succ j => rw [ih nd (i := i) (j := j) (by simpa using e1) (by simpa using e2) (by simpa using e3) (by simpa using e4)]
  | bor _ h t ih =>
    intro i j a e1 e2 e3 e4
    cases i with
    | zero => simp at e1
    | succ i =>
      cases j with
      | zero => simp at e2
      | succ j => rw [ih nd (i := i) (j := j) (by simpa using e1) (by simpa using e2) (by simpa using e3) (by simpa using e4)]
  | @own fs v vs p ps m js bs b e h t ih =>
    intro i j a e1 e2 e3 e4
    have back : ∀ {i : Nat} {a : Addr}, fs[i]? = some true → vs[i]? = some (V.ref a) → v = .ref a → False := fun {i a} f1 f2 f3 => by
      obtain ⟨l1, l2, _⟩ := t.len
      have li : i < ps.length := by rw [l2]; exact (List.getElem?_eq_some_iff.mp f1).1
      obtain ⟨v', g1, _, g2⟩ := t.get f1 (List.getElem?_eq_getElem li)
      obtain ⟨j', c, mj, g3, g4⟩ := g2 rfl
      rw [f2] at g1; cases g1
      subst f3
      have z := R1.inj m j' b c _ _ a e g3 h g4
      exact (List.nodup_cons.mp nd).1 (by rw [z]; exact mj)
    cases i with
    | zero =>
      cases j with
      | zero => rfl
      | succ j =>
        simp at e3
        exact (back (by simpa using e2) (by simpa using e4) e3).elim
    | succ i =>
      cases j with
      | zero =>
        simp at e4
        exact (back (by simpa using e1) (by simpa using e3) e4).elim
      | succ j => rw [ih (List.nodup_cons.mp nd).2 (i := i) (j := j) (by simpa using e1) (by simpa using e2) (by simpa using e3) (by simpa using e4)]
section
variable {K : PySem.W.Frag} {G : Gd} {H H' : Hp} {σ : L2.St} {ρ : En} {pd : Pds} {S : FS} {vs : List V} {ps : List PV} {js bs : List Nat}
/-- the callee's start -/
theorem callB_start (R1 : RE K G H σ ρ pd) (s : SplB σ ρ pd S.io vs ps js bs) (nd : js.Nodup) (dj : ∀ j ∈ bs, j ∉ js) : RE K (G0 H S.io vs (fun b => WS G σ ρ b ∧ ¬ Iob S.io vs b ∧ ¬ Bo σ bs b) G.vo) H (vs.map some) (mk S.io ps) [] ∧ ∀ b, Iob S.io vs b → WS G σ ρ b := by
  obtain ⟨l1, l2, l3⟩ := s.len
  have iob : ∀ b, Iob S.io vs b → WS G σ ρ b := fun b ⟨i, e1, e2⟩ => by
    have li : i < ps.length := by rw [l2]; exact (List.getElem?_eq_some_iff.mp e1).1
    obtain ⟨v, g1, _, g2⟩ := s.get e1 (List.getElem?_eq_getElem li)
    obtain ⟨j, c, mj, g3, g4⟩ := g2 rfl
    rw [e2] at g1; cases g1
    exact .inr ⟨j, c, _, g3, g4⟩
  have sub : ∀ b, WS (G0 H S.io vs (fun b => WS G σ ρ b ∧ ¬ Iob S.io vs b ∧ ¬ Bo σ bs b) G.vo) (vs.map some) (mk S.io ps) b → WS G σ ρ b := fun b w => by
    rcases w with w | ⟨i, c, p, e1, e2⟩
    · exact w.1
    · obtain ⟨f1, f2, rfl⟩ := mk_own e1
      refine iob b ⟨i, f1, ?_⟩
      rw [List.getElem?_map] at e2
      cases e : vs[i]? with
      | none => rw [e] at e2; simp at e2
      | some v => rw [e] at e2; simp at e2; rw [e2]
  have vget : ∀ {i : Nat} {v : V}, vs[i]? = some v → (vs.map some)[i]? = some (some v) := fun {i v} e => by rw [List.getElem?_map, e]; rfl
  have vback : ∀ {i : Nat} {v : V}, (vs.map some)[i]? = some (some v) → vs[i]? = some v := fun {i v} e => by
    rw [List.getElem?_map] at e
    cases q : vs[i]? with
    | none => rw [q] at e; simp at e
    | some u => rw [q] at e; simp at e; rw [e]
  refine ⟨⟨?_, fun i p e => ?_, fun i b p e => ?_, fun i j b c p q a e1 e2 e3 e4 => ?_, fun i a h => ?_, fun b o e => ?_, fun b h hv => ?_, fun x hx => by simp at hx, ⟨fun b h => ?_, fun i b p a e1 e2 => ?_, fun i b c z e1 => ?_⟩⟩, iob⟩
  · unfold mk; rw [List.length_zipWith, List.length_map, l1, l2]; simp
  · obtain ⟨f1, f2⟩ := mk_val e
    obtain ⟨v, g1, g2, _⟩ := s.get f1 f2
    rcases g2 rfl with g2 | ⟨j, c, mj, g3, g4⟩
    · exact ⟨v, vget g1, Is.anti sub _ _ (R1.pd _ g2)⟩
    · obtain ⟨a, h1, h2, o, h3, w⟩ := R1.own j c p g3
      rw [g4] at h1; cases h1
      refine ⟨_, vget g1, w.is h3 sub fun w' => ?_⟩
      rcases w' with w' | ⟨m, d, q, e1, e2⟩
      · exact w'.2.2 ⟨j, mj, g4⟩
      · obtain ⟨f1, f2, _⟩ := mk_own e1
        obtain ⟨v', k1, _, k2⟩ := s.get f1 f2
        obtain ⟨j', c', mj', k3, k4⟩ := k2 rfl
        have e3 := vback e2
        rw [k1] at e3; cases e3
        exact dj j mj (by rw [R1.inj j j' c c' _ _ _ g3 k3 g4 k4]; exact mj')
  · obtain ⟨f1, f2, rfl⟩ := mk_own e
    obtain ⟨v, g1, _, g2⟩ := s.get f1 f2
    obtain ⟨j, c, mj, g3, g4⟩ := g2 rfl
    obtain ⟨a, h1, h2, o, h3, w⟩ := R1.own j c p g3
    rw [g4] at h1; cases h1
    exact ⟨a, vget g1, G0_no ⟨i, f1, g1⟩, o, h3, w.anti sub⟩
  · obtain ⟨f1, _, _⟩ := mk_own e1
    obtain ⟨f2, _, _⟩ := mk_own e2
    exact s.same R1 nd f1 f2 (vback e3) (vback e4)
  · have li : i < ps.length := by rw [l2]; exact (List.getElem?_eq_some_iff.mp h.1).1
    exact ⟨vget h.2, ps[i], by rw [mk_at h.1 (List.getElem?_eq_getElem li)]; simp⟩
  · exact (G0_of e).2.2
  · have m := R1.mut b h.1
    obtain ⟨o, e⟩ := R1.there h.1
    exact ⟨o, (G0_yes h.2.1 hv).trans e, by rw [e] at m; exact m⟩
  · obtain ⟨h1, h2, h3⟩ := R1.ext.vo b h
    refine ⟨⟨.inl h1, fun ⟨i, e1, e2⟩ => ?_, fun ⟨j, mj, e2⟩ => ?_⟩, G0_vo h, h3⟩
    · have li : i < ps.length := by rw [l2]; exact (List.getElem?_eq_some_iff.mp e1).1
      obtain ⟨v, g1, _, g2⟩ := s.get e1 (List.getElem?_eq_getElem li)
      obtain ⟨j, c, mj, g3, g4⟩ := g2 rfl
      rw [e2] at g1; cases g1
      exact R1.ext.off j c _ b g3 g4 h
    · obtain ⟨c, p, e3⟩ := s.bsOwn j mj
      exact R1.ext.off j c p b e3 e2 h
  · obtain ⟨f1, f2, rfl⟩ := mk_own e1
    obtain ⟨v, g1, _, g2⟩ := s.get f1 f2
    obtain ⟨j, c, mj, g3, g4⟩ := g2 rfl
    have e3 := vback e2
    rw [g1] at e3; cases e3
    exact R1.ext.off j c _ a g3 g4
  · obtain ⟨f1, f2, rfl⟩ := mk_own e1
    obtain ⟨v, g1, _, g2⟩ := s.get f1 f2
    obtain ⟨j, d, mj, g3, g4⟩ := g2 rfl
    exact R1.ext.nst j d c z g3
/-- behind it -/
theorem callB_end {pd0 : Pds} {v : V} {r : PV} {outs : List PV} (R1 : RE K G H σ ρ pd) (sb : ∀ x ∈ pd0, x ∈ pd) (s : SplB σ ρ pd S.io vs ps js bs) (nd : js.Nodup) (dj : ∀ j ∈ bs, j ∉ js) (iob : ∀ b, Iob S.io vs b → WS G σ ρ b) (lo : outs.length = js.length) (hf : S.fr = false) (ir : imm r = true) (io : ∀ q ∈ outs, immO q = true)
    (fin : Fin K S H (fun b => WS G σ ρ b ∧ ¬ Iob S.io vs b ∧ ¬ Bo σ bs b) G.vo vs v H' r outs) : Res K G H' σ (putOuts js outs ρ) pd0 (.pv r) v := by
  have jo := s.js
  obtain ⟨p1, p2, p3⟩ := putOuts_spec (ρ := ρ) nd lo jo
  have A : Alike ρ (putOuts js outs ρ) := by
    refine ⟨p1, fun i => ?_⟩
    by_cases hi : i ∈ js
    · obtain ⟨k, lk, e⟩ := List.getElem_of_mem hi
      have lk' : k < outs.length := by rw [lo]; exact lk
      obtain ⟨b, p, h1, h2⟩ := p3 k i outs[k] (by rw [List.getElem?_eq_getElem lk, e]) (List.getElem?_eq_getElem lk')
      exact .inr ⟨b, p, _, h1, h2⟩
    · exact .inl (p2 i hi)
  -- an owned slot that is no argument: its object stands
  have stay : ∀ (i : Nat) (b : Bool) (q : PV) (a : Addr), i ∉ js → ρ[i]? = some (Sl.own b q) → σ[i]? = some (some (V.ref a)) → ¬ Iob S.io vs a := fun i b q a hi e1 e2 ⟨m, f1, f2⟩ => by
    obtain ⟨_, l2, _⟩ := s.len
    have lm : m < ps.length := by rw [l2]; exact (List.getElem?_eq_some_iff.mp f1).1
    obtain ⟨v', g1, _, g2⟩ := s.get f1 (List.getElem?_eq_getElem lm)
    obtain ⟨j, c, mj, g3, g4⟩ := g2 rfl
    rw [f2] at g1; cases g1
    exact hi (by rw [R1.inj i j b c q _ a e1 g3 e2 g4]; exact mj)
  have keepG : ∀ b o, G.keep b = some o → H' b = some o := fun b o e => by
    refine fin.keep b o (R1.keep b o e) (fun z => ?_) fun z => by rw [(R1.ext.vo b z).2.1] at e; cases e
    rcases iob b z with w | ⟨i, c, p, e1, e2⟩
    · obtain ⟨m, f1, f2⟩ := z
      obtain ⟨_, l2, _⟩ := s.len
      have lm : m < ps.length := by rw [l2]; exact (List.getElem?_eq_some_iff.mp f1).1
      obtain ⟨v', g1, _, g2⟩ := s.get f1 (List.getElem?_eq_getElem lm)
      obtain ⟨j, c, mj, g3, g4⟩ := g2 rfl
      rw [f2] at g1; cases g1
      obtain ⟨a, h1, h2, _⟩ := R1.own j c _ g3
      rw [g4] at h1; cases h1
      rw [h2] at e; cases e
    · obtain ⟨a, h1, h2, _⟩ := R1.own i c p e1
      rw [e2] at h1; cases h1
      rw [h2] at e; cases e
  have hn : ∀ (i : Nat) (b : Bool) (c : Nat) (z : Int), (putOuts js outs ρ)[i]? = some (Sl.own b (.nst false c z)) → G.vo c := fun i b c z e1 => by
    by_cases hi : i ∈ js
    · obtain ⟨k, lk, e⟩ := List.getElem_of_mem hi
      have lk' : k < outs.length := by rw [lo]; exact lk
      have ek : js[k]? = some i := by rw [List.getElem?_eq_getElem lk, e]
      have eo : outs[k]? = some outs[k] := List.getElem?_eq_getElem lk'
      obtain ⟨b', p, h1, h2⟩ := p3 k i outs[k] ek eo
      rw [e1] at h2
      injection h2 with h2
      injection h2 with _ h3
      obtain ⟨m, v', g1, g2, g3, g4⟩ := s.io ek eo
      exact fin.nstk m c z (by rw [h3]; exact g4)
    · rw [p2 i hi] at e1
      exact R1.ext.nst i b c z e1
  have R2 : RE K G H' σ (putOuts js outs ρ) pd := by
    refine R1.swap A (fun b o e n => fin.keep b o e (fun z => n (iob b z)) fun z => n (.inl (R1.ext.vo b z).1)) keepG (fun i b q a e1 e2 => ?_) fin.vok hn
    by_cases hi : i ∈ js
    · obtain ⟨k, lk, e⟩ := List.getElem_of_mem hi
      have lk' : k < outs.length := by rw [lo]; exact lk
      have ek : js[k]? = some i := by rw [List.getElem?_eq_getElem lk, e]
      have eo : outs[k]? = some outs[k] := List.getElem?_eq_getElem lk'
      obtain ⟨b', p, h1, h2⟩ := p3 k i outs[k] ek eo
      rw [e1] at h2; cases h2
      obtain ⟨m, v', g1, g2, g3, g4⟩ := s.io ek eo
      rw [e2] at g3; cases g3
      obtain ⟨o, ho, w⟩ := fin.outs m _ a g4 g2
      exact ⟨o, ho, w.immO (io _ (List.getElem_mem lk'))⟩
    · rw [p2 i hi] at e1
      obtain ⟨c, f1, f2, o, f3, w⟩ := R1.own i b q e1
      rw [e2] at f1; cases f1
      exact ⟨o, fin.keep a o f3 (stay i b q a hi e1 e2) (R1.ext.off i b q a e1 e2), w.move (fun b o e n => fin.keep b o e (fun z => n (iob b z)) fun z => n (.inl (R1.ext.vo b z).1)) R1.mut fun _ _ w => w⟩
  exact (R2.push (Is.imm _ _ ir (fin.res hf))).pds fun x hx => by
    rcases List.mem_cons.mp hx with e | hx
    · rw [e]; exact List.mem_cons_self
    · exact List.mem_cons_of_mem _ (sb x hx)
end
/-- a call: own things of the caller may be looked at where a value is asked for; then nothing that could hold them may come back -/
def callRB (S : FS) (rs : List R) (ρ1 : En) (Q : PK1) (_ : Dum Q) : Prop := match splitB ρ1 S.io rs with
  | some (ps, js, []) => js.Nodup ∧ S.pre ps ∧ ∀ r outs, S.post ps r outs → outs.length = js.length → Q (if S.fr = true then .fr r else .pv r) (putOuts js outs ρ1)
  | some (ps, js, bs) => (js.Nodup ∧ (∀ j ∈ bs, j ∉ js) ∧ S.fr = false) ∧ S.pre ps ∧ ∀ r outs, S.post ps r outs → outs.length = js.length → (imm r = true ∧ ∀ q ∈ outs, immO q = true) ∧ Q (.pv r) (putOuts js outs ρ1)
  | none => False
theorem SplB.plain {σ : L2.St} {ρ : En} {pd : Pds} {fs : List Bool} {vs : List V} {ps : List PV} {js bs : List Nat} (s : SplB σ ρ pd fs vs ps js bs) (h : bs = []) : Spl σ ρ pd fs vs ps js := by
  induction s with
  | nil => exact .nil
  | val h1 t ih => exact .val h1 (ih h)
  | bor _ _ _ _ => cases h
  | own e h1 t ih => exact .own e h1 (ih h)
def qCallB (S : FS) (ta : QTA) (ρ : En) (Q : PK1) : Prop := ta ρ fun rs ρ1 => callRB S rs ρ1 Q .mk
section
variable {X : Cx} {k j : Nat} {x : Str} {ps : List Str} {S : FS} {e : Expr} {es : List Expr} {t : QTA} {p pos : Pos}
theorem rz_callB {K : PySem.W.Frag} {ta : TA} {E : XK} (q : RzA K ta t) : Rz K (tCall (spP K S) [] E ta) (qCallB S t) := by
  intro G H σ ρ pd Q F R1 h ff
  refine q G H σ ρ pd _ _ R1 h fun rs ρ1 pd1 vs H1 sb R2 ar g => ?_
  unfold callRB at g
  cases es : splitB ρ1 S.io rs with
  | none => rw [es] at g; exact g.elim
  | some z =>
    obtain ⟨pvs, js, bs⟩ := z
    rw [es] at g
    have s := splB_of ar es
    show spP K S (vs ++ []) H1 F E
    rw [List.append_nil]
    cases bs with
    | nil =>
      obtain ⟨nd, pre, post⟩ := g
      have s' := s.plain rfl
      obtain ⟨R3, iob⟩ := call_start R2 s' nd
      obtain ⟨l1, l2, l3⟩ := s'.len
      refine ⟨pvs, _, _, l2, l1, R3, pre, fun v H' r outs hp lo fin => ?_⟩
      exact ff _ _ v H' (call_end R2 sb s' nd iob (lo.trans l3.symm) fin) (post r outs hp (lo.trans l3.symm))
    | cons b0 bs =>
      obtain ⟨⟨nd, dj, hf⟩, pre, post⟩ := g
      obtain ⟨R3, iob⟩ := callB_start R2 s nd dj
      obtain ⟨l1, l2, l3⟩ := s.len
      refine ⟨pvs, _, _, l2, l1, R3, pre, fun v H' r outs hp lo fin => ?_⟩
      obtain ⟨⟨ir, io⟩, hq⟩ := post r outs hp (lo.trans l3.symm)
      exact ff _ _ v H' (callB_end R2 sb s nd dj iob (lo.trans l3.symm) hf ir io fin) hq
theorem qe_callHB (h : Has X.prog X.w X.K X.mg X.base x j ps S) (hr : Room j X.A) (ha : QA X (e :: es) t) (hg : Gl X x := by rfl) (hdb : (x == ("__debug__" : Str)) = false := by decide)
    (he : starEach (e :: es) X.env = (false, eval e X.env) :: starEach es X.env := by rfl) (hpl : (backTo pos (starEach es X.env)).any (·.1) = false := by rfl) : QE X (.Call (.Name x p) (e :: es) [] pos) (qCallB S t) := by
  obtain ⟨f, fd, F, m, kk, b, _⟩ := h.ex
  obtain ⟨ta, p1, q⟩ := ha.ex
  exact ⟨_, pe_call F hr hg m kk b .nil pass0 p1 hdb he hpl, rz_callB q⟩
end
end Px
namespace Px
open PySem L2 PySem.Spec PyProof.Rows
/-! ### == of dicts whose values are plain data -/
def hitsP (ls : List Key) (qs : List PV) : List Key → List PV → Bool
  | k :: ks, p :: ps => match getD ls qs k with
    | some q => peq p q && hitsP ls qs ks ps
    | none => false
  | _, _ => true
def eqDic (ks : List Key) (ps : List PV) (ls : List Key) (qs : List PV) : Bool := ks.length == ls.length && hitsP ls qs ks ps
theorem getD_mem {α : Type} : ∀ {ks : List Key} {ps : List α} {j : Key} {p : α}, getD ks ps j = some p → p ∈ ps
  | [], _, _, _, e => by cases e
  | _ :: _, [], _, _, e => by cases e
  | k :: ks, q :: ps, j, p, e => by
    rw [getD] at e
    split at e
    · cases e; exact List.mem_cons_self
    · exact List.mem_cons_of_mem _ (getD_mem e)
theorem plains_mem {ps : List PV} (h : plains ps = true) : ∀ p ∈ ps, plain p = true := by
  induction ps with
  | nil => intro p hp; cases hp
  | cons q ps ih =>
    rw [plains, Bool.and_eq_true] at h
    intro p hp
    rcases List.mem_cons.mp hp with rfl | hp
    · exact h.1
    · exact ih h.2 p hp
theorem deps_mem {ps : List PV} : ∀ p ∈ ps, dep p ≤ deps ps := by
  induction ps with
  | nil => intro p hp; cases hp
  | cons q ps ih =>
    intro p hp
    rw [deps]
    rcases List.mem_cons.mp hp with rfl | hp
    · omega
    · have := ih p hp; omega
/-- data of more depth, for == -/
def eqOkW (p : PV) : Prop := plain p = true ∧ dep p ≤ 190
theorem eqOkW_str (s : Str) : eqOkW (.str s) = True := eq_true ⟨rfl, Nat.zero_le _⟩
theorem eqOkW_int (i : Int) : eqOkW (.int i) = True := eq_true ⟨rfl, Nat.zero_le _⟩
theorem eqOkW_non : eqOkW .non = True := eq_true ⟨rfl, Nat.zero_le _⟩
theorem eqOkW_bl (b : Bool) : eqOkW (.bl b) = True := eq_true ⟨rfl, Nat.zero_le _⟩
def gEqW (p : PV) (q : PV) (Q : R → Prop) : Prop := eqOkW p ∧ eqOkW q ∧ Q (.pv (.bl (peq p q)))
def gNeW (p : PV) (q : PV) (Q : R → Prop) : Prop := eqOkW p ∧ eqOkW q ∧ Q (.pv (.bl (!peq p q)))
section
variable {X : Cx}
def rEqL (K : PySem.W.Frag) (neg : Bool) : R2 := fun x y H Q => ∃ d e, Dp K H x d ∧ Dp K H y e ∧ (d.canLay0 = true ∧ d.depth ≤ 190) ∧ (e.canLay0 = true ∧ e.depth ≤ 190) ∧ Q (.bl (neg != PyData.eqv d e)) H
theorem op_eqL (hu : X.A.units + 190 < cLine) : OpR X (compareOp .Eq) (rEqL X.K false) := by
  intro pins s σ H x y v u Q I rx ry h
  obtain ⟨d, e, hd, he, sd, se, q⟩ := h
  obtain ⟨as, r1⟩ := Dp.reads I d x v hd rx
  obtain ⟨bs, r2⟩ := Dp.reads I e y u he ry
  refine SeqAt.compareEq_reads r1 r2 sd.1 se.1 (by have := Nat.min_le_left d.depth e.depth; have := sd.2; omega) ⟨.bl _, H, I, rfl, ?_⟩
  cases h : PyData.eqv d e <;> rw [h] at q <;> exact q
theorem op_neL (hu : X.A.units + 190 < cLine) : OpR X (compareOp .NotEq) (rEqL X.K true) := by
  intro pins s σ H x y v u Q I rx ry h
  obtain ⟨d, e, hd, he, sd, se, q⟩ := h
  obtain ⟨as, r1⟩ := Dp.reads I d x v hd rx
  obtain ⟨bs, r2⟩ := Dp.reads I e y u he ry
  refine SeqAt.compareNe_reads r1 r2 sd.1 se.1 (by have := Nat.min_le_left d.depth e.depth; have := sd.2; omega) ⟨.bl _, H, I, rfl, ?_⟩
  cases h : PyData.eqv d e <;> rw [h] at q <;> exact q
theorem op_eqW (hu : X.A.units + 190 < cLine) : OpP X (compareOp .Eq) gEqW := by
  refine ⟨_, op_eqL hu, fun H W p q x y Q F m l1 l2 z f => ?_⟩
  obtain ⟨h1, h2, h3⟩ := z
  obtain ⟨d1, c1, z1⟩ := lk_dp h1.1 l1
  obtain ⟨d2, c2, z2⟩ := lk_dp h2.1 l2
  refine ⟨_, _, d1, d2, ⟨c1, by rw [z1]; exact h1.2⟩, ⟨c2, by rw [z2]; exact h2.2⟩, fin1 f (p := .bl _) rfl ?_⟩
  show Q (.pv (.bl (false != peq p q)))
  cases h : peq p q <;> rw [h] at h3 <;> exact h3
theorem op_neW (hu : X.A.units + 190 < cLine) : OpP X (compareOp .NotEq) gNeW := by
  refine ⟨_, op_neL hu, fun H W p q x y Q F m l1 l2 z f => ?_⟩
  obtain ⟨h1, h2, h3⟩ := z
  obtain ⟨d1, c1, z1⟩ := lk_dp h1.1 l1
  obtain ⟨d2, c2, z2⟩ := lk_dp h2.1 l2
  refine ⟨_, _, d1, d2, ⟨c1, by rw [z1]; exact h1.2⟩, ⟨c2, by rw [z2]; exact h2.2⟩, fin1 f (p := .bl _) rfl ?_⟩
  show Q (.pv (.bl (true != peq p q)))
  cases h : peq p q <;> rw [h] at h3 <;> exact h3
end
theorem room191 {k : Nat} {A : Around} (hr : Room k A) : A.units + 191 < cLine := by have := hr.un; omega
section
variable {X : Cx} {pins : List (Addr × Obj)} {σ : L2.St} {H : Hp} {s : Shared}
theorem hits_of (I : Inv X pins σ H s) {A : Around} (hu : A.units + 190 < cLine) {W : Addr → Prop} {ls : List Key} {qs : List PV} {us : List V} {vb : List (Key × Value)} (rb : KV (ls.zip us) vb) (lb : ls.length = us.length) (iq : Iss X.K H W qs us) (oq : plains qs = true ∧ deps qs ≤ 190) :
    ∀ {ks : List Key} {ps : List PV} {vs : List V} {va : List (Key × Value)}, KV (ks.zip vs) va → ks.length = vs.length → Iss X.K H W ps vs → plains ps = true → deps ps ≤ 190 → PySem.W.KeqHits A s vb va (hitsP ls qs ks ps)
  | [], ps, vs, va, ra, le, ip, _, _ => by
    have : va = [] := by
      have := ra.length
      simp at this
      exact List.length_eq_zero_iff.mp this.symm
    subst this
    unfold hitsP
    exact .nil
  | k :: ks, [], vs, va, ra, le, ip, _, _ => by
    cases (show vs = [] from ip)
    simp at le
  | k :: ks, p :: ps, vs, va, ra, le, ip, pl, dp => by
    obtain ⟨v, r, e1, i1, i2⟩ := ip
    subst e1
    have ra' : Paired (fun (p : Key × V) (q : Key × Value) => p.1 = q.1 ∧ RelV p.2 q.2) ((k, v) :: ks.zip r) va := ra
    cases ra' with
    | @cons x y xs ys h t =>
      obtain ⟨h1, h2⟩ := h
      obtain ⟨yk, yv⟩ := y
      have h1' : k = yk := h1
      subst h1'
      rw [plains, Bool.and_eq_true] at pl
      rw [deps] at dp
      have ih := hits_of I hu rb lb iq oq (ks := ks) (ps := ps) (vs := r) (va := ys) t (by simpa using le) i2 pl.2 (by omega)
      have rr := rb.val k
      rw [getD_val lb] at rr
      unfold hitsP
      cases eg : getD ls qs k with
      | none =>
        rw [getD_no iq eg] at rr
        refine .miss ?_
        cases e : valueAt vb k with
        | none => rfl
        | some z => rw [e] at rr; cases rr
      | some q =>
        obtain ⟨w, ew, iw⟩ := getD_is iq eg
        rw [ew] at rr
        obtain ⟨z, ez, rz⟩ := rr.some_of
        have mq := getD_mem eg
        obtain ⟨d1, c1, z1⟩ := dp_of p v pl.1 i1
        obtain ⟨d2, c2, z2⟩ := dp_of q w (plains_mem oq.1 q mq) iw
        obtain ⟨as, r1⟩ := Dp.reads I _ v yv d1 h2
        obtain ⟨bs, r2⟩ := Dp.reads I _ w z d2 rz
        have l1 : dep p ≤ 190 := by omega
        refine .hit ez (SeqAt.eqAt_reads _ _ A s yv z as bs r1 r2 c1 c2 ?_) ih
        rw [z1]
        have := Nat.min_le_left (dep p) (toD q).depth
        omega
theorem eqD_run (hu : X.A.units + 191 < cLine) (I : Inv X pins σ H s) {W : Addr → Prop} {ks ls : List Key} {ps qs : List PV} {a b : Addr} {vs us : List V} (ra : Rd H a (.dK (ks.zip vs))) (la : ks.length = vs.length) (ia : Iss X.K H W ps vs) (rb : Rd H b (.dK (ls.zip us))) (lb : ls.length = us.length) (ib : Iss X.K H W qs us)
    (o1 : plains ps = true ∧ deps ps ≤ 190) (o2 : plains qs = true ∧ deps qs ≤ 190) {Q : VK} (q1 : Q (.bl (eqDic ks ps ls qs)) H) :
    wpAny (model X.prog X.w) X.A (compareOp .Eq (.ref a) (.ref b)) (EP X pins σ Q) X.xe s := by
  obtain ⟨_, ya, va, kva, da⟩ := dk_rd I.hok ra
  obtain ⟨_, yb, vb, kvb, db⟩ := dk_rd I.hok rb
  refine PySem.W.keq_eq (knd := mixKind X.prog X.w) (r := hitsP ls qs ks ps) ya yb da db (by omega) (fun _ => hits_of I (by show X.A.units + 1 + 190 < cLine; omega) kvb lb ib o2 kva la ia o1.1 o1.2) ⟨.bl _, H, I, rfl, ?_⟩
  rw [← kva.length, ← kvb.length, zip_len la, zip_len lb]; exact q1
theorem neD_run (hu : X.A.units + 191 < cLine) (I : Inv X pins σ H s) {W : Addr → Prop} {ks ls : List Key} {ps qs : List PV} {a b : Addr} {vs us : List V} (ra : Rd H a (.dK (ks.zip vs))) (la : ks.length = vs.length) (ia : Iss X.K H W ps vs) (rb : Rd H b (.dK (ls.zip us))) (lb : ls.length = us.length) (ib : Iss X.K H W qs us)
    (o1 : plains ps = true ∧ deps ps ≤ 190) (o2 : plains qs = true ∧ deps qs ≤ 190) {Q : VK} (q1 : Q (.bl (!eqDic ks ps ls qs)) H) :
    wpAny (model X.prog X.w) X.A (compareOp .NotEq (.ref a) (.ref b)) (EP X pins σ Q) X.xe s := by
  obtain ⟨_, ya, va, kva, da⟩ := dk_rd I.hok ra
  obtain ⟨_, yb, vb, kvb, db⟩ := dk_rd I.hok rb
  refine PySem.W.keq_ne (knd := mixKind X.prog X.w) (r := hitsP ls qs ks ps) ya yb da db (by omega) (fun _ => hits_of I (by show X.A.units + 1 + 190 < cLine; omega) kvb lb ib o2 kva la ia o1.1 o1.2) ⟨.bl _, H, I, rfl, ?_⟩
  rw [← kva.length, ← kvb.length, zip_len la, zip_len lb]; exact q1
end
section
variable {X : Cx}
def rEqDic (X : Cx) (neg : Bool) : R2 := fun x y H Q => ∃ (W : Addr → Prop) (ks ls : List Key) (ps qs : List PV) (a b : Addr) (vs us : List V), x = .ref a ∧ y = .ref b ∧ Rd H a (.dK (ks.zip vs)) ∧ ks.length = vs.length ∧ Iss X.K H W ps vs ∧ Rd H b (.dK (ls.zip us)) ∧ ls.length = us.length ∧ Iss X.K H W qs us ∧
  (plains ps = true ∧ deps ps ≤ 190) ∧ (plains qs = true ∧ deps qs ≤ 190) ∧ Q (.bl (neg != eqDic ks ps ls qs)) H
theorem op_eqDic (hu : X.A.units + 191 < cLine) : OpR X (compareOp .Eq) (rEqDic X false) := by
  intro pins s σ H x y v u Q I rx ry h
  obtain ⟨W, ks, ls, ps, qs, a, b, vs, us, rfl, rfl, ra, la, ia, rb, lb, ib, o1, o2, q⟩ := h
  cases rx; cases ry
  refine eqD_run hu I ra la ia rb lb ib o1 o2 ?_
  cases e : eqDic ks ps ls qs <;> rw [e] at q <;> exact q
theorem op_neDic (hu : X.A.units + 191 < cLine) : OpR X (compareOp .NotEq) (rEqDic X true) := by
  intro pins s σ H x y v u Q I rx ry h
  obtain ⟨W, ks, ls, ps, qs, a, b, vs, us, rfl, rfl, ra, la, ia, rb, lb, ib, o1, o2, q⟩ := h
  cases rx; cases ry
  refine neD_run hu I ra la ia rb lb ib o1 o2 ?_
  cases e : eqDic ks ps ls qs <;> rw [e] at q <;> exact q
def gEqX (p q : PV) (Q : R → Prop) : Prop := match p, q with
  | .dic ks ps, .dic ls qs => (plains ps = true ∧ deps ps ≤ 190) ∧ (plains qs = true ∧ deps qs ≤ 190) ∧ Q (.pv (.bl (eqDic ks ps ls qs)))
  | p, q => gEqW p q Q
def gNeX (p q : PV) (Q : R → Prop) : Prop := match p, q with
  | .dic ks ps, .dic ls qs => (plains ps = true ∧ deps ps ≤ 190) ∧ (plains qs = true ∧ deps qs ≤ 190) ∧ Q (.pv (.bl (!eqDic ks ps ls qs)))
  | p, q => gNeW p q Q
theorem op_eqX (hu : X.A.units + 191 < cLine) : OpP X (compareOp .Eq) gEqX := by
  obtain ⟨r1, h1, h2⟩ := op_eqW (X := X) (by omega)
  refine ⟨_, OpR.or h1 (op_eqDic hu), fun H W p q x y Q F m l1 l2 z f => ?_⟩
  unfold gEqX at z
  split at z
  · rename_i ks ps ls qs
    obtain ⟨a, vs, e1, r1, la, _, ia⟩ := l1
    obtain ⟨b, us, e2, r2, lb, _, ib⟩ := l2
    subst e1 e2
    refine .inr ⟨W, ks, ls, ps, qs, a, b, vs, us, rfl, rfl, r1, la, ia, r2, lb, ib, z.1, z.2.1, fin1 f (p := .bl _) rfl (?_ : Q (.pv (.bl _)))⟩
    have z3 := z.2.2
    cases e : eqDic ks ps ls qs <;> rw [e] at z3 <;> exact z3
  · exact .inl (h2 H W p q x y Q F m l1 l2 z f)
theorem op_neX (hu : X.A.units + 191 < cLine) : OpP X (compareOp .NotEq) gNeX := by
  obtain ⟨r1, h1, h2⟩ := op_neW (X := X) (by omega)
  refine ⟨_, OpR.or h1 (op_neDic hu), fun H W p q x y Q F m l1 l2 z f => ?_⟩
  unfold gNeX at z
  split at z
  · rename_i ks ps ls qs
    obtain ⟨a, vs, e1, r1, la, _, ia⟩ := l1
    obtain ⟨b, us, e2, r2, lb, _, ib⟩ := l2
    subst e1 e2
    refine .inr ⟨W, ks, ls, ps, qs, a, b, vs, us, rfl, rfl, r1, la, ia, r2, lb, ib, z.1, z.2.1, fin1 f (p := .bl _) rfl (?_ : Q (.pv (.bl _)))⟩
    have z3 := z.2.2
    cases e : eqDic ks ps ls qs <;> rw [e] at z3 <;> exact z3
  · exact .inl (h2 H W p q x y Q F m l1 l2 z f)
end
theorem isEmp_concat {α : Type} {xs : List α} {x : α} : (xs ++ [x]).isEmpty = false := by cases xs <;> rfl
/-! ### slots that may be stored to, seen without cases -/
def slOk : Sl → Bool
  | .own b _ => !b
  | _ => true
theorem notIo_nil' {i : Nat} : notIo [] i = true := rfl
theorem notIo_zero {s : Sl} {ρ : En} : notIo (s :: ρ) 0 = slOk s := by
  cases s with
  | own b p => cases b <;> rfl
  | _ => rfl
theorem notIo_succ {s : Sl} {ρ : En} {i : Nat} : notIo (s :: ρ) (i + 1) = notIo ρ i := by
  unfold notIo
  rw [List.getElem?_cons_succ]
theorem slOk_un : slOk .un = true := rfl
theorem slOk_val {p : PV} : slOk (.val p) = true := rfl
theorem slOk_own {b : Bool} {p : PV} : slOk (.own b p) = !b := rfl
/-- nothing, or a value -/
def plS : Option PV → Sl
  | none => .un
  | some p => .val p
/-- nothing, or an own thing -/
def plD : Option PV → Sl
  | none => .un
  | some p => .own false p
theorem slOk_pl {o : Option PV} : slOk (plS o) = true := by cases o <;> rfl
theorem slOk_pd {o : Option PV} : slOk (plD o) = true := by cases o <;> rfl
end Px
namespace Px
open PySem L2 PySem.Spec PyProof.Rows
/-! ### max(a, b), min(a, b) of two texts -/
section
variable {prog : Program} {w : World} {A : Around} {E : Value → Shared → Prop} {s : Shared}
theorem strs_gt (x y : Str) (t u : Tok) : CmpOf prog w A .Gt (fun i v => #[Value.str x t, Value.str y u][i]? = some v) (fun i j => decide ((if j = 0 then x else y).cps.toList < (if i = 0 then x else y).cps.toList)) := fun i j vi vj s Q E hi hj h => by
  match i, j, hi, hj with
  | 0, 0, hi, hj => cases hi; cases hj; exact P.gt_str h
  | 0, 1, hi, hj => cases hi; cases hj; exact P.gt_str h
  | 1, 0, hi, hj => cases hi; cases hj; exact P.gt_str h
  | 1, 1, hi, hj => cases hi; cases hj; exact P.gt_str h
theorem strs_lt (x y : Str) (t u : Tok) : CmpOf prog w A .Lt (fun i v => #[Value.str x t, Value.str y u][i]? = some v) (fun i j => decide ((if i = 0 then x else y).cps.toList < (if j = 0 then x else y).cps.toList)) := fun i j vi vj s Q E hi hj h => by
  match i, j, hi, hj with
  | 0, 0, hi, hj => cases hi; cases hj; exact P.lt_str h
  | 0, 1, hi, hj => cases hi; cases hj; exact P.lt_str h
  | 1, 0, hi, hj => cases hi; cases hj; exact P.lt_str h
  | 1, 1, hi, hj => cases hi; cases hj; exact P.lt_str h
theorem max_two_strs {x y : Str} {t u : Tok} {Q : Value → Shared → Prop} (hh : A.handled = none)
    (h : ∀ h' tk, (∀ c o, s.heap.get? c = some o → h'.get? c = some o) → Q (if x.cps.toList < y.cps.toList then .str y u else .str x t) { s with heap := h', toks := tk }) :
    wpAny (model prog w) A (call (.builtin "max") [.str x t, .str y u]) Q E s := by
  have hT : (s.heap.push { cls := .type "tuple", data := .seq #[.str x t, .str y u] }).IsTuple s.heap.objs.size #[.str x t, .str y u] := ⟨_, Heap.get?_push_size _ rfl, rfl, 0, by simp⟩
  refine call_max_two (wpAny_pyIter_tuple hT ?_)
  have hsz : (s.heap.push { cls := .type "tuple", data := .seq #[.str x t, .str y u] }).objs.size = s.heap.objs.size + 1 := Heap.size_push ..
  refine ⟨_, [_, s.heap.objs.size], [_], _, _, _, _, rfl, Walks.tuple (A := A.in1) hh _ s.heap.objs.size (by rw [hsz]; exact Nat.ne_of_lt (Nat.lt_succ_self _)) #[.str x t, .str y u],
    ⟨⟨_, Heap.get?_push_size _ rfl, rfl, rfl⟩, hT.push _⟩, fun c hc => ?_, by simp, strs_gt x y t u, fun v h' tk hP hk => ?_⟩
  · show c < ((s.heap.push _).push _).objs.size
    rw [Heap.size_push, hsz]
    rcases List.mem_cons.mp hc with rfl | hc
    · rw [hsz]; exact Nat.lt_succ_self _
    · rcases List.mem_cons.mp hc with rfl | hc
      · exact Nat.lt_succ_of_lt (Nat.lt_succ_self _)
      · cases hc
  · have hold : ∀ c o, s.heap.get? c = some o → h'.get? c = some o := fun c o e => by
      refine hk c o (fun hm => ?_) (Heap.get?_push_of_some _ (Heap.get?_push_of_some _ e))
      rcases List.mem_cons.mp hm with e1 | hm
      · have := Heap.lt_size e; rw [e1, hsz] at this; exact Nat.lt_irrefl _ (Nat.lt_of_succ_lt this)
      · cases hm
    have := h h' tk hold
    have hv : v = if x.cps.toList < y.cps.toList then Value.str y u else Value.str x t := by
      by_cases hba : x.cps.toList < y.cps.toList
      · have e : argBest (fun i j => decide ((if j = 0 then x else y).cps.toList < (if i = 0 then x else y).cps.toList)) 1 = 1 := by simp [argBest, hba]
        have hP' := hP
        simp only [List.size_toArray, List.length_cons, List.length_nil] at hP'
        rw [show 0 + 1 + 1 - 1 = 1 from rfl, e] at hP'
        rw [if_pos hba]; exact (Option.some.inj hP').symm
      · have e : argBest (fun i j => decide ((if j = 0 then x else y).cps.toList < (if i = 0 then x else y).cps.toList)) 1 = 0 := by simp [argBest, hba]
        have hP' := hP
        simp only [List.size_toArray, List.length_cons, List.length_nil] at hP'
        rw [show 0 + 1 + 1 - 1 = 1 from rfl, e] at hP'
        rw [if_neg hba]; exact (Option.some.inj hP').symm
    rw [hv]; exact this
theorem min_two_strs {x y : Str} {t u : Tok} {Q : Value → Shared → Prop} (hh : A.handled = none)
    (h : ∀ h' tk, (∀ c o, s.heap.get? c = some o → h'.get? c = some o) → Q (if y.cps.toList < x.cps.toList then .str y u else .str x t) { s with heap := h', toks := tk }) :
    wpAny (model prog w) A (call (.builtin "min") [.str x t, .str y u]) Q E s := by
  have hT : (s.heap.push { cls := .type "tuple", data := .seq #[.str x t, .str y u] }).IsTuple s.heap.objs.size #[.str x t, .str y u] := ⟨_, Heap.get?_push_size _ rfl, rfl, 0, by simp⟩
  refine call_min_two (wpAny_pyIter_tuple hT ?_)
  have hsz : (s.heap.push { cls := .type "tuple", data := .seq #[.str x t, .str y u] }).objs.size = s.heap.objs.size + 1 := Heap.size_push ..
  refine ⟨_, [_, s.heap.objs.size], [_], _, _, _, _, rfl, Walks.tuple (A := A.in1) hh _ s.heap.objs.size (by rw [hsz]; exact Nat.ne_of_lt (Nat.lt_succ_self _)) #[.str x t, .str y u],
    ⟨⟨_, Heap.get?_push_size _ rfl, rfl, rfl⟩, hT.push _⟩, fun c hc => ?_, by simp, strs_lt x y t u, fun v h' tk hP hk => ?_⟩
  · show c < ((s.heap.push _).push _).objs.size
    rw [Heap.size_push, hsz]
    rcases List.mem_cons.mp hc with rfl | hc
    · rw [hsz]; exact Nat.lt_succ_self _
    · rcases List.mem_cons.mp hc with rfl | hc
      · exact Nat.lt_succ_of_lt (Nat.lt_succ_self _)
      · cases hc
  · have hold : ∀ c o, s.heap.get? c = some o → h'.get? c = some o := fun c o e => by
      refine hk c o (fun hm => ?_) (Heap.get?_push_of_some _ (Heap.get?_push_of_some _ e))
      rcases List.mem_cons.mp hm with e1 | hm
      · have := Heap.lt_size e; rw [e1, hsz] at this; exact Nat.lt_irrefl _ (Nat.lt_of_succ_lt this)
      · cases hm
    have := h h' tk hold
    have hv : v = if y.cps.toList < x.cps.toList then Value.str y u else Value.str x t := by
      by_cases hba : y.cps.toList < x.cps.toList
      · have e : argBest (fun i j => decide ((if i = 0 then x else y).cps.toList < (if j = 0 then x else y).cps.toList)) 1 = 1 := by simp [argBest, hba]
        have hP' := hP
        simp only [List.size_toArray, List.length_cons, List.length_nil] at hP'
        rw [show 0 + 1 + 1 - 1 = 1 from rfl, e] at hP'
        rw [if_pos hba]; exact (Option.some.inj hP').symm
      · have e : argBest (fun i j => decide ((if i = 0 then x else y).cps.toList < (if j = 0 then x else y).cps.toList)) 1 = 0 := by simp [argBest, hba]
        have hP' := hP
        simp only [List.size_toArray, List.length_cons, List.length_nil] at hP'
        rw [show 0 + 1 + 1 - 1 = 1 from rfl, e] at hP'
        rw [if_neg hba]; exact (Option.some.inj hP').symm
    rw [hv]; exact this
end
section
variable {X : Cx}
def ltT (a b : Str) : Bool := decide (a.cps.toList < b.cps.toList)
def rMaxT : List V → Hp → VK → Prop := fun vs H Q => ∃ a b : Str, vs = [.str a, .str b] ∧ Q (.str (if ltT a b then b else a)) H
def rMinT : List V → Hp → VK → Prop := fun vs H Q => ∃ a b : Str, vs = [.str a, .str b] ∧ Q (.str (if ltT b a then b else a)) H
theorem cr_maxT (hc : X.calm = true) : CallR X (.builtin "max") rMaxT := by
  intro pins s σ H vs us Q I r h
  obtain ⟨a, b, rfl, q⟩ := h
  obtain ⟨u, v, rfl, ⟨t, rfl⟩, ⟨t2, rfl⟩⟩ := Vals.two r
  refine max_two_strs (I.ok.hd hc) fun h' tk hk => ⟨_, H, I.kept hk, ?_, q⟩
  unfold ltT
  by_cases e : a.cps.toList < b.cps.toList
  · rw [if_pos e, if_pos (decide_eq_true e)]; exact ⟨_, rfl⟩
  · rw [if_neg e, if_neg (by simpa using e)]; exact ⟨_, rfl⟩
theorem cr_minT (hc : X.calm = true) : CallR X (.builtin "min") rMinT := by
  intro pins s σ H vs us Q I r h
  obtain ⟨a, b, rfl, q⟩ := h
  obtain ⟨u, v, rfl, ⟨t, rfl⟩, ⟨t2, rfl⟩⟩ := Vals.two r
  refine min_two_strs (I.ok.hd hc) fun h' tk hk => ⟨_, H, I.kept hk, ?_, q⟩
  unfold ltT
  by_cases e : b.cps.toList < a.cps.toList
  · rw [if_pos e, if_pos (decide_eq_true e)]; exact ⟨_, rfl⟩
  · rw [if_neg e, if_neg (by simpa using e)]; exact ⟨_, rfl⟩
def gMaxT (ps : List PV) (Q : R → Prop) : Prop := match ps with
  | [.str a, .str b] => Q (.pv (.str (if ltT a b then b else a)))
  | _ => False
def gMinT (ps : List PV) (Q : R → Prop) : Prop := match ps with
  | [.str a, .str b] => Q (.pv (.str (if ltT b a then b else a)))
  | _ => False
theorem call_maxTP (hc : X.calm = true) : CallP X (.builtin "max") gMaxT := by
  refine ⟨_, cr_maxT hc, fun H W ps xs Q F m l g f => ?_⟩
  unfold gMaxT at g
  split at g
  · obtain ⟨x, y, rfl, h1, h2⟩ := lks2 l
    obtain ⟨e1, o1⟩ := h1
    obtain ⟨e2, o2⟩ := h2
    subst e1 e2
    refine ⟨_, _, rfl, fin1 f (p := .str _) ⟨rfl, ?_⟩ g⟩
    split
    · exact o2
    · exact o1
  · exact g.elim
theorem call_minTP (hc : X.calm = true) : CallP X (.builtin "min") gMinT := by
  refine ⟨_, cr_minT hc, fun H W ps xs Q F m l g f => ?_⟩
  unfold gMinT at g
  split at g
  · obtain ⟨x, y, rfl, h1, h2⟩ := lks2 l
    obtain ⟨e1, o1⟩ := h1
    obtain ⟨e2, o2⟩ := h2
    subst e1 e2
    refine ⟨_, _, rfl, fin1 f (p := .str _) ⟨rfl, ?_⟩ g⟩
    split
    · exact o2
    · exact o1
  · exact g.elim
/-- max(xs) of numbers, max(a, b) of two texts -/
def gMax2 (ps : List PV) (Q : R → Prop) : Prop := match ps with
  | [.str a, .str b] => Q (.pv (.str (if ltT a b then b else a)))
  | ps => gMax ps Q
theorem call_maxP2 (hc : X.calm = true) : CallP X (.builtin "max") gMax2 := by
  obtain ⟨r1, a1, b1⟩ := call_maxTP hc
  obtain ⟨r2, a2, b2⟩ := call_maxP hc
  refine ⟨_, CallR.or a1 a2, fun H W ps xs Q F m l g f => ?_⟩
  unfold gMax2 at g
  split at g
  · exact .inl (b1 H W _ xs Q F m l g f)
  · exact .inr (b2 H W _ xs Q F m l g f)
end
end Px
namespace Px
open PySem L2 PySem.Spec PyProof.Rows
/-! ### dict comprehensions -/
def dcGo (g : QTG) (tt : QTT) (tk te : QT) (vs : List Nat) (Q : List Key → List PV → En → Prop) : List PV → List Key → List PV → En → Prop
  | [], ks, zs, ρ => Q ks zs ρ
  | p :: ps, ks, zs, ρ => g p ρ fun ρ1 => tt ρ1 fun b ρ2 => Br b (tk ρ2 fun r ρ3 => match r.wk with
      | .pv kp => match keyP kp with
        | some k => te ρ3 fun r2 ρ4 => match r2.wk with
          | .pv z => small (ks.length + 1) ∧ notIos ρ4 vs ∧ dcGo g tt tk te vs Q ps (putKs ks k) (putPs ks zs k z) (wipeE ρ4 vs)
          | _ => False
        | none => False
      | _ => False) (notIos ρ2 vs ∧ dcGo g tt tk te vs Q ps ks zs (wipeE ρ2 vs))
def dcR (g : QTG) (tt : QTT) (tk te : QT) (vs : List Nat) (ps : List PV) (ρ : En) (Q : PK1) (_ : Dum Q) : Prop := dcGo g tt tk te vs (fun ks zs ρ' => Q (.fr (.dic ks zs)) ρ') ps [] [] ρ
def qDc (ti : QTI) (g : QTG) (tt : QTT) (tk te : QT) (vs : List Nat) (ρ : En) (Q : PK1) : Prop := ti ρ fun ps ρ1 => notIos ρ1 vs ∧ dcR g tt tk te vs ps (wipeE ρ1 vs) Q .mk
theorem put_pairs {zs : List PV} {av : List V} {k : Key} {z : PV} {v : V} : ∀ {ks : List Key}, ks.length = av.length → zs.length = av.length → ∀ x ∈ (putPs ks zs k z).zip (putPs ks av k v), x = (z, v) ∨ x ∈ zs.zip av := by
  have key : ∀ (ks : List Key) (zs : List PV) (av : List V), ∀ x ∈ (List.zipWith (fun j p => if j = k then z else p) ks zs).zip (List.zipWith (fun j p => if j = k then v else p) ks av), x = (z, v) ∨ x ∈ zs.zip av := by
    intro ks
    induction ks with
    | nil => intro zs av x hx; simp at hx
    | cons j ks ih =>
      intro zs av x hx
      cases zs with
      | nil => simp at hx
      | cons p zs =>
        cases av with
        | nil => simp at hx
        | cons u av =>
          rw [List.zipWith_cons_cons, List.zipWith_cons_cons, List.zip_cons_cons] at hx
          rw [List.zip_cons_cons]
          rcases List.mem_cons.mp hx with e | hx
          · by_cases h : j = k
            · rw [if_pos h, if_pos h] at e; exact .inl e
            · rw [if_neg h, if_neg h] at e; rw [e]; exact .inr List.mem_cons_self
          · rcases ih zs av x hx with e | e
            · exact .inl e
            · exact .inr (List.mem_cons_of_mem _ e)
  intro ks h1 h2 x hx
  unfold putPs at hx
  by_cases h : hasK ks k = true
  · rw [if_pos h, if_pos h] at hx; exact key ks zs av x hx
  · rw [if_neg h, if_neg h, List.zip_append h2] at hx
    rcases List.mem_append.mp hx with hx | hx
    · exact .inr hx
    · exact .inl (by simpa using hx)
theorem putPs_len {α : Type} {ks : List Key} {zs : List α} {k : Key} {z : α} (h : ks.length = zs.length) : (putPs ks zs k z).length = (putKs ks k).length := by
  unfold putPs putKs
  by_cases e : hasK ks k = true
  · rw [if_pos e, if_pos e, List.length_zipWith]; omega
  · rw [if_neg e, if_neg e]; simp [h]
theorem dc_walk {K : PySem.W.Frag} {g : TG} {tt : TT} {tk te : TE} {vs sl : List Nat} {qg : QTG} {qt : QTT} {qk qe : QT} (h2 : RzG K g sl qg) (h3 : RzT K tt qt) (hk : Rz K tk qk) (h4 : Rz K te qe) (hs : ∀ i ∈ sl, i ∈ vs) {G : Gd} {H1 : Hp} {σ : L2.St} {ρ1 : En} {pd pd1 : Pds} {J : It} {ps : List PV} {Q : PK1} {F : VK} (sb : ∀ x ∈ pd, x ∈ pd1)
    (R2 : RE K G H1 σ ρ1 pd1) (wk : Wk K J ps pd1 G.keep) (nio : notIos ρ1 vs) (go : dcR qg qt qk qe vs ps (wipeE ρ1 vs) Q .mk) (f : ∀ r ρ' v H', Res K G H' σ ρ' pd r v → Q r ρ' → F v H') :
    ∀ D, H1 D = none → ∃ W : Nat → Nat → Hp → Prop, (∃ m, W 0 m (upd H1 D (.dK []))) ∧ ∀ i m H, W i m H →
      (J.stop i H ∧ F (.ref D) H) ∨ (J.go i H ∧ ∃ Nx : Hp → Prop, (∀ H', Nx H' → ∃ m', m' < m ∧ W (i + 1) m' H') ∧ ∀ x H', J.yld i H x H' → g x (L2.wipe σ vs) H' fun σ2 H2 => L2.wipe σ2 vs = L2.wipe σ vs ∧ tt σ2 H2 fun b H3 =>
        if b = true then tk σ2 H3 fun y H4 => te σ2 H4 fun z H5 => ∃ kvs k, y = kV k ∧ H5 D = some (.dK kvs) ∧ kvs.length < sizeLine ∧ Nx (upd H5 D (.dK (putK kvs k z))) else Nx H3) := by
  intro D hD
  have kx := R2.exk
  have kD : G.keep D = none := by
    cases q : G.keep D with
    | none => rfl
    | some u => rw [R2.keep D u q] at hD; cases hD
  let W : Nat → Nat → Hp → Prop := fun i m H => m = ps.length - i ∧ i ≤ ps.length ∧ ∃ (ρ' : En) (ks : List Key) (zs : List PV) (av : List V), RE K (G.add D (.dK (ks.zip av))) H (L2.wipe σ vs) (wipeE ρ' vs) (zs.zip av ++ pd1) ∧ ks.length = av.length ∧ zs.length = av.length ∧ ks.all keyOk = true ∧ dcGo qg qt qk qe vs (fun ks zs ρ' => Q (.fr (.dic ks zs)) ρ') (ps.drop i) ks zs (wipeE ρ' vs)
  refine ⟨W, ⟨ps.length, by simp, Nat.zero_le _, ρ1, [], [], [], ?_, rfl, rfl, rfl, go⟩, ?_⟩
  · exact (R2.wipe vs nio).add (o := .dK []) hD (same_new hD) upd_same trivial
  rintro i m H2 ⟨rfl, hi, ρ', ks, zs, av, R3, lk, lz, ok, g1⟩
  by_cases lt : i < ps.length
  · have ep : ps[i]? = some ps[i] := List.getElem?_eq_getElem lt
    obtain ⟨jg, jy⟩ := wk.item _ H2 _ _ _ i _ (fun x hx => List.mem_append_right _ hx) (add_keep kD fun _ _ e => e) R3 ep
    refine .inr ⟨jg, fun H' => W (i + 1) (ps.length - (i + 1)) H', fun H' w => ⟨_, by omega, w⟩, fun x H3 y => ?_⟩
    have R4 := jy x H3 y
    rw [List.drop_eq_getElem_cons lt] at g1
    refine h2 _ H3 _ _ _ _ x _ _ R4 g1 fun σ2 ρ2 H4 l2 k2 R5 g2 => ?_
    have wa : L2.wipe σ2 vs = L2.wipe σ vs := by
      rw [← wipe_wipe σ vs]
      exact wipe_agree l2 fun j hj => k2 j fun z => hj (hs j z)
    refine ⟨wa, h3 _ H4 σ2 ρ2 _ _ _ R5 g2 fun b ρ3 H5 R6 g3 => ?_⟩
    cases b with
    | false =>
      obtain ⟨n3, g4⟩ := g3.2 rfl
      refine ⟨rfl, lt, ρ3, ks, zs, av, ?_, lk, lz, ok, g4⟩
      have R7 := R6.wipe vs n3
      rw [wa] at R7
      exact R7
    | true =>
      have g4 := g3.1 rfl
      show tk σ2 H5 _
      refine hk _ H5 σ2 ρ3 _ _ _ R6 g4 fun r ρ4 y' H6 s g5 => ?_
      have s' := s.wk
      cases er : r.wk with
      | sl j => rw [er] at g5; exact g5.elim
      | fr q => rw [er] at g5; exact g5.elim
      | pv q =>
        rw [er] at s' g5
        have g5' : match keyP q with
          | some k => qe ρ4 fun r2 ρ4 => match r2.wk with
            | .pv z => small (ks.length + 1) ∧ notIos ρ4 vs ∧ dcGo qg qt qk qe vs (fun ks zs ρ' => Q (.fr (.dic ks zs)) ρ') (ps.drop (i + 1)) (putKs ks k) (putPs ks zs k z) (wipeE ρ4 vs)
            | _ => False
          | none => False := g5
        have R7 : RE K (G.add D (.dK (ks.zip av))) H6 σ2 ρ4 ((q, y') :: (zs.zip av ++ pd1)) := s'
        cases ek : keyP q with
        | none => rw [ek] at g5'; exact g5'.elim
        | some k =>
          rw [ek] at g5'
          obtain ⟨e5, ko⟩ := keyP_is (R7.pd (q, y') List.mem_cons_self) ek
          refine h4 _ H6 σ2 ρ4 _ _ _ R7 g5' fun r2 ρ5 z' H7 s2 g6 => ?_
          have s2' := s2.wk
          cases er2 : r2.wk with
          | sl j => rw [er2] at g6; exact g6.elim
          | fr q => rw [er2] at g6; exact g6.elim
          | pv z =>
            rw [er2] at s2' g6
            obtain ⟨sm, n5, g7⟩ := g6
            have R8 : RE K (G.add D (.dK (ks.zip av))) H7 σ2 ρ5 ((z, z') :: (q, y') :: (zs.zip av ++ pd1)) := s2'
            obtain ⟨e7, e8⟩ := put_zip (j := k) (v := z') lk
            refine ⟨ks.zip av, k, e5, R8.keep D _ upd_same, by rw [zip_len lk]; exact small_lt sm, rfl, lt, ρ5, putKs ks k, putPs ks zs k z, putPs ks av k z', ?_, e8, ?_, putKs_ok ok ko, g7⟩
            · have R9 := (R8.wipe vs n5).readd (o' := .dK (putK (ks.zip av) k z')) trivial
              rw [wa, e7] at R9
              rw [e7]
              refine R9.pds fun x hx => ?_
              rcases List.mem_append.mp hx with hx | hx
              · rcases put_pairs lk lz x hx with e | hx
                · rw [e]; exact List.mem_cons_self
                · exact List.mem_cons_of_mem _ (List.mem_cons_of_mem _ (List.mem_append_left _ hx))
              · exact List.mem_cons_of_mem _ (List.mem_cons_of_mem _ (List.mem_append_right _ hx))
            · rw [putPs_len (lk.trans lz.symm), putPs_len lk]
  · have e : i = ps.length := by omega
    subst e
    refine .inl ⟨wk.stop _ H2 _ _ _ _ (fun x hx => List.mem_append_right _ hx) (add_keep kD fun _ _ e => e) R3 (Nat.le_refl _), ?_⟩
    rw [List.drop_length] at g1
    have R4 := R3.unwipe
    refine f (.fr (.dic ks zs)) (wipeE ρ' vs) (.ref D) H2 ⟨D, .dK (ks.zip av), rfl, kD, kx, R4.pds fun x hx => List.mem_append_right _ (sb x hx), ?_⟩ g1
    refine ⟨av, rfl, lk, ok, ?_⟩
    have hall : ∀ x ∈ zs.zip av, Is K H2 (WS (G.add D (.dK (ks.zip av))) σ (wipeE ρ' vs)) x.1 x.2 := fun x hx => R4.pd x (List.mem_append_left _ hx)
    clear g1 R3 R4
    revert lz hall
    generalize WS (G.add D (.dK (ks.zip av))) σ (wipeE ρ' vs) = W'
    intro lz hall
    clear W f go ok lk
    induction zs generalizing av with
    | nil => cases av with
      | nil => rfl
      | cons _ _ => simp at lz
    | cons p zs ih =>
      cases av with
      | nil => simp at lz
      | cons v av => exact ⟨v, av, rfl, hall (p, v) List.mem_cons_self, ih av (by simpa using lz) fun x hx => hall x (List.mem_cons_of_mem _ hx)⟩
def qDcK (i : Nat) (g : QTG) (tt : QTT) (tk te : QT) (vs : List Nat) (ρ : En) (Q : PK1) : Prop := match dicAt ρ i with
  | some (ks, _) => notIos ρ vs ∧ dcR g tt tk te vs (ks.map keyV) (wipeE ρ vs) Q .mk
  | none => False
section
variable {X : Cx} {kx elt tg iter : Expr} {ifs : List Expr} {scope : Scope} {own : List (Str × Nat)} {pos npos : Pos} {g : QTG} {tt : QTT} {tk te : QT} {ti : QTI} {sl : List Nat} {x : Str}
theorem rz_dc {K : PySem.W.Frag} {wi : TI} {g : TG} {tt : TT} {tk te : TE} {vs sl : List Nat} {ti : QTI} {qg : QTG} {qt : QTT} {qk qe : QT} (h1 : RzI K wi ti) (h2 : RzG K g sl qg) (h3 : RzT K tt qt) (hk : Rz K tk qk) (h4 : Rz K te qe) (hs : ∀ i ∈ sl, i ∈ vs) : Rz K (tDc wi g tt tk te vs) (qDc ti qg qt qk qe vs) := by
  intro G H σ ρ pd Q F R1 hw f
  exact h1 G H σ ρ pd _ _ R1 hw fun J ps ρ1 pd1 H1 sb R2 wk ⟨nio, go⟩ => dc_walk h2 h3 hk h4 hs sb R2 wk nio go f
theorem qe_dc (hc : X.calm = true) (hN : X.N.Nodup) (ok : BlkOk X.N X.env.scope scope own) (hi : QI X tg iter ti) (hg : ∀ c, QG (blkX X scope c) tg sl g) (ht : ∀ c, QCs (blkX X scope c) ifs tt) (hk : ∀ c, QE (blkX X scope c) kx tk) (he : ∀ c, QE (blkX X scope c) elt te)
    (hs : ∀ i ∈ sl, i ∈ own.map (·.2) := by decide) (hf : ∀ x, foldedSetIterable iter X.env x = pure x := by intro _; rfl) {vs : List Nat} (hv : vs = own.map (·.2) := by rfl) : QE X (.DictComp kx elt [⟨tg, iter, ifs, 0⟩] scope pos) (qDc ti g tt tk te vs) := by
  subst hv
  obtain ⟨wi, p1, q1⟩ := hi.ex
  obtain ⟨g1, p2, q2⟩ := QG.all (X := blkX X scope) (K := X.K) (fun _ => rfl) hg
  obtain ⟨t1, p3, q3⟩ := QCs.all (X := blkX X scope) (K := X.K) (fun _ => rfl) ht
  obtain ⟨k1, pk, qk⟩ := QE.all (X := blkX X scope) (K := X.K) (fun _ => rfl) hk
  obtain ⟨e1, p4, q4⟩ := QE.all (X := blkX X scope) (K := X.K) (fun _ => rfl) he
  exact ⟨_, pe_dc hc hN p1 ok (fun s H C cl fp => p2 (s, H, C, cl, fp)) (fun s H C cl fp => p3 (s, H, C, cl, fp)) (fun s H C cl fp => pk (s, H, C, cl, fp)) (fun s H C cl fp => p4 (s, H, C, cl, fp)) hf, rz_dc q1 q2 q3 qk q4 hs⟩
theorem rz_dcK {g1 : TG} {t1 : TT} {k1 e1 : TE} {vs : List Nat} {i : Nat} (q2 : RzG X.K g1 sl g) (q3 : RzT X.K t1 tt) (qk : Rz X.K k1 tk) (q4 : Rz X.K e1 te) (hs : ∀ i ∈ sl, i ∈ vs) :
    Rz X.K (fun σ H Q => tLockE (tDc (iKeys (tVar i)) g1 t1 k1 e1 vs) σ H Q ∨ tDc (iKeys (tVar i)) g1 t1 k1 e1 vs σ H Q) (qDcK i g tt tk te vs) := by
  intro G H σ ρ pd Q F R1 h f
  unfold qDcK at h
  cases e : dicAt ρ i with
  | none => rw [e] at h; exact h.elim
  | some kp =>
    obtain ⟨ks, ps⟩ := kp
    rw [e] at h
    obtain ⟨nio, go⟩ := h
    obtain ⟨d, us, e2, n, r, hl, ok⟩ := dicAt_is R1 e
    rcases r with r | ⟨o, r⟩
    · refine .inl ⟨d, _, r, trivial, fun od => ?_⟩
      have R2 := R1.lock (o := od) n r
      refine ⟨.ref d, e2, d, od, rfl, .inl ⟨_, upd_same, ?_⟩⟩
      have kd : ∀ u, G.keep d = some u → u = .dK (ks.zip us) := fun u eu => by have := R1.keep d u eu; rw [r] at this; cases this; rfl
      refine dc_walk (F := fun v H' => H' d = some (.frz od (.dK (ks.zip us))) ∧ F v (upd H' d (.dK (ks.zip us)))) q2 q3 qk q4 hs (pd1 := pd) (fun _ hx => hx) R2 (wk_keys hl ok upd_same) nio go fun r ρ' v H' s hq => ?_
      obtain ⟨h1, s'⟩ := s.unlock kd R1.exk
      exact ⟨h1, f r ρ' v _ s' hq⟩
    · refine .inr ⟨.ref d, e2, d, o, rfl, .inl ⟨_, r, ?_⟩⟩
      by_cases hk : G.keep d = some (.frz o (.dK (ks.zip us)))
      · exact dc_walk q2 q3 qk q4 hs (pd1 := pd) (fun _ hx => hx) R1 (wk_keys hl ok hk) nio go f
      · have kn : G.keep d = none := by
          cases eq : G.keep d with
          | none => rfl
          | some u => have := R1.keep d u eq; rw [r] at this; cases this; exact absurd eq hk
        have R2 : RE X.K (G.lk d (.frz o (.dK (ks.zip us)))) H σ ρ pd := by
          refine ⟨R1.len, R1.val, fun j b p e => ?_, R1.inj, R1.io, fun b u e => ?_, fun b w hv => ?_, R1.pd, R1.ext.lk (fun z => n (.inl z)) fun b ne => rfl⟩
          · obtain ⟨a, e1, k, rest⟩ := R1.own j b p e
            have ne : a ≠ d := fun z => n (by rw [← z]; exact .inr ⟨j, b, p, e, e1⟩)
            exact ⟨a, e1, by show upd G.keep d _ a = none; rw [upd_ne ne]; exact k, rest⟩
          · have e' : upd G.keep d (.frz o (.dK (ks.zip us))) b = some u := e
            by_cases z : b = d
            · rw [z] at e' ⊢; rw [upd_same] at e'; rw [r]; exact e'
            · rw [upd_ne z] at e'; exact R1.keep b u e'
          · obtain ⟨u, e1, m1⟩ := R1.exk b w hv
            have ne : b ≠ d := fun z => n (by rw [← z]; exact .inl w)
            exact ⟨u, by show upd G.keep d _ b = some u; rw [upd_ne ne]; exact e1, m1⟩
        refine dc_walk q2 q3 qk q4 hs (pd1 := pd) (fun _ hx => hx) R2 (wk_keys hl ok upd_same) nio go fun r ρ' v H' s hq => ?_
        refine f r ρ' v H' ?_ hq
        have dn : ∀ {H' : Hp} {σ : L2.St} {ρ : En} {pd : Pds} {G : Gd}, G.keep d = none → RE X.K (G.lk d (.frz o (.dK (ks.zip us)))) H' σ ρ pd → RE X.K G H' σ ρ pd := fun {H' σ ρ pd G} kn R => by
          refine ⟨R.len, R.val, fun j b p e => ?_, R.inj, R.io, fun b u e => ?_, fun b w hv => ?_, R.pd, R.ext.unlk fun b ne => rfl⟩
          · obtain ⟨a, e1, k, rest⟩ := R.own j b p e
            have k' : upd G.keep d (.frz o (.dK (ks.zip us))) a = none := k
            by_cases z : a = d
            · rw [z, upd_same] at k'; cases k'
            · rw [upd_ne z] at k'; exact ⟨a, e1, k', rest⟩
          · have ne : b ≠ d := fun z => by rw [z, kn] at e; cases e
            exact R.keep b u (by show upd G.keep d _ b = some u; rw [upd_ne ne]; exact e)
          · obtain ⟨u, e1, m1⟩ := R.exk b w hv
            have e' : upd G.keep d (.frz o (.dK (ks.zip us))) b = some u := e1
            by_cases z : b = d
            · rw [z, upd_same] at e'; cases e'; exact m1.elim
            · rw [upd_ne z] at e'; exact ⟨u, e', m1⟩
        cases r with
        | pv p => exact dn kn s
        | sl j => exact ⟨dn kn s.1, s.2⟩
        | fr p =>
          obtain ⟨a, u, e1, na, _, R3, w⟩ := s
          have n' : upd G.keep d (.frz o (.dK (ks.zip us))) a = none := na
          have ne : a ≠ d := fun z => by rw [z, upd_same] at n'; cases n'
          rw [upd_ne ne] at n'
          have eg : (G.lk d (.frz o (.dK (ks.zip us)))).add a u = (G.add a u).lk d (.frz o (.dK (ks.zip us))) := lk_add ne
          rw [eg] at R3 w
          exact ⟨a, u, e1, n', R1.exk, dn (G := G.add a u) (by show upd G.keep a u d = none; rw [upd_ne ne.symm]; exact kn) R3, w⟩
theorem qe_dcK (i : Nat) (hc : X.calm = true) (hN : X.N.Nodup) (ok : BlkOk X.N X.env.scope scope own) (hg : ∀ c, QG (blkX X scope c) tg sl g) (ht : ∀ c, QCs (blkX X scope c) ifs tt) (hk : ∀ c, QE (blkX X scope c) kx tk) (he : ∀ c, QE (blkX X scope c) elt te)
    (hs : ∀ i ∈ sl, i ∈ own.map (·.2) := by decide) (hNx : X.N[i]? = some x := by rfl) (hv : Vis X.env.scope x := by first | exact Or.inl rfl | exact Or.inr (Or.inl rfl) | exact Or.inr (Or.inr rfl)) (hd : (x == ("__debug__" : Str)) = false := by decide)
    (hcd : (x == ("__classdict__" : Str)) = false := by decide) (hf : ∀ y, foldedSetIterable (.Name x npos) X.env y = pure y := by intro _; rfl) {vs : List Nat} (hvs : vs = own.map (·.2) := by rfl) : QE X (.DictComp kx elt [⟨tg, .Name x npos, ifs, 0⟩] scope pos) (qDcK i g tt tk te vs) := by
  subst hvs
  obtain ⟨g1, p2, q2⟩ := QG.all (X := blkX X scope) (K := X.K) (fun _ => rfl) hg
  obtain ⟨t1, p3, q3⟩ := QCs.all (X := blkX X scope) (K := X.K) (fun _ => rfl) ht
  obtain ⟨k1, pk, qk⟩ := QE.all (X := blkX X scope) (K := X.K) (fun _ => rfl) hk
  obtain ⟨e1, p4, q4⟩ := QE.all (X := blkX X scope) (K := X.K) (fun _ => rfl) he
  have base := pe_dc (pos := pos) hc hN (pi_keys (pe_var (pos := npos) hNx hv hd hcd)) ok (fun s H C cl fp => p2 (s, H, C, cl, fp)) (fun s H C cl fp => p3 (s, H, C, cl, fp)) (fun s H C cl fp => pk (s, H, C, cl, fp)) (fun s H C cl fp => p4 (s, H, C, cl, fp)) hf
  exact ⟨_, pe_either (pe_lock base) base, rz_dcK q2 q3 qk q4 hs⟩
end
end Px
namespace Px
open PySem L2 PySem.Spec PyProof.Rows
/-! ### [d[x] for x in d], d one's own -/
def ownDic (ρ : En) (i : Nat) : Option (List Key × List PV) := match ρ[i]? with
  | some (.own _ (.dic ks ps)) => some (ks, ps)
  | _ => none
def qVals (i j : Nat) (ρ : En) (Q : PK1) : Prop := match ownDic ρ i with
  | some (ks, ps) => i ≠ j ∧ j < ρ.length ∧ ks.Nodup ∧ small ps.length ∧ notIo ρ j = true ∧ Q (.fr (.lst ps)) (wipeE ρ [j])
  | none => False
theorem valV_nodup : ∀ {ks : List Key} {vs : List V}, ks.Nodup → ∀ {n : Nat} {k : Key} {v : V}, (ks.zip vs)[n]? = some (k, v) → valV (ks.zip vs) k = some v
  | [], vs, _, n, k, v, e => by simp at e
  | j :: ks, [], _, n, k, v, e => by simp at e
  | j :: ks, u :: vs, h, n, k, v, e => by
    rw [List.zip_cons_cons] at e ⊢
    cases n with
    | zero =>
      simp only [List.getElem?_cons_zero, Option.some.injEq, Prod.mk.injEq] at e
      rw [valV_pos (p := (j, u)) e.1, e.2]
    | succ n =>
      rw [List.getElem?_cons_succ] at e
      have hk : k ∈ ks := by
        have := List.mem_of_getElem? e
        exact (List.of_mem_zip this).1
      have ne : ¬ j = k := fun z => (List.nodup_cons.mp h).1 (by rw [z]; exact hk)
      rw [valV_neg (p := (j, u)) ne]
      exact valV_nodup (List.nodup_cons.mp h).2 e
theorem take_snoc {α : Type} {l : List α} {n : Nat} {x : α} (e : l[n]? = some x) : l.take n ++ [x] = l.take (n + 1) := by
  rw [List.take_add_one, e]; rfl
theorem rz_vals {K : PySem.W.Frag} {i j : Nat} : Rz K (tLockE (tLc (iKeys (tVar i)) (gName j) tYes (tOp rIxD (tVar i) (tVar j)) [j])) (qVals i j) := by
  intro G H σ ρ pd Q F R h f
  unfold qVals at h
  cases e : ownDic ρ i with
  | none => rw [e] at h; exact h.elim
  | some kp =>
    obtain ⟨ks, ps⟩ := kp
    rw [e] at h
    obtain ⟨nij, lj, nd, sm, nj, q⟩ := h
    have es : ∃ b, ρ[i]? = some (.own b (.dic ks ps)) := by
      unfold ownDic at e
      split at e
      · rename_i b k p eq; cases e; exact ⟨b, eq⟩
      · cases e
    obtain ⟨b, es⟩ := es
    obtain ⟨d, e2, kd, o, hd, w⟩ := R.own i b _ es
    obtain ⟨us, eo, hl, ok, iss⟩ : ∃ us, o = .dK (ks.zip us) ∧ ks.length = us.length ∧ ks.all keyOk = true ∧ Iss K H (WS G σ ρ) ps us := by
      cases o with
      | dK kvs => obtain ⟨vs, e3, l, k, q⟩ := w; exact ⟨vs, by rw [e3], l, k, q⟩
      | _ => exact w.elim
    subst eo
    have lz : (ks.zip us).length = us.length := by rw [zip_len hl, hl]
    have lp := iss.length
    have lσ : j < σ.length := by rw [← R.len]; exact lj
    refine ⟨d, _, hd, trivial, fun od => ?_⟩
    refine ⟨.ref d, e2, d, od, rfl, .inl ⟨_, upd_same, ?_⟩⟩
    intro D hD
    have neD : D ≠ d := fun z => by rw [z, upd_same] at hD; cases hD
    have hD0 : H D = none := by rw [upd_ne neD] at hD; exact hD
    have kD : G.keep D = none := by
      cases q : G.keep D with
      | none => rfl
      | some u => rw [R.keep D u q] at hD0; cases hD0
    let Hd := upd H d (.frz od (.dK (ks.zip us)))
    refine ⟨fun n m H' => m = us.length - n ∧ n ≤ us.length ∧ H' = upd Hd D (.lst (us.take n)), ⟨us.length, by simp, Nat.zero_le _, by simp [Hd]⟩, ?_⟩
    rintro n m H' ⟨rfl, hn, rfl⟩
    have hdd : ∀ u, (upd Hd D u) d = some (.frz od (.dK (ks.zip us))) := fun u => by rw [upd_ne neD.symm]; exact upd_same
    by_cases lt : n < us.length
    · refine .inr ⟨⟨hdd _, by rw [lz]; exact lt⟩, fun H' => n + 1 ≤ us.length ∧ H' = upd Hd D (.lst (us.take (n + 1))), fun H' w => ⟨_, by omega, rfl, w⟩, ?_⟩
      rintro x H3 ⟨rfl, k, v, e3, rfl⟩
      have ev : us[n]? = some v := by rw [List.getElem?_zip_eq_some] at e3; exact e3.2
      show L2.wipe ((L2.wipe σ [j]).set j (some (kV k))) [j] = L2.wipe σ [j] ∧ _
      refine ⟨?_, ?_⟩
      · skip
        have wa : L2.wipe ((L2.wipe σ [j]).set j (some (kV k))) [j] = L2.wipe (L2.wipe σ [j]) [j] := by
          refine wipe_agree (by rw [List.length_set]) fun i hi => ix_ne (fun (z : j = i) => hi ?_)
          rw [z]; exact List.mem_singleton_self i
        rw [wa, wipe_wipe]
      · simp only [tYes, ↓reduceIte]
        refine ⟨.ref d, ?_, kV k, ?_, d, _, k, v, rfl, .inr ⟨od, hdd _⟩, rfl, valV_nodup nd e3, us.take n, upd_same, ?_, lt, ?_⟩
        · rw [ix_ne (fun z => nij z.symm), wipe_out (by simp [nij])]; exact e2
        · rw [List.getElem?_set_self (by rw [wipe_length]; exact lσ)]
        · have : small ps.length := sm
          unfold small at this
          rw [List.length_take]; omega
        · rw [upd_upd, take_snoc ev]
    · have en : n = us.length := by omega
      subst en
      refine .inl ⟨⟨hdd _, by rw [lz]; exact Nat.le_refl _⟩, hdd _, ?_⟩
      rw [List.take_length]
      have eH : upd (upd Hd D (.lst us)) d (.dK (ks.zip us)) = upd H D (.lst us) := by
        funext b
        by_cases z1 : b = d
        · subst z1; rw [upd_same, upd_ne neD.symm]; exact hd.symm
        · rw [upd_ne z1]
          by_cases z2 : b = D
          · subst z2; rw [upd_same, upd_same]
          · rw [upd_ne z2, upd_ne z2]; show upd H d _ b = _; rw [upd_ne z1]
      rw [eH]
      have nio : notIos ρ [j] := fun v hv => by rw [List.mem_singleton] at hv; rw [hv]; exact nj
      have R2 : RE K (G.add D (.lst us)) (upd H D (.lst us)) σ (wipeE ρ [j]) pd := ((R.wipe [j] nio).add (o := .lst us) hD0 (same_new hD0) upd_same trivial).unwipe
      refine f (.fr (.lst ps)) (wipeE ρ [j]) (.ref D) _ ⟨D, _, rfl, kD, R.exk, R2, ?_⟩ q
      have ew : (wipeE ρ [j])[i]? = some (.own b (.dic ks ps)) := by
        show (ρ.set j Sl.un)[i]? = _
        rw [ix_ne (fun z => nij z.symm)]; exact es
      obtain ⟨d', e4, _, o', hd', w'⟩ := R2.own i b _ ew
      rw [e2] at e4
      cases e4
      rw [upd_ne neD.symm, hd] at hd'
      cases hd'
      obtain ⟨us', ez, l', _, q'⟩ := w'
      have : us' = us := by
        have z := congrArg (List.map Prod.snd) ez
        rw [List.map_snd_zip (by omega), List.map_snd_zip (by omega)] at z
        exact z.symm
      subst this
      exact q'
section
variable {X : Cx} {scope : Scope} {own : List (Str × Nat)} {pos npos p1 p2 p3 p4 spos py : Pos} {x o y : Str}
theorem pvx (i : Nat) (hN : X.N[i]? = some x := by rfl) (hv : Vis X.env.scope x := by first | exact Or.inl rfl | exact Or.inr (Or.inl rfl) | exact Or.inr (Or.inr rfl)) (hd : (x == ("__debug__" : Str)) = false := by decide)
    (hcd : (x == ("__classdict__" : Str)) = false := by decide) : PE X (.Name x pos) (tVar i) := pe_var hN hv hd hcd
theorem pgx (i : Nat) (hN : X.N.Nodup) (hi : X.N[i]? = some x := by rfl) (hx : Loc X.env.scope x := by first | exact Or.inl rfl | exact Or.inr rfl) (hf : X.fn x = true ∨ X.env.scope.names.lookup x = some .local := by first | exact .inl rfl | exact .inr rfl) : PG X (.Name x pos) (gName i) := pg_name hN hi hx hf
theorem pe_ixx {i j : Nat} {a b : Expr} (ha : PE X a (tVar i)) (hb : PE X b (tVar j)) (hs : PlainIx b := by intro _ _; rfl) : PE X (.Subscript a b pos) (tOp rIxD (tVar i) (tVar j)) := pe_ix ix_dict ha hb hs
theorem qe_vals (i j : Nat) (hc : X.calm = true) (hN : X.N.Nodup) (ok : BlkOk X.N X.env.scope scope own) (he : ∀ c, PE (blkX X scope c) (.Subscript (.Name x p1) (.Name o p2) p3) (tOp rIxD (tVar i) (tVar j))) (hg : ∀ c, PG (blkX X scope c) (.Name o p4) (gName j))
    (hNx : X.N[i]? = some x := by rfl) (hv : Vis X.env.scope x := by first | exact Or.inl rfl | exact Or.inr (Or.inl rfl) | exact Or.inr (Or.inr rfl)) (hd : (x == ("__debug__" : Str)) = false := by decide)
    (hcd : (x == ("__classdict__" : Str)) = false := by decide) (hf : ∀ y, foldedSetIterable (.Name x npos) X.env y = pure y := by intro _; rfl) (hvs : [j] = own.map (·.2) := by rfl) : QE X (.ListComp (.Subscript (.Name x p1) (.Name o p2) p3) [⟨.Name o p4, .Name x npos, [], 0⟩] scope pos) (qVals i j) := by
  have base := pe_lc (pos := pos) hc hN (pi_keys (pe_var (pos := npos) hNx hv hd hcd)) ok (fun s H C cl fp => hg (s, H, C, cl, fp)) (fun s H C cl fp => pts_nil) (fun s H C cl fp => he (s, H, C, cl, fp)) hf
  rw [← hvs] at base
  exact ⟨_, pe_lock base, rz_vals⟩
theorem qs_setVals (k i j : Nat) (hc : X.calm = true) (hN : X.N.Nodup) (hsw : swapsWith (.ListComp (.Subscript (.Name x p1) (.Name o p2) p3) [⟨.Name o p4, .Name x npos, [], 0⟩] scope pos) (some (.Name y py)) spos.line X.env = pure true) (ok : BlkOk X.N X.env.scope scope own) (he : ∀ c, PE (blkX X scope c) (.Subscript (.Name x p1) (.Name o p2) p3) (tOp rIxD (tVar i) (tVar j))) (hg : ∀ c, PG (blkX X scope c) (.Name o p4) (gName j))
    (hy : X.N[k]? = some y := by rfl) (hyl : X.env.scope.names.lookup y = some .local := by rfl) (hNx : X.N[i]? = some x := by rfl) (hv : Vis X.env.scope x := by first | exact Or.inl rfl | exact Or.inr (Or.inl rfl) | exact Or.inr (Or.inr rfl)) (hd : (x == ("__debug__" : Str)) = false := by decide)
    (hcd : (x == ("__classdict__" : Str)) = false := by decide) (hf : ∀ y, foldedSetIterable (.Name x npos) X.env y = pure y := by intro _; rfl) (hvs : [j] = own.map (·.2) := by rfl) : QS X (.Assign [.Name y py] (.ListComp (.Subscript (.Name x p1) (.Name o p2) p3) [⟨.Name o p4, .Name x npos, [], 0⟩] scope pos) spos) (qSet k (qVals i j)) := by
  have base := ps_setLc (i := k) (pos := pos) (py := py) hc hN hy hyl hsw (pi_keys (pe_var (pos := npos) hNx hv hd hcd)) ok (fun s H C cl fp => hg (s, H, C, cl, fp)) (fun s H C cl fp => pts_nil) (fun s H C cl fp => he (s, H, C, cl, fp)) hf
  rw [← hvs] at base
  exact ⟨tAsg (tLockE (tLc (iKeys (tVar i)) (gName j) tYes (tOp rIxD (tVar i) (tVar j)) [j])) (gName k), ps_lock base, rz_set rz_vals⟩
end
end Px
namespace Px
open PySem L2 PySem.Spec PyProof.Rows
/-! ### a comprehension over two -/
/-- walked, whatever else is kept -/
def RzI0 (K : PySem.W.Frag) (wi : TI) (t : QTI) : Prop := ∀ (G : Gd) (H : Hp) (σ : L2.St) (ρ : En) (pd : Pds) (Q : List PV → En → Prop) (F : It → Hp → Prop), RE K G H σ ρ pd → t ρ Q →
    (∀ J ps ρ' pd1 H', (∀ x ∈ pd, x ∈ pd1) → RE K G H' σ ρ' pd1 → Wk K J ps pd1 (fun _ => none) → Q ps ρ' → F J H') → wi σ H F
structure QI0 (X : Cx) (tg iter : Expr) (t : QTI) : Prop where
  ex : ∃ wi, PI X tg iter wi ∧ RzI0 X.K wi t
theorem QI0.all {ι : Type} {X : ι → Cx} {tg iter : Expr} {t : QTI} {K : PySem.W.Frag} (hK : ∀ c, (X c).K = K) (h : ∀ c, QI0 (X c) tg iter t) : ∃ wi, (∀ c, PI (X c) tg iter wi) ∧ RzI0 K wi t := by
  refine ⟨fun σ H F => ∀ c, (Classical.choose (h c).ex) σ H F, fun c => ⟨fun pins s σ H Q I hw => (Classical.choose_spec (h c).ex).1.run pins s σ H Q I (hw c)⟩, fun G H σ ρ pd Q F R1 hq f c => ?_⟩
  have z : RzI0 (X c).K (Classical.choose (h c).ex) t := (Classical.choose_spec (h c).ex).2
  exact z G H σ ρ pd Q F (by rw [hK c]; exact R1) hq (by rw [hK c]; exact f)
section
variable {X : Cx} {tg e a b : Expr} {te : QT} {tr : QTA}
theorem qi0_seq (h : QE X e te) : QI0 X tg e (qIt te) := by
  obtain ⟨t, p, q⟩ := h.ex
  refine ⟨_, pi_seq p, fun G H σ ρ pd Q F R1 hw f => ?_⟩
  refine q G H σ ρ pd _ _ R1 hw fun r ρ1 v H1 s g => ?_
  have s' := s.wk
  cases e1 : r.wk with
  | pv p =>
    rw [e1] at s' g
    cases p with
    | lst ps =>
      obtain ⟨a, vs, e2, _, r2, _⟩ : ∃ a vs, v = .ref a ∧ ¬ WS G σ ρ1 a ∧ H1 a = some (.lst vs) ∧ Iss X.K H1 (WS G σ ρ1) ps vs := s'.pd (.lst ps, v) List.mem_cons_self
      subst e2
      exact .inl ⟨a, rfl, ⟨vs, .inl (.inl r2)⟩, f _ _ ρ1 ((.lst ps, .ref a) :: pd) H1 (fun x hx => List.mem_cons_of_mem _ hx) s' wk_list g⟩
    | tup ps =>
      obtain ⟨a, vs, e2, r2, _⟩ : ∃ a vs, v = .ref a ∧ H1 a = some (.tup vs) ∧ Iss X.K H1 (WS G σ ρ1) ps vs := s'.pd (.tup ps, v) List.mem_cons_self
      subst e2
      exact .inr (.inl ⟨a, rfl, ⟨vs, .inl (.inl r2)⟩, f _ _ ρ1 ((.tup ps, .ref a) :: pd) H1 (fun x hx => List.mem_cons_of_mem _ hx) s' wk_tup g⟩)
    | str s0 =>
      obtain ⟨e2, ok⟩ : v = .str s0 ∧ sOk s0 = true := s'.pd (.str s0, v) List.mem_cons_self
      subst e2
      exact .inr (.inr ⟨s0, rfl, f _ _ ρ1 ((.str s0, .str s0) :: pd) H1 (fun x hx => List.mem_cons_of_mem _ hx) s' (wk_str ok) g⟩)
    | scr ns =>
      obtain ⟨a, e2, q⟩ : ∃ a, v = .ref a ∧ ((∃ o, H1 a = some (.frz o (.lst (ns.map V.int)))) ∨ KLst X.K a (ns.map V.int)) := s'.pd (.scr ns, v) List.mem_cons_self
      subst e2
      have sq : SqL X.K H1 a (ns.map V.int) := by
        rcases q with ⟨o, q⟩ | q
        · exact .inl (.inr ⟨o, q⟩)
        · exact .inr q
      exact .inl ⟨a, rfl, ⟨_, sq⟩, f _ _ ρ1 ((.scr ns, .ref a) :: pd) H1 (fun x hx => List.mem_cons_of_mem _ hx) s' wk_scr g⟩
    | _ => exact g.elim
  | sl j => rw [e1] at g; exact g.elim
  | fr q => rw [e1] at g; exact g.elim
theorem qi0_range1 {p pos : Pos} (hm : X.mg "range" = none) (ha : QA X [a] tr) (hg : Gl X "range" := by rfl) (hs : starEach [a] X.env = [(false, eval a X.env)] := by rfl) : QI0 X tg (.Call (.Name "range" p) [a] [] pos) (qRng1 tr) := by
  obtain ⟨t, p, q⟩ := ha.ex
  refine ⟨_, pi_range1 hg hm p hs, fun G H σ ρ pd Q F R1 hw f => ?_⟩
  refine q G H σ ρ pd _ _ R1 hw fun rs ρ1 pd1 vs H1 sb R2 ar g => ?_
  cases ar with
  | nil => exact g.elim
  | @cons r v rs vs h1 t1 =>
    cases t1 with
    | cons _ _ => cases r with
      | pv p => cases p <;> exact g.elim
      | _ => exact g.elim
    | nil =>
      cases r with
      | pv p =>
        cases p with
        | int n =>
          have e : v = .int n := R2.pd _ h1
          subst e
          exact ⟨n, rfl, g.1.1, g.1.2, f _ _ ρ1 pd1 H1 sb R2 wk_rng g.2⟩
        | _ => exact g.elim
      | _ => exact g.elim
theorem qi0_range2 {p pos : Pos} (hm : X.mg "range" = none) (ha : QA X [a, b] tr) (hg : Gl X "range" := by rfl) (hs : starEach [a, b] X.env = [(false, eval a X.env), (false, eval b X.env)] := by rfl) (hs2 : starEach [b] X.env = [(false, eval b X.env)] := by rfl) :
    QI0 X tg (.Call (.Name "range" p) [a, b] [] pos) (qRng2 tr) := by
  obtain ⟨t, p, q⟩ := ha.ex
  refine ⟨_, pi_range2 hg hm p hs hs2, fun G H σ ρ pd Q F R1 hw f => ?_⟩
  refine q G H σ ρ pd _ _ R1 hw fun rs ρ1 pd1 vs H1 sb R2 ar g => ?_
  match rs, vs, ar, g with
  | [.pv (.int m), .pv (.int n)], [v, w], .cons h1 (.cons h2 .nil), g =>
    have e : v = .int m := R2.pd _ h1
    have e' : w = .int n := R2.pd _ h2
    subst e e'
    exact ⟨m, n, rfl, ⟨g.1.1.1, g.1.1.2, g.1.2.1, g.1.2.2⟩, f _ _ ρ1 pd1 H1 sb R2 wk_rng g.2⟩
end
def lc2Go (g : QTG) (tt : QTT) (ti1 : QTI) (g1 : QTG) (tt1 : QTT) (te : QT) (vs vs1 : List Nat) (Q : List PV → En → Prop) : List PV → List PV → En → Prop
  | [], acc, ρ => Q acc ρ
  | p :: ps, acc, ρ => g p ρ fun ρ1 => tt ρ1 fun b ρ2 => Br b (ti1 ρ2 fun qs ρ3 => notIos ρ3 vs1 ∧ lcGo g1 tt1 te vs1 (fun acc' ρ4 => notIos ρ4 vs ∧ lc2Go g tt ti1 g1 tt1 te vs vs1 Q ps acc' (wipeE ρ4 vs)) qs acc (wipeE ρ3 vs1))
      (notIos ρ2 vs ∧ lc2Go g tt ti1 g1 tt1 te vs vs1 Q ps acc (wipeE ρ2 vs))
def lc2R (g : QTG) (tt : QTT) (ti1 : QTI) (g1 : QTG) (tt1 : QTT) (te : QT) (vs vs1 : List Nat) (ps : List PV) (ρ : En) (Q : PK1) (_ : Dum Q) : Prop := lc2Go g tt ti1 g1 tt1 te vs vs1 (fun acc ρ' => Q (.fr (.lst acc)) ρ') ps [] ρ
def qLc2 (ti : QTI) (g : QTG) (tt : QTT) (ti1 : QTI) (g1 : QTG) (tt1 : QTT) (te : QT) (vs vs1 : List Nat) (ρ : En) (Q : PK1) : Prop := ti ρ fun ps ρ1 => notIos ρ1 vs ∧ lc2R g tt ti1 g1 tt1 te vs vs1 ps (wipeE ρ1 vs) Q .mk
theorem iss_of_pd {K : PySem.W.Frag} {H : Hp} {W : Addr → Prop} : ∀ {acc : List PV} {av : List V}, acc.length = av.length → (∀ x ∈ acc.zip av, Is K H W x.1 x.2) → Iss K H W acc av
  | [], [], _, _ => rfl
  | [], _ :: _, h, _ => by simp at h
  | _ :: _, [], h, _ => by simp at h
  | p :: acc, v :: av, h, hall => ⟨v, av, rfl, hall (p, v) List.mem_cons_self, iss_of_pd (by simpa using h) fun x hx => hall x (List.mem_cons_of_mem _ hx)⟩
theorem rz_lc2 {K : PySem.W.Frag} {wi wi1 : TI} {g gg1 : TG} {tt tt1 : TT} {te : TE} {vs vs1 sl sl1 : List Nat} {ti ti1 : QTI} {qg qg1 : QTG} {qt qt1 : QTT} {qe : QT} (h1 : RzI K wi ti) (h2 : RzG K g sl qg) (h3 : RzT K tt qt) (i1 : RzI0 K wi1 ti1) (g1 : RzG K gg1 sl1 qg1) (t1 : RzT K tt1 qt1) (h4 : Rz K te qe)
    (hs : ∀ i ∈ sl, i ∈ vs) (hs1 : ∀ i ∈ sl1, i ∈ vs1) : Rz K (tLc2 wi g tt wi1 gg1 tt1 te vs vs1) (qLc2 ti qg qt ti1 qg1 qt1 qe vs vs1) := by
  intro G H σ ρ pd Q F R1 hw f
  refine h1 G H σ ρ pd _ _ R1 hw fun J ps ρ1 pd1 H1 sb R2 wk ⟨nio, go⟩ D hD => ?_
  have kx := R2.exk
  have kD : G.keep D = none := by
    cases q : G.keep D with
    | none => rfl
    | some u => rw [R2.keep D u q] at hD; cases hD
  let W : Nat → Nat → Hp → Prop := fun i m H => m = ps.length - i ∧ i ≤ ps.length ∧ ∃ (ρ' : En) (acc : List PV) (av : List V), RE K (G.add D (.lst av)) H (L2.wipe σ vs) (wipeE ρ' vs) (acc.zip av ++ pd1) ∧ acc.length = av.length ∧ lc2Go qg qt ti1 qg1 qt1 qe vs vs1 (fun acc ρ' => Q (.fr (.lst acc)) ρ') (ps.drop i) acc (wipeE ρ' vs)
  refine ⟨W, ⟨ps.length, by simp, Nat.zero_le _, ρ1, [], [], ?_, rfl, go⟩, ?_⟩
  · exact (R2.wipe vs nio).add (o := .lst []) hD (same_new hD) upd_same trivial
  rintro i m H2 ⟨rfl, hi, ρ', acc, av, R3, la, q1⟩
  by_cases lt : i < ps.length
  · have ep : ps[i]? = some ps[i] := List.getElem?_eq_getElem lt
    obtain ⟨jg, jy⟩ := wk.item _ H2 _ _ _ i _ (fun x hx => List.mem_append_right _ hx) (add_keep kD fun _ _ e => e) R3 ep
    refine .inr ⟨jg, fun H' => W (i + 1) (ps.length - (i + 1)) H', fun H' w => ⟨_, by omega, w⟩, fun x H3 y => ?_⟩
    have R4 := jy x H3 y
    rw [List.drop_eq_getElem_cons lt] at q1
    refine h2 _ H3 _ _ _ _ x _ _ R4 q1 fun σ2 ρ2 H4 l2 k2 R5 g2 => ?_
    have wa : L2.wipe σ2 vs = L2.wipe σ vs := by
      rw [← wipe_wipe σ vs]
      exact wipe_agree l2 fun j hj => k2 j fun z => hj (hs j z)
    refine ⟨wa, h3 _ H4 σ2 ρ2 _ _ _ R5 g2 fun b ρ3 H5 R6 g3 => ?_⟩
    cases b with
    | false =>
      obtain ⟨n3, g4⟩ := g3.2 rfl
      refine ⟨rfl, lt, ρ3, acc, av, ?_, la, g4⟩
      have R7 := R6.wipe vs n3
      rw [wa] at R7
      exact R7
    | true =>
      have g4 := g3.1 rfl
      show wi1 σ2 H5 _
      refine i1 _ H5 σ2 ρ3 _ _ _ R6 g4 fun J1 qs ρ4 pd2 H6 sb2 R7 wk1 ⟨nio1, go1⟩ => ?_
      refine ⟨fun j k H => k = qs.length - j ∧ j ≤ qs.length ∧ ∃ (ρ' : En) (acc' : List PV) (av' : List V), RE K (G.add D (.lst av')) H (L2.wipe σ2 vs1) (wipeE ρ' vs1) (acc'.zip av' ++ pd2) ∧ acc'.length = av'.length ∧
        lcGo qg1 qt1 qe vs1 (fun acc' ρ4 => notIos ρ4 vs ∧ lc2Go qg qt ti1 qg1 qt1 qe vs vs1 (fun acc ρ' => Q (.fr (.lst acc)) ρ') (ps.drop (i + 1)) acc' (wipeE ρ4 vs)) (qs.drop j) acc' (wipeE ρ' vs1), ⟨qs.length, by simp, Nat.zero_le _, ρ4, acc, av, ?_, la, go1⟩, ?_⟩
      · refine (R7.wipe vs1 nio1).pds fun x hx => ?_
        rcases List.mem_append.mp hx with hx | hx
        · exact sb2 x (List.mem_append_left _ hx)
        · exact hx
      rintro j k H7 ⟨rfl, hj, ρ5, acc', av', R8, la', g5⟩
      by_cases lt1 : j < qs.length
      · have eq1 : qs[j]? = some qs[j] := List.getElem?_eq_getElem lt1
        obtain ⟨jg1, jy1⟩ := wk1.item _ H7 _ _ _ j _ (fun x hx => List.mem_append_right _ hx) (fun _ _ e => by cases e) R8 eq1
        refine .inr ⟨jg1, fun H' => j + 1 ≤ qs.length ∧ ∃ (ρ' : En) (acc' : List PV) (av' : List V), RE K (G.add D (.lst av')) H' (L2.wipe σ2 vs1) (wipeE ρ' vs1) (acc'.zip av' ++ pd2) ∧ acc'.length = av'.length ∧
          lcGo qg1 qt1 qe vs1 (fun acc' ρ4 => notIos ρ4 vs ∧ lc2Go qg qt ti1 qg1 qt1 qe vs vs1 (fun acc ρ' => Q (.fr (.lst acc)) ρ') (ps.drop (i + 1)) acc' (wipeE ρ4 vs)) (qs.drop (j + 1)) acc' (wipeE ρ' vs1), fun H' w => ⟨_, by omega, rfl, w⟩, fun x1 H8 y1 => ?_⟩
        have R9 := jy1 x1 H8 y1
        rw [List.drop_eq_getElem_cons lt1] at g5
        refine g1 _ H8 _ _ _ _ x1 _ _ R9 g5 fun σ3 ρ6 H9 l3 k3 R10 g6 => ?_
        have wa1 : L2.wipe σ3 vs1 = L2.wipe σ2 vs1 := by
          rw [← wipe_wipe σ2 vs1]
          exact wipe_agree l3 fun j hj => k3 j fun z => hj (hs1 j z)
        refine ⟨wa1, t1 _ H9 σ3 ρ6 _ _ _ R10 g6 fun b1 ρ7 H10 R11 g7 => ?_⟩
        cases b1 with
        | false =>
          obtain ⟨n7, g8⟩ := g7.2 rfl
          refine ⟨lt1, ρ7, acc', av', ?_, la', g8⟩
          have R12 := R11.wipe vs1 n7
          rw [wa1] at R12
          exact R12
        | true =>
          have g8 := g7.1 rfl
          show te σ3 H10 _
          refine h4 _ H10 σ3 ρ7 _ _ _ R11 g8 fun r ρ8 v H11 s g9 => ?_
          have s' := s.wk
          cases er : r.wk with
          | pv q =>
            rw [er] at s' g9
            obtain ⟨sm, n8, g10⟩ := g9
            have R12 : RE K (G.add D (.lst av')) H11 σ3 ρ8 ((q, v) :: (acc'.zip av' ++ pd2)) := s'
            refine ⟨av', R12.keep D _ upd_same, by rw [← la']; exact sm, lt1, ρ8, acc' ++ [q], av' ++ [v], ?_, by simp [la'], g10⟩
            have R13 := (R12.wipe vs1 n8).readd (o' := .lst (av' ++ [v])) trivial
            rw [wa1] at R13
            refine R13.pds fun x hx => ?_
            rw [List.zip_append la'] at hx
            rcases List.mem_append.mp hx with hx | hx
            · rcases List.mem_append.mp hx with hx | hx
              · exact List.mem_cons_of_mem _ (List.mem_append_left _ hx)
              · have : x = (q, v) := by simpa using hx
                rw [this]; exact List.mem_cons_self
            · exact List.mem_cons_of_mem _ (List.mem_append_right _ hx)
          | sl j => rw [er] at g9; exact g9.elim
          | fr q => rw [er] at g9; exact g9.elim
      · have e : j = qs.length := by omega
        subst e
        refine .inl ⟨wk1.stop _ H7 _ _ _ _ (fun x hx => List.mem_append_right _ hx) (fun _ _ e => by cases e) R8 (Nat.le_refl _), ?_⟩
        rw [List.drop_length] at g5
        obtain ⟨n6, g6⟩ := g5
        refine ⟨rfl, lt, wipeE ρ5 vs1, acc', av', ?_, la', g6⟩
        have R9 := R8.unwipe.wipe vs n6
        rw [wa] at R9
        refine R9.pds fun x hx => ?_
        rcases List.mem_append.mp hx with hx | hx
        · exact List.mem_append_left _ hx
        · exact List.mem_append_right _ (sb2 x (List.mem_append_right _ hx))
  · have e : i = ps.length := by omega
    subst e
    refine .inl ⟨wk.stop _ H2 _ _ _ _ (fun x hx => List.mem_append_right _ hx) (add_keep kD fun _ _ e => e) R3 (Nat.le_refl _), ?_⟩
    rw [List.drop_length] at q1
    have R4 := R3.unwipe
    refine f (.fr (.lst acc)) (wipeE ρ' vs) (.ref D) H2 ⟨D, .lst av, rfl, kD, kx, R4.pds fun x hx => List.mem_append_right _ (sb x hx), ?_⟩ q1
    exact iss_of_pd la fun x hx => R4.pd x (List.mem_append_left _ hx)
section
variable {X : Cx} {elt tg iter tg1 iter1 : Expr} {ifs ifs1 : List Expr} {scope : Scope} {own : List (Str × Nat)} {pos spos py : Pos} {y : Str} {ti ti1 : QTI} {g g1 : QTG} {tt tt1 : QTT} {te : QT} {sl sl1 : List Nat}
theorem qe_lc2 (hc : X.calm = true) (hN : X.N.Nodup) (ok : BlkOk X.N X.env.scope scope own) (hi : QI X tg iter ti) (hg : ∀ c, QG (blkX X scope c) tg sl g) (ht : ∀ c, QCs (blkX X scope c) ifs tt) (hi1 : ∀ c, QI0 (blkX X scope c) tg1 iter1 ti1) (hg1 : ∀ c, QG (blkX X scope c) tg1 sl1 g1) (ht1 : ∀ c, QCs (blkX X scope c) ifs1 tt1) (he : ∀ c, QE (blkX X scope c) elt te) {vs1 : List Nat}
    (hv : ∀ i ∈ vs1, i ∈ own.map (·.2) := by decide) (hs : ∀ i ∈ sl, i ∈ own.map (·.2) := by decide) (hs1 : ∀ i ∈ sl1, i ∈ vs1 := by decide) (hf : ∀ x, foldedSetIterable iter X.env x = pure x := by intro _; rfl) (hf1 : ∀ env x, foldedSetIterable iter1 env x = pure x := by intro _ _; rfl) {vs : List Nat} (hvs : vs = own.map (·.2) := by rfl) :
    QE X (.ListComp elt [⟨tg, iter, ifs, 0⟩, ⟨tg1, iter1, ifs1, 0⟩] scope pos) (qLc2 ti g tt ti1 g1 tt1 te vs vs1) := by
  subst hvs
  obtain ⟨wi, p1, q1⟩ := hi.ex
  obtain ⟨g1', p2, q2⟩ := QG.all (X := blkX X scope) (K := X.K) (fun _ => rfl) hg
  obtain ⟨t1, p3, q3⟩ := QCs.all (X := blkX X scope) (K := X.K) (fun _ => rfl) ht
  obtain ⟨e1, p4, q4⟩ := QE.all (X := blkX X scope) (K := X.K) (fun _ => rfl) he
  obtain ⟨w1, p5, q5⟩ := QI0.all (X := blkX X scope) (K := X.K) (fun _ => rfl) hi1
  obtain ⟨gg, p6, q6⟩ := QG.all (X := blkX X scope) (K := X.K) (fun _ => rfl) hg1
  obtain ⟨t2, p7, q7⟩ := QCs.all (X := blkX X scope) (K := X.K) (fun _ => rfl) ht1
  exact ⟨_, pe_lc2 hc hN p1 ok hv (fun s H C cl fp => p2 (s, H, C, cl, fp)) (fun s H C cl fp => p3 (s, H, C, cl, fp)) (fun s H C cl fp => p5 (s, H, C, cl, fp)) (fun s H C cl fp => p6 (s, H, C, cl, fp)) (fun s H C cl fp => p7 (s, H, C, cl, fp)) (fun s H C cl fp => p4 (s, H, C, cl, fp)) hf hf1, rz_lc2 q1 q2 q3 q5 q6 q7 q4 hs hs1⟩
theorem qs_setLc2 (i : Nat) (hc : X.calm = true) (hN : X.N.Nodup) (hsw : swapsWith (.ListComp elt [⟨tg, iter, ifs, 0⟩, ⟨tg1, iter1, ifs1, 0⟩] scope pos) (some (.Name y py)) spos.line X.env = pure true) (ok : BlkOk X.N X.env.scope scope own) (hi : QI X tg iter ti) (hg : ∀ c, QG (blkX X scope c) tg sl g) (ht : ∀ c, QCs (blkX X scope c) ifs tt) (hi1 : ∀ c, QI0 (blkX X scope c) tg1 iter1 ti1) (hg1 : ∀ c, QG (blkX X scope c) tg1 sl1 g1) (ht1 : ∀ c, QCs (blkX X scope c) ifs1 tt1) (he : ∀ c, QE (blkX X scope c) elt te) {vs1 : List Nat}
    (hv : ∀ i ∈ vs1, i ∈ own.map (·.2) := by decide) (hs : ∀ i ∈ sl, i ∈ own.map (·.2) := by decide) (hs1 : ∀ i ∈ sl1, i ∈ vs1 := by decide) (hy : X.N[i]? = some y := by rfl) (hyl : X.env.scope.names.lookup y = some .local := by rfl) (hf : ∀ x, foldedSetIterable iter X.env x = pure x := by intro _; rfl) (hf1 : ∀ env x, foldedSetIterable iter1 env x = pure x := by intro _ _; rfl) {vs : List Nat} (hvs : vs = own.map (·.2) := by rfl) :
    QS X (.Assign [.Name y py] (.ListComp elt [⟨tg, iter, ifs, 0⟩, ⟨tg1, iter1, ifs1, 0⟩] scope pos) spos) (qSet i (qLc2 ti g tt ti1 g1 tt1 te vs vs1)) := by
  subst hvs
  obtain ⟨wi, p1, q1⟩ := hi.ex
  obtain ⟨g1', p2, q2⟩ := QG.all (X := blkX X scope) (K := X.K) (fun _ => rfl) hg
  obtain ⟨t1, p3, q3⟩ := QCs.all (X := blkX X scope) (K := X.K) (fun _ => rfl) ht
  obtain ⟨e1, p4, q4⟩ := QE.all (X := blkX X scope) (K := X.K) (fun _ => rfl) he
  obtain ⟨w1, p5, q5⟩ := QI0.all (X := blkX X scope) (K := X.K) (fun _ => rfl) hi1
  obtain ⟨gg, p6, q6⟩ := QG.all (X := blkX X scope) (K := X.K) (fun _ => rfl) hg1
  obtain ⟨t2, p7, q7⟩ := QCs.all (X := blkX X scope) (K := X.K) (fun _ => rfl) ht1
  exact ⟨_, ps_setLc2 hc hN hy hyl hsw p1 ok hv (fun s H C cl fp => p2 (s, H, C, cl, fp)) (fun s H C cl fp => p3 (s, H, C, cl, fp)) (fun s H C cl fp => p5 (s, H, C, cl, fp)) (fun s H C cl fp => p6 (s, H, C, cl, fp)) (fun s H C cl fp => p7 (s, H, C, cl, fp)) (fun s H C cl fp => p4 (s, H, C, cl, fp)) hf hf1, rz_set (rz_lc2 q1 q2 q3 q5 q6 q7 q4 hs hs1)⟩
end
end Px
namespace Px
open PySem L2 PySem.Spec PyProof.Rows PySem.W
/-! ### <, > and sorted of data -/
def dOk (p q : PV) : Prop := eqOkW p ∧ eqOkW q ∧ alike (toD p) (toD q) = true ∧ isNon p = false
def ltX (p q : PV) : Bool := dataLt (toD p) (toD q)
def gLtX (p q : PV) (Q : R → Prop) : Prop := dOk p q ∧ Q (.pv (.bl (ltX p q)))
def gGtX (p q : PV) (Q : R → Prop) : Prop := dOk p q ∧ Q (.pv (.bl (ltX q p)))
theorem toD_none {p : PV} (h : isNon p = false) : toD p ≠ .none := by
  intro e
  cases p <;> first | (simp [isNon] at h; done) | (rw [toD] at e; cases e)
mutual
theorem depth_toD : ∀ {p : PV}, plain p = true → (toD p).depth = dep p
  | .non, _ => rfl
  | .bl _, _ => rfl
  | .int _, _ => rfl
  | .str _, _ => rfl
  | .tup ps, h => by rw [toD, PyData.depth, dep, depth_toDs (by rw [plain] at h; exact h)]
  | .lst ps, h => by rw [toD, PyData.depth, dep, depth_toDs (by rw [plain] at h; exact h)]
  | .dic _ _, h => by simp [plain] at h
  | .scr _, h => by simp [plain] at h
  | .ty _, h => by simp [plain] at h
theorem depth_toDs : ∀ {ps : List PV}, plains ps = true → PyData.depthAll (toDs ps) = deps ps
  | [], _ => rfl
  | p :: ps, h => by
    rw [plains, Bool.and_eq_true] at h
    rw [toDs, PyData.depthAll, deps, depth_toD h.1, depth_toDs h.2]
end
section
variable {X : Cx}
def rLtL (K : PySem.W.Frag) (gt : Bool) : R2 := fun x y H Q => ∃ d e, Dp K H x d ∧ Dp K H y e ∧ (d.canLay0 = true ∧ d.depth ≤ 190) ∧ alike d e = true ∧ d ≠ .none ∧ Q (.bl (if gt = true then dataLt e d else dataLt d e)) H
theorem op_ltL (hu : X.A.units + 190 < cLine) : OpR X (compareOp .Lt) (rLtL X.K false) := by
  intro pins s σ H x y v u Q I rx ry h
  obtain ⟨d, e, hd, he, sd, al, nn, q⟩ := h
  obtain ⟨as, r1⟩ := Dp.reads I d x v hd rx
  obtain ⟨bs, r2⟩ := Dp.reads I e y u he ry
  exact PySem.W.lt_data r1 r2 al nn (by have := Nat.min_le_left d.depth e.depth; have := sd.2; omega) ⟨.bl _, H, I, rfl, q⟩
theorem op_gtL (hu : X.A.units + 190 < cLine) : OpR X (compareOp .Gt) (rLtL X.K true) := by
  intro pins s σ H x y v u Q I rx ry h
  obtain ⟨d, e, hd, he, sd, al, nn, q⟩ := h
  obtain ⟨as, r1⟩ := Dp.reads I d x v hd rx
  obtain ⟨bs, r2⟩ := Dp.reads I e y u he ry
  exact PySem.W.gt_data r1 r2 al nn (by have := Nat.min_le_left d.depth e.depth; have := sd.2; omega) ⟨.bl _, H, I, rfl, q⟩
theorem op_ltX (hu : X.A.units + 190 < cLine) : OpP X (compareOp .Lt) gLtX := by
  refine ⟨_, op_ltL hu, fun H W p q x y Q F m l1 l2 z f => ?_⟩
  obtain ⟨⟨h1, h2, h3, h4⟩, h5⟩ := z
  obtain ⟨d1, c1, z1⟩ := lk_dp h1.1 l1
  obtain ⟨d2, c2, z2⟩ := lk_dp h2.1 l2
  exact ⟨_, _, d1, d2, ⟨c1, by rw [z1]; exact h1.2⟩, h3, toD_none h4, fin1 f (p := .bl _) rfl h5⟩
theorem op_gtX (hu : X.A.units + 190 < cLine) : OpP X (compareOp .Gt) gGtX := by
  refine ⟨_, op_gtL hu, fun H W p q x y Q F m l1 l2 z f => ?_⟩
  obtain ⟨⟨h1, h2, h3, h4⟩, h5⟩ := z
  obtain ⟨d1, c1, z1⟩ := lk_dp h1.1 l1
  obtain ⟨d2, c2, z2⟩ := lk_dp h2.1 l2
  exact ⟨_, _, d1, d2, ⟨c1, by rw [z1]; exact h1.2⟩, h3, toD_none h4, fin1 f (p := .bl _) rfl h5⟩
theorem room190 {k : Nat} {A : Around} (hr : Room k A) : A.units + 190 < cLine := by have := hr.un; omega
theorem room200 {k : Nat} {A : Around} (hr : Room k A) : A.units + 200 < cLine := by have := hr.un; omega
def leX : PV → PV → Bool := dataLe false toD
def gSortX (ps : List PV) (Q : R → Prop) : Prop := match ps with
  | [.lst ps] => (∀ p ∈ ps, eqOkW p ∧ ∃ x r, p = .tup (x :: r)) ∧ (∀ p ∈ ps, ∀ q ∈ ps, alike (toD p) (toD q) = true) ∧ small ps.length ∧ Q (.fr (.lst (ps.mergeSort leX)))
  | _ => False
def rSortX (K : PySem.W.Frag) : List V → Hp → VK → Prop := fun vs H Q => ∃ (a : Addr) (W : Addr → Prop) (ps : List PV) (xs : List V), vs = [.ref a] ∧ H a = some (.lst xs) ∧ Iss K H W ps xs ∧ (∀ p ∈ ps, eqOkW p ∧ ∃ x r, p = .tup (x :: r)) ∧ (∀ p ∈ ps, ∀ q ∈ ps, alike (toD p) (toD q) = true) ∧ small ps.length ∧
  ∀ zs d, Iss K H W (ps.mergeSort leX) zs → H d = none → Q (.ref d) (upd H d (.lst zs))
theorem each_of {K : PySem.W.Frag} {H : Hp} {W : Addr → Prop} : ∀ {ps : List PV} {xs : List V} {us : List Value}, Iss K H W ps xs → Vals xs us → EachIs (fun u p => ∃ x : V, RelV x u ∧ Is K H W p x) us ps
  | [], xs, us, i, v => by
    cases (show xs = [] from i)
    cases v
    exact .nil
  | p :: ps, xs, us, i, v => by
    obtain ⟨x, r, rfl, h1, h2⟩ := i
    cases v with
    | cons h t => exact .cons ⟨x, h, h1⟩ (each_of h2 t)
theorem each_back {K : PySem.W.Frag} {H : Hp} {W : Addr → Prop} : ∀ {us : List Value} {ps : List PV}, EachIs (fun u p => ∃ x : V, RelV x u ∧ Is K H W p x) us ps → ∃ xs, Vals xs us ∧ Iss K H W ps xs
  | [], [], _ => ⟨[], .nil, rfl⟩
  | u :: us, p :: ps, .cons ⟨x, h1, h2⟩ t => by
    obtain ⟨xs, h3, h4⟩ := each_back t
    exact ⟨x :: xs, .cons h1 h3, x, xs, rfl, h2, h4⟩
theorem each_mem {R R' : Value → PV → Prop} : ∀ {us : List Value} {ps : List PV}, EachIs R us ps → (∀ u p, p ∈ ps → R u p → R' u p) → EachIs R' us ps
  | [], [], .nil, _ => .nil
  | u :: us, p :: ps, .cons h t, f => .cons (f u p List.mem_cons_self h) (each_mem t fun u p hp => f u p (List.mem_cons_of_mem _ hp))
theorem cr_sortX (hu : X.A.units + 200 < cLine) : CallR X (.builtin "sorted") (rSortX X.K) := by
  intro pins s σ H vs us Q I r h
  obtain ⟨a, W, ps, xs, rfl, hs, iss, ht, hal, sm, q⟩ := h
  obtain ⟨its, rv, hl, hz⟩ := I.list (.inl (.inl hs))
  obtain ⟨u, rfl, ru⟩ := vals1 r
  obtain rfl : u = Value.ref a := ru
  have ea := each_of iss rv
  refine sorted_data (enc := toD) (bs := ps) hl.isList ea (each_mem ea fun u p hp ⟨x, h1, h2⟩ => ?_) ?_ ?_ sm (fun p hp => ?_) fun out lo eo => ?_
  · obtain ⟨d1, _, _⟩ := dp_of p x (ht p hp).1.1 h2
    exact Dp.reads I _ x u d1 h1
  · intro d hd d' hd'
    obtain ⟨p, hp, rfl⟩ := List.mem_map.mp hd
    obtain ⟨q, hq, rfl⟩ := List.mem_map.mp hd'
    exact hal p hp q hq
  · refine .inl fun d hd => ?_
    obtain ⟨p, hp, rfl⟩ := List.mem_map.mp hd
    obtain ⟨_, x, r, rfl⟩ := ht p hp
    exact ⟨toD x, toDs r, by rw [toD, toDs]⟩
  · have h1 := (ht p hp).1
    have : (toD p).depth = dep p := depth_toD h1.1
    rw [this]
    have := h1.2
    omega
  · obtain ⟨zs, vz, iz⟩ := each_back eo
    obtain ⟨n, hn⟩ := sortedAll_at s.heap its out.toArray
    have kp : ∀ b o, s.heap.get? b = some o → (sortedAll s.heap its out.toArray).get? b = some o := fun b o e => sortedAll_old e
    refine ⟨.ref (s.heap.objs.size + 1), upd H (s.heap.objs.size + 1) (.lst zs), I.laid (t' := s.toks) kp (Nat.le_succ _) ⟨?_, out, n, vz, hn⟩, rfl, q zs _ iz (I.hok.fresh (Nat.le_succ _))⟩
    rw [vz.length, lo]; exact sm
theorem call_sortX (hu : X.A.units + 200 < cLine) : CallP X (.builtin "sorted") gSortX := by
  refine ⟨_, cr_sortX hu, fun H W ps xs Q F m l g f => ?_⟩
  unfold gSortX at g
  split at g
  · rename_i ps
    obtain ⟨x, rfl, h⟩ := lks1 l
    obtain ⟨a, vs, e, r, i⟩ := h
    subst e
    obtain ⟨h1, h2, h3, h4⟩ := g
    exact ⟨a, W, ps, vs, rfl, r, i, h1, h2, h3, fun zs d iz hd => f _ _ _ (same_new hd) (resLst m iz hd) h4⟩
  · exact g.elim
end
end Px
namespace Px
open PySem L2 PyProof.Rows
/-! ### a call that looks at own things and gives a new object -/
section
variable {K : PySem.W.Frag} {G : Gd} {H H' : Hp} {σ : L2.St} {ρ : En} {pd : Pds} {S : FS} {vs : List V} {ps : List PV} {js bs : List Nat}
theorem callF_end {pd0 : Pds} {v : V} {r : PV} {outs : List PV} (R1 : RE K G H σ ρ pd) (sb : ∀ x ∈ pd0, x ∈ pd) (s : SplB σ ρ pd S.io vs ps js bs) (nd : js.Nodup) (dj : ∀ j ∈ bs, j ∉ js) (iob : ∀ b, Iob S.io vs b → WS G σ ρ b) (lo : outs.length = js.length) (hf : S.fr = true) (ir : immO r = true) (io : ∀ q ∈ outs, immO q = true)
    (fin : Fin K S H (fun b => WS G σ ρ b ∧ ¬ Iob S.io vs b ∧ ¬ Bo σ bs b) G.vo vs v H' r outs) : Res K G H' σ (putOuts js outs ρ) pd0 (.fr r) v := by
  have jo := s.js
  obtain ⟨p1, p2, p3⟩ := putOuts_spec (ρ := ρ) nd lo jo
  have A : Alike ρ (putOuts js outs ρ) := by
    refine ⟨p1, fun i => ?_⟩
    by_cases hi : i ∈ js
    · obtain ⟨k, lk, e⟩ := List.getElem_of_mem hi
      have lk' : k < outs.length := by rw [lo]; exact lk
      obtain ⟨b, p, h1, h2⟩ := p3 k i outs[k] (by rw [List.getElem?_eq_getElem lk, e]) (List.getElem?_eq_getElem lk')
      exact .inr ⟨b, p, _, h1, h2⟩
    · exact .inl (p2 i hi)
  -- an owned slot that is no argument: its object stands
  have stay : ∀ (i : Nat) (b : Bool) (q : PV) (a : Addr), i ∉ js → ρ[i]? = some (Sl.own b q) → σ[i]? = some (some (V.ref a)) → ¬ Iob S.io vs a := fun i b q a hi e1 e2 ⟨m, f1, f2⟩ => by
    obtain ⟨_, l2, _⟩ := s.len
    have lm : m < ps.length := by rw [l2]; exact (List.getElem?_eq_some_iff.mp f1).1
    obtain ⟨v', g1, _, g2⟩ := s.get f1 (List.getElem?_eq_getElem lm)
    obtain ⟨j, c, mj, g3, g4⟩ := g2 rfl
    rw [f2] at g1; cases g1
    exact hi (by rw [R1.inj i j b c q _ a e1 g3 e2 g4]; exact mj)
  have keepG : ∀ b o, G.keep b = some o → H' b = some o := fun b o e => by
    refine fin.keep b o (R1.keep b o e) (fun z => ?_) fun z => by rw [(R1.ext.vo b z).2.1] at e; cases e
    rcases iob b z with w | ⟨i, c, p, e1, e2⟩
    · obtain ⟨m, f1, f2⟩ := z
      obtain ⟨_, l2, _⟩ := s.len
      have lm : m < ps.length := by rw [l2]; exact (List.getElem?_eq_some_iff.mp f1).1
      obtain ⟨v', g1, _, g2⟩ := s.get f1 (List.getElem?_eq_getElem lm)
      obtain ⟨j, c, mj, g3, g4⟩ := g2 rfl
      rw [f2] at g1; cases g1
      obtain ⟨a, h1, h2, _⟩ := R1.own j c _ g3
      rw [g4] at h1; cases h1
      rw [h2] at e; cases e
    · obtain ⟨a, h1, h2, _⟩ := R1.own i c p e1
      rw [e2] at h1; cases h1
      rw [h2] at e; cases e
  obtain ⟨a, o, rfl, na, ea, w⟩ := fin.new hf
  have kn : G.keep a = none := by
    cases q : G.keep a with
    | none => rfl
    | some u => rw [R1.keep a u q] at na; cases na
  have R2 : RE K (G.add a o) (upd H a o) σ ρ pd := R1.add na (same_new na) upd_same w.mut
  have kp2 : ∀ b u, upd H a o b = some u → ¬ WS (G.add a o) σ ρ b → H' b = some u := fun b u e n => by
    have ne : b ≠ a := fun z => n (.inl (.inl z))
    rw [upd_ne ne] at e
    exact fin.keep b u e (fun z => n ((iob b z).elim (fun w => .inl (.inr w)) .inr)) fun z => n (.inl (.inr (R1.ext.vo b z).1))
  have hn : ∀ (i : Nat) (b : Bool) (c : Nat) (z : Int), (putOuts js outs ρ)[i]? = some (Sl.own b (.nst false c z)) → G.vo c := fun i b c z e1 => by
    by_cases hi : i ∈ js
    · obtain ⟨k, lk, e⟩ := List.getElem_of_mem hi
      have lk' : k < outs.length := by rw [lo]; exact lk
      have ek : js[k]? = some i := by rw [List.getElem?_eq_getElem lk, e]
      have eo : outs[k]? = some outs[k] := List.getElem?_eq_getElem lk'
      obtain ⟨b', p, h1, h2⟩ := p3 k i outs[k] ek eo
      rw [e1] at h2
      injection h2 with h2
      injection h2 with _ h3
      obtain ⟨m, v', g1, g2, g3, g4⟩ := s.io ek eo
      exact fin.nstk m c z (by rw [h3]; exact g4)
    · rw [p2 i hi] at e1
      exact R1.ext.nst i b c z e1
  have R3 : RE K (G.add a o) H' σ (putOuts js outs ρ) pd := by
    refine R2.swap A kp2 (fun b u e => ?_) (fun i b q c e1 e2 => ?_) fin.vok hn
    · have e' : upd G.keep a o b = some u := e
      by_cases z : b = a
      · rw [z] at e' ⊢; rw [upd_same] at e'; cases e'; exact ea
      · rw [upd_ne z] at e'; exact keepG b u e'
    · by_cases hi : i ∈ js
      · obtain ⟨k, lk, e⟩ := List.getElem_of_mem hi
        have lk' : k < outs.length := by rw [lo]; exact lk
        have ek : js[k]? = some i := by rw [List.getElem?_eq_getElem lk, e]
        have eo : outs[k]? = some outs[k] := List.getElem?_eq_getElem lk'
        obtain ⟨b', p, h1, h2⟩ := p3 k i outs[k] ek eo
        rw [e1] at h2; cases h2
        obtain ⟨m, v', g1, g2, g3, g4⟩ := s.io ek eo
        rw [e2] at g3; cases g3
        obtain ⟨u, ho, w'⟩ := fin.outs m _ c g4 g2
        exact ⟨u, ho, w'.immO (io _ (List.getElem_mem lk'))⟩
      · rw [p2 i hi] at e1
        obtain ⟨d, f1, f2, u, f3, w'⟩ := R2.own i b q e1
        rw [e2] at f1; cases f1
        have nd : c ≠ a := fun z => by
          obtain ⟨d', f1', _, u', f3', _⟩ := R1.own i b q e1
          rw [e2] at f1'; cases f1'
          rw [z, na] at f3'; cases f3'
        rw [upd_ne nd] at f3
        exact ⟨u, fin.keep c u f3 (stay i b q c hi e1 e2) (R1.ext.off i b q c e1 e2), w'.move kp2 R2.mut fun _ _ w => w⟩
  exact ⟨a, o, rfl, kn, R1.exk, R3.pds sb, w.immO ir⟩
end
def callRF (S : FS) (rs : List R) (ρ1 : En) (Q : PK1) (_ : Dum Q) : Prop := match splitB ρ1 S.io rs with
  | some (ps, js, bs) => (js.Nodup ∧ (∀ j ∈ bs, j ∉ js) ∧ S.fr = true) ∧ S.pre ps ∧ ∀ r outs, S.post ps r outs → outs.length = js.length → (immO r = true ∧ ∀ q ∈ outs, immO q = true) ∧ Q (.fr r) (putOuts js outs ρ1)
  | none => False
def qCallF (S : FS) (ta : QTA) (ρ : En) (Q : PK1) : Prop := ta ρ fun rs ρ1 => callRF S rs ρ1 Q .mk
section
variable {X : Cx} {k j : Nat} {x : Str} {ps : List Str} {S : FS} {e : Expr} {es : List Expr} {t : QTA} {p pos : Pos}
theorem rz_callF {K : PySem.W.Frag} {ta : TA} {E : XK} (q : RzA K ta t) : Rz K (tCall (spP K S) [] E ta) (qCallF S t) := by
  intro G H σ ρ pd Q F R1 h ff
  refine q G H σ ρ pd _ _ R1 h fun rs ρ1 pd1 vs H1 sb R2 ar g => ?_
  unfold callRF at g
  cases es : splitB ρ1 S.io rs with
  | none => rw [es] at g; exact g.elim
  | some z =>
    obtain ⟨pvs, js, bs⟩ := z
    rw [es] at g
    have s := splB_of ar es
    show spP K S (vs ++ []) H1 F E
    rw [List.append_nil]
    obtain ⟨⟨nd, dj, hf⟩, pre, post⟩ := g
    obtain ⟨R3, iob⟩ := callB_start R2 s nd dj
    obtain ⟨l1, l2, l3⟩ := s.len
    refine ⟨pvs, _, _, l2, l1, R3, pre, fun v H' r outs hp lo fin => ?_⟩
    obtain ⟨⟨ir, io⟩, hq⟩ := post r outs hp (lo.trans l3.symm)
    exact ff _ _ v H' (callF_end R2 sb s nd dj iob (lo.trans l3.symm) hf ir io fin) hq
theorem qe_callHF (h : Has X.prog X.w X.K X.mg X.base x j ps S) (hr : Room j X.A) (ha : QA X (e :: es) t) (hg : Gl X x := by rfl) (hdb : (x == ("__debug__" : Str)) = false := by decide)
    (he : starEach (e :: es) X.env = (false, eval e X.env) :: starEach es X.env := by rfl) (hpl : (backTo pos (starEach es X.env)).any (·.1) = false := by rfl) : QE X (.Call (.Name x p) (e :: es) [] pos) (qCallF S t) := by
  obtain ⟨f, fd, F, m, kk, b, _⟩ := h.ex
  obtain ⟨ta, p1, q⟩ := ha.ex
  exact ⟨_, pe_call F hr hg m kk b .nil pass0 p1 hdb he hpl, rz_callF q⟩
end
end Px
namespace Px
open PySem L2 PyProof.Rows
/-! ### a list within an own list, reached by two ways -/
theorem iss_ints {K : PySem.W.Frag} {H : Hp} {W : Addr → Prop} : ∀ {ns : List Int} {vs : List V}, Iss K H W (ns.map PV.int) vs → vs = ns.map V.int
  | [], _, h => h
  | n :: ns, vs, h => by
    obtain ⟨v, r, rfl, h1, h2⟩ := h
    cases (show v = .int n from h1)
    rw [iss_ints h2]; rfl
/-- state[1] -/
def gIxN : G2
  | .nst _ _ s, .int i, Q => i = 1 ∧ Q (.pv (.int s))
  | _, _, _ => False
section
variable {X : Cx}
theorem ix_N : IxP X gIxN := by
  refine ⟨_, ix_list, fun H W p q x y Q F m l1 l2 z f => ?_⟩
  cases p with
  | nst t c s =>
    cases q with
    | int i =>
      obtain ⟨rfl, z⟩ : i = 1 ∧ Q (.pv (.int s)) := z
      cases (show y = _ from l2)
      obtain ⟨a, e, r⟩ := l1
      subst e
      exact ⟨a, _, 1, .int s, rfl, rfl, .inl (.inl r), atI_1, fin1 f (p := .int s) rfl z⟩
    | _ => exact z.elim
  | _ => cases q <;> exact z.elim
/-- xs.pop(0) -/
def gPop0 (p : PV) (ps : List PV) (Q : PV → PV → Prop) : Prop := match p, ps with
  | .lst (x :: xs), [.int i] => i = 0 ∧ Q x (.lst xs)
  | _, _ => False
theorem gPop0_inv {p : PV} {ps : List PV} {Q : PV → PV → Prop} (g : gPop0 p ps Q) : ∃ x xs, p = .lst (x :: xs) ∧ ps = [.int 0] ∧ Q x (.lst xs) := by
  unfold gPop0 at g
  split at g
  · obtain ⟨rfl, g⟩ := g; exact ⟨_, _, rfl, rfl, g⟩
  · exact g.elim
theorem m_pop0 : MtP X "list" "list.pop" gPop0 := by
  refine ⟨_, mt_popAt, fun H W p a o ps xs Q F m wa e w i g f => ?_⟩
  obtain ⟨q, qs, rfl, rfl, g'⟩ := gPop0_inv g
  obtain ⟨vs, rfl, w⟩ := w.lst
  obtain ⟨v, rfl, h1⟩ := i.one
  cases (show v = .int 0 from h1)
  obtain ⟨u, us, rfl, h2, h3⟩ := w
  exact ⟨a, _, 0, 0, u, rfl, rfl, e, by decide, by decide, by simp [seqIndex?], rfl, f u (.lst us) q (.lst qs) h3 h2 g'⟩
/-- state[1] = e -/
def qSetSeed (i : Nat) (t : QT) (D : PEnds) (ρ : En) : Prop := t ρ fun r ρ1 => match r with
  | .pv (.int m) => match ρ1[i]? with
    | some (Sl.own b (.nst tk c _)) => D.nx (ρ1.set i (.own b (.nst tk c m)))
    | _ => False
  | _ => False
theorem qs_setSeed {x : Str} {e : Expr} {te : QT} {j : Nat} {npos ipos spos' pos : Pos} (i : Nat) (he : QE X e te) (hN : X.N[i]? = some x := by rfl) (hv : Vis X.env.scope x := by first | exact Or.inl rfl | exact Or.inr (Or.inl rfl) | exact Or.inr (Or.inr rfl)) (hd : (x == ("__debug__" : Str)) = false := by decide)
    (hcd : (x == ("__classdict__" : Str)) = false := by decide)
    (ha : ∀ v, assign (.Subscript (.Name x npos) (.Constant (.int 1) j ipos) spos') X.env v = (do
      let ov ← holding [v] (eval (.Name x npos) X.env)
      let iv ← holding [v, ov] (eval (.Constant (.int 1) j ipos) X.env)
      standAt spos'
      holding [v, ov, iv] (setItem ov iv v)
      release [v, ov, iv] []) := by intro _; rfl)
    (hs : swapsWithSole [.Subscript (.Name x npos) (.Constant (.int 1) j ipos) spos'] e pos.line X.env = pure false := by rfl) (hw : swappedStores [.Subscript (.Name x npos) (.Constant (.int 1) j ipos) spos'] e X.env = pure none := by rfl)
    (h1 : (assignEach [.Subscript (.Name x npos) (.Constant (.int 1) j ipos) spos'] X.env).map (·.2) = [assign (.Subscript (.Name x npos) (.Constant (.int 1) j ipos) spos') X.env] := by rfl) :
    QS X (.Assign [.Subscript (.Name x npos) (.Constant (.int 1) j ipos) spos'] e pos) (qSetSeed i te) := by
  obtain ⟨t, p, q⟩ := he.ex
  refine ⟨_, ps_asg p (pg_sub (pe_var hN hv hd hcd) pe_int set_list ha) hs hw h1, fun G H σ ρ pd D' D R1 h ee => ?_⟩
  refine q G H σ ρ pd _ _ R1 h fun r ρ1 v H1 s g => ?_
  cases r with
  | sl j => exact g.elim
  | fr p => exact g.elim
  | pv qv =>
    cases qv with
    | int m =>
      have ev : v = .int m := s.pd (.int m, v) List.mem_cons_self
      subst ev
      have R2 : RE X.K G H1 σ ρ1 pd := s.re
      cases es : ρ1[i]? with
      | none => rw [es] at g; exact g.elim
      | some sv =>
        rw [es] at g
        cases sv with
        | own b pp =>
          cases pp with
          | nst tk c z =>
            obtain ⟨a, ea, k0, o, Hc, w⟩ := R2.own i b _ es
            refine ⟨.ref a, ea, ?_⟩
            cases o with
            | lst vs =>
              have w' : vs = [.ref c, .int z] := w
              subst w'
              refine ⟨a, _, 1, 1, rfl, rfl, Hc, rfl, ?_⟩
              exact ee.nx _ _ _ (R2.mutate es ea (o' := .lst [.ref c, .int m]) (p' := .nst tk c m) rfl fun c' s' z2 => by
                cases z2; exact R2.ext.nst i b c z es) g
            | _ => exact w.elim
          | _ => exact g.elim
        | _ => exact g.elim
    | _ => exact g.elim
end
def isN : Sl → Bool
  | .own _ (.nst false _ _) => true
  | _ => false
def Gd.tk (G : Gd) (k : Nat) (c : Addr) : Gd := ⟨G.keep, fun b => G.ex b ∧ b ≠ c, fun j a => G.io j a ∨ (j = k ∧ a = c), fun b => G.vo b ∧ b ≠ c⟩
def tkBack (i k c : Nat) (ρ : En) (Q : En → Prop) : Prop := match ρ[i]?, ρ[k]? with
  | some (Sl.own b (.nst true c' s)), some (Sl.own true (.lst ps)) => c' = c ∧ (∃ ns : List Int, ps = ns.map PV.int ∧ ∀ n ∈ ns, 0 ≤ n) ∧ Q ((ρ.set i (.own b (.nst false c s))).set k .un)
  | _, _ => False
def tkRt (i k c : Nat) (D : PEnds) (r : R) (ρ : En) : Prop := match r with
  | .pv p => tkBack i k c ρ (D.rt (.pv p))
  | _ => False
def tkEnds (i k c : Nat) (D : PEnds) : PEnds := ⟨fun ρ => tkBack i k c ρ D.nx, tkRt i k c D, fun ρ => tkBack i k c ρ D.bk, fun ρ => tkBack i k c ρ D.ct⟩
/-- cells = state[0], ahead of t -/
def qTake (i k : Nat) (t : QTS) (D : PEnds) (ρ : En) : Prop := match ρ[i]? with
  | some (Sl.own b (.nst false c s)) => (i ≠ k ∧ k < ρ.length ∧ notIo ρ k = true ∧ (ρ.set i .un).any isN = false) ∧ ∀ ns : List Int, (∀ n ∈ ns, 0 ≤ n) → t (tkEnds i k c D) ((ρ.set i (.own b (.nst true c s))).set k (.own true (.lst (ns.map PV.int))))
  | _ => False
section
variable {K : PySem.W.Frag} {G : Gd} {H : Hp} {σ : L2.St} {ρ : En} {pd : Pds} {i k c : Nat} {b : Bool} {s : Int}
theorem ix2 {α : Type} {l : List α} {i k j : Nat} {x y z : α} (h : ((l.set i x).set k y)[j]? = some z) : (j = k ∧ z = y) ∨ (j ≠ k ∧ j = i ∧ z = x) ∨ (j ≠ k ∧ j ≠ i ∧ l[j]? = some z) := by
  rcases ix_set h with ⟨rfl, e, _⟩ | ⟨n, h⟩
  · exact .inl ⟨rfl, e⟩
  · rcases ix_set h with ⟨rfl, e, _⟩ | ⟨n2, h⟩
    · exact .inr (.inl ⟨fun z => n z.symm, rfl, e⟩)
    · exact .inr (.inr ⟨fun z => n z.symm, fun z => n2 z.symm, h⟩)
theorem RE.noio (R : RE K G H σ ρ pd) (nk : notIo ρ k = true) : ∀ a, ¬ G.io k a := fun a h => R.io_ne nk k a h rfl
theorem RE.take (R : RE K G H σ ρ pd) (ei : ρ[i]? = some (Sl.own b (.nst false c s))) (ne : i ≠ k) (lk : k < ρ.length) (nk : notIo ρ k = true) (nn : (ρ.set i .un).any isN = false) {ns : List Int} (hc : H c = some (.lst (ns.map V.int))) :
    RE K (G.tk k c) H (σ.set k (some (.ref c))) ((ρ.set i (.own b (.nst true c s))).set k (.own true (.lst (ns.map PV.int)))) pd := by
  have lσ : k < σ.length := by rw [← R.len]; exact lk
  have vc : G.vo c := R.ext.nst i b c s ei
  obtain ⟨xc, kc, _⟩ := R.ext.vo c vc
  have sk : (σ.set k (some (V.ref c)))[k]? = some (some (.ref c)) := List.getElem?_set_self lσ
  have own1 : ∀ {j : Nat} {d : Bool} {p : PV} {a : Addr}, ((ρ.set i (.own b (.nst true c s))).set k (.own true (.lst (ns.map PV.int))))[j]? = some (Sl.own d p) → (σ.set k (some (V.ref c)))[j]? = some (some (V.ref a)) → (j = k ∧ a = c) ∨ (j ≠ k ∧ σ[j]? = some (some (V.ref a)) ∧ ∃ q, ρ[j]? = some (Sl.own d q)) := fun {j d p a} e1 e2 => by
    rcases ix2 e1 with ⟨rfl, _⟩ | ⟨n, rfl, z⟩ | ⟨n, _, e⟩
    · rw [sk] at e2; cases e2; exact .inl ⟨rfl, rfl⟩
    · cases z; rw [ix_ne n.symm] at e2; exact .inr ⟨n, e2, _, ei⟩
    · rw [ix_ne n.symm] at e2; exact .inr ⟨n, e2, _, e⟩
  have sub : ∀ a, WS (G.tk k c) (σ.set k (some (.ref c))) ((ρ.set i (.own b (.nst true c s))).set k (.own true (.lst (ns.map PV.int)))) a → WS G σ ρ a := fun a w => by
    rcases w with w | ⟨j, d, p, e1, e2⟩
    · exact .inl w.1
    · rcases own1 e1 e2 with ⟨_, rfl⟩ | ⟨_, e2, q, e⟩
      · exact .inl xc
      · exact .inr ⟨j, d, q, e, e2⟩
  refine ⟨by simp [R.len], fun j p e => ?_, fun j d p e => ?_, fun j m d f p q a e1 e2 e3 e4 => ?_, fun j a h => ?_, R.keep, fun a h nv => ?_, fun x hx => Is.anti sub _ _ (R.pd x hx), ⟨fun a h => ?_, fun j d p a e1 e2 => ?_, fun j d c' s' e1 => ?_⟩⟩
  · rcases ix2 e with ⟨_, z⟩ | ⟨_, _, z⟩ | ⟨n, _, e⟩
    · cases z
    · cases z
    · obtain ⟨v, e1, h⟩ := R.val j p e
      exact ⟨v, by rw [ix_ne n.symm]; exact e1, Is.anti sub _ _ h⟩
  · rcases ix2 e with ⟨rfl, z⟩ | ⟨n, rfl, z⟩ | ⟨n, _, e⟩
    · cases z
      exact ⟨c, sk, kc, _, hc, Iss.ints ns⟩
    · cases z
      obtain ⟨a, e1, k1, o, e2, w⟩ := R.own j b _ ei
      refine ⟨a, by rw [ix_ne n.symm]; exact e1, k1, o, e2, ?_⟩
      cases o with
      | lst vs => exact w
      | _ => exact w.elim
    · obtain ⟨a, e1, k1, o, e2, w⟩ := R.own j d p e
      exact ⟨a, by rw [ix_ne n.symm]; exact e1, k1, o, e2, w.anti sub⟩
  · rcases own1 e1 e3 with ⟨rfl, rfl⟩ | ⟨n1, f3, q1, g1⟩
    · rcases own1 e2 e4 with ⟨rfl, _⟩ | ⟨n2, f4, q2, g2⟩
      · rfl
      · exact absurd vc (R.ext.off m f q2 _ g2 f4)
    · rcases own1 e2 e4 with ⟨rfl, rfl⟩ | ⟨n2, f4, q2, g2⟩
      · exact absurd vc (R.ext.off j d q1 _ g1 f3)
      · exact R.inj j m d f q1 q2 a g1 g2 f3 f4
  · rcases h with h | ⟨rfl, rfl⟩
    · obtain ⟨e, p, e1⟩ := R.io j a h
      have nj : k ≠ j := fun z => R.noio nk a (by rw [z]; exact h)
      refine ⟨by rw [ix_ne nj]; exact e, ?_⟩
      by_cases z : i = j
      · subst z
        rw [ei] at e1; cases e1
        exact ⟨_, by rw [ix_ne nj, List.getElem?_set_self (List.getElem?_eq_some_iff.mp ei).1]⟩
      · exact ⟨p, by rw [ix_ne nj, ix_ne z]; exact e1⟩
    · exact ⟨sk, _, List.getElem?_set_self (by simp; exact lk)⟩
  · exact R.exk a h.1 fun z => nv ⟨z, h.2⟩
  · obtain ⟨h1, h2, h3⟩ := R.ext.vo a h.1
    exact ⟨⟨h1, h.2⟩, h2, h3⟩
  · rcases own1 e1 e2 with ⟨rfl, rfl⟩ | ⟨n1, f3, q1, g1⟩
    · exact fun z => z.2 rfl
    · exact fun z => R.ext.off j d q1 a g1 f3 z.1
  · rcases ix2 e1 with ⟨_, z⟩ | ⟨_, _, z⟩ | ⟨n, n2, e⟩
    · cases z
    · cases z
    · exfalso
      have m : Sl.own d (.nst false c' s') ∈ ρ.set i .un := List.mem_of_getElem? (i := j) (by rw [ix_ne n2.symm]; exact e)
      have z := List.any_eq_false.mp nn _ m
      exact z rfl
theorem RE.back (R0 : ∀ a, ¬ G.io k a) (vc : G.vo c) (xc : G.ex c) (kc : G.keep c = none) (R : RE K (G.tk k c) H σ ρ pd) {ns : List Int} (ei : ρ[i]? = some (Sl.own b (.nst true c s))) (ek : ρ[k]? = some (Sl.own true (.lst (ns.map PV.int)))) (nns : ∀ n ∈ ns, 0 ≤ n) :
    RE K G H σ ((ρ.set i (.own b (.nst false c s))).set k .un) pd := by
  have ne : i ≠ k := fun z => by rw [z, ek] at ei; cases ei
  obtain ⟨sk, _⟩ := R.io k c (.inr ⟨rfl, rfl⟩)
  have own1 : ∀ {j : Nat} {d : Bool} {p : PV}, ((ρ.set i (.own b (.nst false c s))).set k .un)[j]? = some (Sl.own d p) → j ≠ k ∧ ∃ q, ρ[j]? = some (Sl.own d q) := fun {j d p} e1 => by
    rcases ix2 e1 with ⟨_, z⟩ | ⟨n, rfl, z⟩ | ⟨n, _, e⟩
    · cases z
    · cases z; exact ⟨n, _, ei⟩
    · exact ⟨n, _, e⟩
  have sub : ∀ a, WS G σ ((ρ.set i (.own b (.nst false c s))).set k .un) a → WS (G.tk k c) σ ρ a := fun a w => by
    rcases w with w | ⟨j, d, p, e1, e2⟩
    · by_cases z : a = c
      · rw [z]; exact .inr ⟨k, true, _, ek, sk⟩
      · exact .inl ⟨w, z⟩
    · obtain ⟨_, q, e⟩ := own1 e1
      exact .inr ⟨j, d, q, e, e2⟩
  have hints : IntsAt H c := by
    obtain ⟨a, e1, _, o, e2, w⟩ := R.own k true _ ek
    rw [sk] at e1; cases e1
    obtain ⟨vs, rfl, w⟩ := w.lst
    rw [iss_ints w] at e2
    exact ⟨ns, e2, nns⟩
  refine ⟨by simp [R.len], fun j p e => ?_, fun j d p e => ?_, fun j m d f p q a e1 e2 e3 e4 => ?_, fun j a h => ?_, R.keep, fun a h nv => ?_, fun x hx => Is.anti sub _ _ (R.pd x hx), ⟨fun a h => ?_, fun j d p a e1 e2 => ?_, fun j d c' s' e1 => ?_⟩⟩
  · rcases ix2 e with ⟨_, z⟩ | ⟨_, _, z⟩ | ⟨n, _, e⟩
    · cases z
    · cases z
    · obtain ⟨v, e1, h⟩ := R.val j p e
      exact ⟨v, e1, Is.anti sub _ _ h⟩
  · rcases ix2 e with ⟨_, z⟩ | ⟨n, rfl, z⟩ | ⟨n, _, e⟩
    · cases z
    · cases z
      obtain ⟨a, e1, k1, o, e2, w⟩ := R.own j b _ ei
      refine ⟨a, e1, k1, o, e2, ?_⟩
      cases o with
      | lst vs => exact w
      | _ => exact w.elim
    · obtain ⟨a, e1, k1, o, e2, w⟩ := R.own j d p e
      exact ⟨a, e1, k1, o, e2, w.anti sub⟩
  · obtain ⟨_, q1, g1⟩ := own1 e1
    obtain ⟨_, q2, g2⟩ := own1 e2
    exact R.inj j m d f q1 q2 a g1 g2 e3 e4
  · obtain ⟨e, p, e1⟩ := R.io j a (.inl h)
    have nj : k ≠ j := fun z => R0 a (by rw [z]; exact h)
    refine ⟨e, ?_⟩
    by_cases z : i = j
    · subst z
      rw [ei] at e1; cases e1
      exact ⟨_, by rw [ix_ne nj, List.getElem?_set_self (List.getElem?_eq_some_iff.mp ei).1]⟩
    · exact ⟨p, by rw [ix_ne nj, ix_ne z]; exact e1⟩
  · have nc : a ≠ c := fun z => nv (by rw [z]; exact vc)
    exact R.exk a ⟨h, nc⟩ fun z => nv z.1
  · by_cases z : a = c
    · rw [z]; exact ⟨xc, kc, hints⟩
    · obtain ⟨h1, h2, h3⟩ := R.ext.vo a ⟨h, z⟩
      exact ⟨h1.1, h2, h3⟩
  · intro h
    obtain ⟨n, q, g⟩ := own1 e1
    by_cases z : a = c
    · subst z
      exact n (R.inj j k d true q _ a g ek e2 sk)
    · exact R.ext.off j d q a g e2 ⟨h, z⟩
  · rcases ix2 e1 with ⟨_, z⟩ | ⟨_, _, z⟩ | ⟨n, n2, e⟩
    · cases z
    · cases z; exact vc
    · exact (R.ext.nst j d c' s' e).1
theorem tkBack_inv {Q : En → Prop} (h : tkBack i k c ρ Q) : ∃ (b : Bool) (s : Int) (ns : List Int), ρ[i]? = some (Sl.own b (.nst true c s)) ∧ ρ[k]? = some (Sl.own true (.lst (ns.map PV.int))) ∧ (∀ n ∈ ns, 0 ≤ n) ∧ Q ((ρ.set i (.own b (.nst false c s))).set k .un) := by
  unfold tkBack at h
  split at h
  · rename_i b c' s ps e1 e2
    obtain ⟨rfl, ⟨ns, rfl, nn⟩, q⟩ := h
    exact ⟨b, s, ns, e1, e2, nn, q⟩
  · exact h.elim
end
section
variable {X : Cx} {rest : List Stmt} {t : QTS} {x y : Str} {j : Nat} {npos ipos xpos pos pos' : Pos}
theorem qss_take (i k : Nat) (hN : X.N.Nodup) (ht : QSs X rest t) (hx : X.N[i]? = some x := by rfl) (hv : Vis X.env.scope x := by first | exact Or.inl rfl | exact Or.inr (Or.inl rfl) | exact Or.inr (Or.inr rfl)) (hd : (x == ("__debug__" : Str)) = false := by decide) (hcd : (x == ("__classdict__" : Str)) = false := by decide)
    (hp : PlainIx (.Constant (.int 0) j ipos) := by intro _ _; rfl)
    (hk : X.N[k]? = some y := by rfl) (hl : Loc X.env.scope y := by first | exact Or.inl rfl | exact Or.inr rfl) (hs : swapsWith (.Subscript (.Name x npos) (.Constant (.int 0) j ipos) xpos) (some (.Name y pos')) pos.line X.env = pure false := by rfl) (hf : X.fn y = true ∨ X.env.scope.names.lookup y = some .local := by first | exact .inl rfl | exact .inr rfl) :
    QSs X (.Assign [.Name y pos'] (.Subscript (.Name x npos) (.Constant (.int 0) j ipos) xpos) pos :: rest) (qTake i k t) := by
  obtain ⟨t1, p1, q1⟩ := ht.ex
  refine ⟨_, pss_cons (ps_set hN hk hl (pe_ix ix_list (pe_var hx hv hd hcd) pe_int hp) hs hf) p1, fun G H σ ρ pd D' D R1 h e => ?_⟩
  unfold qTake at h
  split at h
  · rename_i b c s ei
    obtain ⟨⟨ne, lk, nk, nn⟩, h⟩ := h
    obtain ⟨a, ea, _, o, ho, w⟩ := R1.own i b _ ei
    cases o with
    | lst vs =>
      have w' : vs = [.ref c, .int s] := w
      subst w'
      have vc := R1.ext.nst i b c s ei
      obtain ⟨xc, kc, ns, hc, nns⟩ := R1.ext.vo c vc
      have R0 := R1.noio nk
      refine ⟨.ref a, ea, a, _, 0, .ref c, rfl, rfl, .inl (.inl ho), atI_0, ?_⟩
      refine q1 (G.tk k c) H _ _ pd (tkEnds i k c D') D (R1.take ei ne lk nk nn hc) (h ns nns) ⟨fun σ' ρ' H' R2 g => ?_, fun r v σ' ρ' H' s' g => ?_, fun σ' ρ' H' R2 g => ?_, fun σ' ρ' H' R2 g => ?_⟩
      · obtain ⟨b', s', ns', e1, e2, e3, q⟩ := tkBack_inv g
        exact e.nx _ _ _ (R2.back R0 vc xc kc e1 e2 e3) q
      · cases r with
        | pv p =>
          obtain ⟨b', s2, ns', e1, e2, e3, q⟩ := tkBack_inv g
          exact e.rt (.pv p) v _ _ _ (RE.back R0 vc xc kc s' e1 e2 e3) q
        | _ => exact g.elim
      · obtain ⟨b', s', ns', e1, e2, e3, q⟩ := tkBack_inv g
        exact e.bk _ _ _ (R2.back R0 vc xc kc e1 e2 e3) q
      · obtain ⟨b', s', ns', e1, e2, e3, q⟩ := tkBack_inv g
        exact e.ct _ _ _ (R2.back R0 vc xc kc e1 e2 e3) q
    | _ => exact w.elim
  · exact h.elim
end
end Px
namespace Px
open PySem L2 PyProof.Rows
/-! ### a law whose first row makes its state -/
def sState : FS := { io := [false], fr := true, pre := fun ps => ∃ ns : List Int, ps = [.scr ns] ∧ ns.length ≤ 63, post := fun _ r _ => ∃ (ns : List Int) (s : Int), r = .lst [.lst (ns.map PV.int), .int s] ∧ ∀ n ∈ ns, 0 ≤ n }
def spLaw (K : PySem.W.Frag) : Sp := fun vs H Q _ => ∃ (a : Addr) (ns : List Int), vs = [.ref a] ∧ ns.length ≤ 63 ∧ Only H ∧ SqL K H a (ns.map V.int) ∧ ∀ H', Q (.bl true) H'
structure HasL (P : Program) (w : World) (K : PySem.W.Frag) (mg : Str → Option Value) (base : Heap) (x : Str) (k : Nat) (ps : List Str) : Prop where
  ex : ∃ f fd, FnOk P w K mg base CX0 k f fd ps (spLaw K) ∧ mg x = some (.ref f) ∧ PySem.W.keepIn K (.ref f) = true ∧ Binds K fd ps [] ∧ ∃ (y : Str) (o : Option Addr) (c : Value) (sl : Array (Option Value)), K.lookup f = some ⟨c, o, .func fd, sl⟩
theorem lawL_sp {K : PySem.W.Frag} {H : Hp} {a : Addr} {ns : List Int} {E : XK} (hl : ns.length ≤ 63) (ho : Only H) (hs : SqL K H a (ns.map V.int)) : spLaw K [.ref a] H (fun v _ => v = .bl true) E := ⟨a, ns, rfl, hl, ho, hs, fun _ => rfl⟩
theorem law_re {K : PySem.W.Frag} {H : Hp} {a : Addr} {ns : List Int} (ho : Only H) (hs : SqL K H a (ns.map V.int)) : RE K (G0 H [false] [.ref a] (fun _ => False) (fun _ => False)) H [some (.ref a)] [.val (.scr ns)] [] := by
  have hi : (∃ o, H a = some (.frz o (.lst (ns.map V.int)))) ∨ KLst K a (ns.map V.int) := by
    rcases hs with (h | ⟨o, h⟩) | h
    · rcases ho a with z | ⟨o, xs, z⟩
      · rw [z] at h; cases h
      · rw [z] at h; cases h
    · exact .inl ⟨o, h⟩
    · exact .inr h
  have nio : ∀ b, ¬ Iob [false] [V.ref a] b := fun b ⟨i, e, _⟩ => by
    cases i with
    | zero => simp at e
    | succ i => simp at e
  have nown : ∀ (i : Nat) (b : Bool) (p : PV), ([Sl.val (PV.scr ns)] : En)[i]? ≠ some (Sl.own b p) := fun i b p e => by
    cases i with
    | zero => simp at e
    | succ i => simp at e
  refine ⟨rfl, fun i p e => ?_, fun i b p e => absurd e (nown i b p), fun i j b c p q d e1 => absurd e1 (nown i b p), fun i b h => ?_, fun b o e => (G0_of e).2.2, fun b h => h.elim, fun x hx => by simp at hx, ⟨fun b h => h.elim, fun i b p a _ _ h => h.elim, fun i b c s e => absurd e (nown i b _)⟩⟩
  · cases i with
    | zero => simp at e; cases e; exact ⟨.ref a, rfl, a, rfl, hi⟩
    | succ i => simp at e
  · cases i with
    | zero => have := h.1; simp at this
    | succ i => have := h.1; simp at this
def immS : Sl → Bool
  | .un => true
  | .val p => imm p
  | _ => false
def endsLaw : PEnds := { nx := fun _ => False, rt := fun r _ => r = .pv (.bl true) }
def stGo (i : Nat) (t : QTS) (ρ : En) : Prop := match ρ[i]? with
  | some (Sl.own false (.lst [.lst ps, .int s])) => (∃ ns : List Int, ps = ns.map PV.int ∧ ∀ n ∈ ns, 0 ≤ n) ∧ (ρ.set i .un).all immS = true ∧ ∀ c, t endsLaw (ρ.set i (.own false (.nst false c s)))
  | _ => False
def stEnds (i : Nat) (t : QTS) : PEnds := { nx := stGo i t, rt := fun _ _ => False }
/-- a list of its own, new with what holds it -/
theorem RE.nest {K : PySem.W.Frag} {H0 H : Hp} {vs : List V} {σ : L2.St} {ρ : En} {i : Nat} {ns : List Int} {s : Int} (ho : Only H0) (R : RE K (G0 H0 [false] vs (fun _ => False) (fun _ => False)) H σ ρ []) (ei : ρ[i]? = some (Sl.own false (.lst [.lst (ns.map PV.int), .int s]))) (nn : ∀ n ∈ ns, 0 ≤ n) (al : (ρ.set i .un).all immS = true) :
    ∃ (c : Nat) (G : Gd), RE K G H σ (ρ.set i (.own false (.nst false c s))) [] := by
  obtain ⟨a, ea, ka, o, Ha, w⟩ := R.own i false _ ei
  obtain ⟨us, rfl, w⟩ := w.lst
  obtain ⟨v1, r1, rfl, h1, v2, r2, rfl, h2, h3⟩ := w
  cases (show r2 = [] from h3)
  cases (show v2 = .int s from h2)
  obtain ⟨c, xs, rfl, nc, hc, ix⟩ : ∃ c xs, v1 = .ref c ∧ ¬ WS _ σ ρ c ∧ H c = some (.lst xs) ∧ Iss K H _ (ns.map PV.int) xs := h1
  rw [iss_ints ix] at hc
  have kc : (G0 H0 [false] vs (fun _ => False) (fun _ => False)).keep c = none := by
    cases e : (G0 H0 [false] vs (fun _ => False) (fun _ => False)).keep c with
    | none => rfl
    | some u =>
      have h4 := R.keep c u e
      rw [hc] at h4; cases h4
      rcases ho c with z | ⟨o, xs, z⟩
      · rw [(G0_of e).2.2] at z; cases z
      · rw [(G0_of e).2.2] at z; cases z
  have im : ∀ (j : Nat) (x : Sl), j ≠ i → ρ[j]? = some x → immS x = true := fun j x ne e => List.all_eq_true.mp al x (List.mem_of_getElem? (i := j) (by rw [ix_ne ne.symm]; exact e))
  have ca : a ≠ c := fun z => nc (by rw [← z]; exact .inr ⟨i, false, _, ei, ea⟩)
  have own1 : ∀ {j : Nat} {d : Bool} {p : PV}, (ρ.set i (.own false (.nst false c s)))[j]? = some (Sl.own d p) → j = i ∧ d = false ∧ p = .nst false c s := fun {j d p} e => by
    rcases ix_set e with ⟨rfl, z, _⟩ | ⟨ne, e⟩
    · cases z; exact ⟨rfl, rfl, rfl⟩
    · have := im j _ (fun z => ne z.symm) e; cases this
  refine ⟨c, ⟨(G0 H0 [false] vs (fun _ => False) (fun _ => False)).keep, fun b => b = c, fun _ _ => False, fun b => b = c⟩, by simp [R.len], fun j p e => ?_, fun j d p e => ?_, fun j m d f p q b e1 e2 e3 e4 => ?_, fun j b h => h.elim, R.keep, fun b h nv => absurd h nv, fun x hx => by simp at hx, ⟨fun b h => ?_, fun j d p b e1 e2 => ?_, fun j d c' s' e1 => ?_⟩⟩
  · rcases ix_set e with ⟨_, z, _⟩ | ⟨ne, e⟩
    · cases z
    · obtain ⟨v, e1, h⟩ := R.val j p e
      exact ⟨v, e1, Is.imm _ _ (im j _ (fun z => ne z.symm) e) h⟩
  · obtain ⟨rfl, rfl, rfl⟩ := own1 e
    exact ⟨a, ea, ka, _, Ha, rfl⟩
  · rw [(own1 e1).1, (own1 e2).1]
  · rw [show b = c from h]
    exact ⟨rfl, kc, ns, hc, nn⟩
  · obtain ⟨rfl, _, _⟩ := own1 e1
    rw [ea] at e2; cases e2
    exact ca
  · obtain ⟨_, _, z⟩ := own1 e1
    cases z; rfl
section
variable {P : Program} {w : World} {K : PySem.W.Frag} {mg : Str → Option Value} {base : Heap} {x qual : Str} {st st1 : Stmt} {rest : List Stmt} {f : Addr} {fd : FuncData} {N ps : List Str} {k : Nat} {t1 t2 : QTS}
theorem fn_law (F : Fun K x qual st f fd) (sc : FnScope N ps (defScope st)) (lp : ps.length = 1) (i : Nat) (hbd : defBody st = st1 :: rest)
    (hb : ∀ (cdv : Value) (A : Around) (outer : List Env) (s : Shared) (H : Hp) (E : XK), Room k (A.deeper (envOfC qual (defScope st) s.heap.objs.size f cdv)) → QS (cxOf CX0 P w K mg base N qual (defScope st) f cdv A outer s H E).nox st1 t1 ∧ QSs (cxOf CX0 P w K mg base N qual (defScope st) f cdv A outer s H E).nox rest t2)
    (rd : ∀ ns : List Int, ns.length ≤ 63 → t1 (stEnds i t2) (.val (.scr ns) :: uns (N.length - 1))) : FnOk P w K mg base CX0 (k + 1) f fd ps (spLaw K) := by
  refine F.ok sc (fun vs H Q E h => ?_) (fun cdv A outer s H vs Q E hr h => ?_)
  · obtain ⟨_, _, rfl, _⟩ := h
    rw [lp]; rfl
  obtain ⟨a, ns, rfl, hl, ho, hs, post⟩ := h
  obtain ⟨hb1, hb2⟩ := hb cdv A outer s H E hr
  obtain ⟨ts1, p1, q1⟩ := hb1.ex
  obtain ⟨ts2, p2, q2⟩ := hb2.ex
  rw [hbd]
  refine ⟨_, pss_cons p1 p2, ?_⟩
  have R2 : RE K (G0 H [false] [.ref a] (fun _ => False) (fun _ => False)) H (L2.start N [.ref a]) (.val (.scr ns) :: uns (N.length - 1)) [] := (law_re ho hs).pad (N.length - 1)
  refine q1 _ H _ _ [] (stEnds i t2) _ R2 (rd ns hl) ⟨fun σ' ρ' H' R3 g => ?_, fun _ _ _ _ _ _ g => g.elim, fun _ _ _ _ g => g.elim, fun _ _ _ _ g => g.elim⟩
  have g' : stGo i t2 ρ' := g
  unfold stGo at g'
  split at g'
  · rename_i qs s' ei
    obtain ⟨⟨ns', rfl, nn⟩, al, go⟩ := g'
    obtain ⟨c, G, R4⟩ := R3.nest ho ei nn al
    refine q2 G H' _ _ [] endsLaw _ R4 (go c) ⟨fun _ _ _ _ g => g.elim, fun r v σ2 ρ2 H2 s2 g => ?_, fun _ _ _ _ g => g.elim, fun _ _ _ _ g => g.elim⟩
    have g2 : r = .pv (.bl true) := g
    subst g2
    have e : v = .bl true := (show RE K G H2 σ2 ρ2 [(PV.bl true, v)] from s2).pd (.bl true, v) List.mem_cons_self
    rw [e]
    exact post H2
  · exact g'.elim
end
end Px
namespace Px
open PySem L2 PyProof.Rows
/-! ### xs[::k] -/
def stepIx (n : Nat) (k : Int) : List Nat := sliceRange (sliceBounds none none (some k) n).1 (sliceBounds none none (some k) n).2.1 (sliceBounds none none (some k) n).2.2
def stepP {α : Type} (xs : List α) (k : Int) : List α := (stepIx xs.length k).filterMap (xs[·]?)
theorem stepP_mem {α : Type} {xs : List α} {k : Int} {x : α} (h : x ∈ stepP xs k) : x ∈ xs := by
  obtain ⟨i, _, e⟩ := List.mem_filterMap.mp h
  exact List.mem_of_getElem? e
theorem stepP_length {α : Type} (xs : List α) (k : Int) : (stepP xs k).length ≤ xs.length := by
  have h := slicePick_size_le (List.replicate xs.length Value.none).toArray none none (some k)
  have hz : (List.replicate xs.length Value.none).toArray.size = xs.length := by simp
  rw [hz] at h
  refine Nat.le_trans ?_ h
  unfold slicePick stepP
  rw [List.size_toArray, hz]
  generalize e : sliceRange (sliceBounds none none (some k) xs.length).1 (sliceBounds none none (some k) xs.length).2.1 (sliceBounds none none (some k) xs.length).2.2 = ix
  have e' : stepIx xs.length k = ix := e
  rw [e']
  clear e e' h
  induction ix with
  | nil => exact Nat.le_refl _
  | cons i ix ih =>
    rw [List.filterMap_cons, List.filterMap_cons]
    by_cases l : i < xs.length
    · rw [List.getElem?_eq_getElem l]
      have : (List.replicate xs.length Value.none).toArray[i]? = some Value.none := by simp [l]
      rw [this]
      simpa using ih
    · rw [List.getElem?_eq_none (by omega)]
      have : (List.replicate xs.length Value.none).toArray[i]? = none := by simp; omega
      rw [this]
      exact ih
theorem vals_pick {xs : List V} {its : List Value} (r : Vals xs its) : ∀ ix : List Nat, Vals (ix.filterMap (xs[·]?)) (ix.filterMap (its[·]?))
  | [] => .nil
  | i :: ix => by
    rw [List.filterMap_cons, List.filterMap_cons]
    cases e : xs[i]? with
    | none =>
      have : its[i]? = none := by
        rw [List.getElem?_eq_none_iff] at e ⊢
        rw [← r.length]; exact e
      rw [this]
      exact vals_pick r ix
    | some x =>
      obtain ⟨u, hu, ru⟩ := r.get e
      rw [hu]
      exact .cons ru (vals_pick r ix)
theorem iss_pick {K : PySem.W.Frag} {H : Hp} {W : Addr → Prop} {ps : List PV} {vs : List V} (r : Iss K H W ps vs) : ∀ ix : List Nat, Iss K H W (ix.filterMap (ps[·]?)) (ix.filterMap (vs[·]?))
  | [] => rfl
  | i :: ix => by
    rw [List.filterMap_cons, List.filterMap_cons]
    cases e : vs[i]? with
    | none =>
      have : ps[i]? = none := by
        rw [List.getElem?_eq_none_iff] at e ⊢
        rw [r.length]; exact e
      rw [this]
      exact iss_pick r ix
    | some x =>
      obtain ⟨u, hu, ru⟩ := r.get e
      rw [hu]
      exact .cons ru (iss_pick r ix)
def tStep (K : PySem.W.Frag) (te ts : TE) : TE := fun σ H Q => te σ H fun x H1 => tPart ts σ H1 fun o H2 => ∃ a xs k, x = .ref a ∧ o = some k ∧ k ≠ 0 ∧ SqL K H2 a xs ∧ ∀ p, H2 p = none → Q (.ref p) (upd H2 p (.lst (stepP xs k)))
section
variable {X : Cx} {e es : Expr} {te ts : TE} {p3 pos : Pos}
theorem pe_step (he : PE X e te) (hs : PE X es ts) : PE X (.Subscript e (.Slice none none (some es) p3) pos) (tStep X.K te ts) := by
  refine ⟨fun pins s σ H Q I h => ?_⟩
  refine Subscript_ (thn (he.run pins s σ H _ I h) fun v s1 ⟨x, H1, I1, r1, q1⟩ => ?_)
  have hst : PO X (some es) (tPart ts) := po_some hs
  refine wpAny_Slice (thn (po_none.run pins s1 σ H1 (fun o H2 => o = none ∧ H2 = H1) I1 ⟨rfl, rfl⟩) fun vl s2 ⟨l, H2, I2, pl, el, e2⟩ => ?_)
  subst el e2
  refine thn (po_none.run pins s2 σ H2 (fun o H3 => o = none ∧ H3 = H2) I2 ⟨rfl, rfl⟩) fun vu s3 ⟨u, H3, I3, pu, eu, e3⟩ => ?_
  subst eu e3
  refine thn (hst.run pins s3 σ H3 _ I3 q1) fun vs s4 ⟨o, H4, I4, ps, q⟩ => ?_
  obtain ⟨a, xs, k, rfl, rfl, k0, hx, q⟩ := q
  cases r1
  have I5 : Inv X pins σ H4 { s4 with heap := s4.heap.push { cls := .type "slice", data := .fields #[vl, vu, vs] } } := I4.kept (t' := s4.toks) fun b ob q => Heap.get?_push_of_some _ q
  obtain ⟨its, r, ht, hz⟩ := I5.list hx
  have hlen := r.length
  show wpAny (model X.prog X.w) X.A (subscriptTail e (.Slice none none (some es) p3) (.ref a) (.ref s4.heap.objs.size)) (EP X pins σ Q) X.xe { s4 with heap := s4.heap.push { cls := .type "slice", data := .fields #[vl, vu, vs] } }
  refine tail_any (ops := [.ref a, .ref s4.heap.objs.size]) ht.isList.typeIs (PySem.slot_list_getitem.lookup) ?_ (by with_unfolding_all rfl)
  refine wpAny_getItem_list_slice ht.isList (Heap.IsSliceOf.new _ vl vu vs) pl pu ps (by simpa using k0) ?_ (by rw [List.size_toArray]; omega)
  have ep : slicePick its.toArray none none (some k) = ((stepIx xs.length k).filterMap (its[·]?)).toArray := by
    unfold slicePick stepIx
    rw [List.size_toArray, hlen]
    simp
  rw [ep]
  refine ⟨.ref _, _, I5.laid (t' := s4.toks) (o := .lst (stepP xs k)) (fun b ob q => Heap.get?_push_of_some _ q) (Nat.le_refl _) ?_, rfl, q _ (I5.hok.fresh (Nat.le_refl _))⟩
  exact ⟨Nat.le_trans (stepP_length xs k) hz, _, 0, vals_pick r _, Heap.get?_push_size _ rfl⟩
/-- xs[::k] as a reading -/
def qStep (t ts : QT) (ρ : En) (Q : PK1) : Prop := t ρ fun r ρ1 => ts ρ1 fun r2 ρ2 => match r2 with
  | .pv (.int k) => match r.look ρ2 with
    | some (.lst ps) => k ≠ 0 ∧ Q (.fr (.lst (stepP ps k))) ρ2
    | _ => False
  | _ => False
theorem qe_step {q1 q2 : QT} (he : QE X e q1) (hs : QE X es q2) : QE X (.Subscript e (.Slice none none (some es) p3) pos) (qStep q1 q2) := by
  obtain ⟨t1, p1, z1⟩ := he.ex
  obtain ⟨t2, p2, z2⟩ := hs.ex
  refine ⟨_, pe_step p1 p2, fun G H σ ρ pd Q F R1 h f => ?_⟩
  refine z1 G H σ ρ pd _ _ R1 h fun r ρ1 v H1 s g1 => ?_
  obtain ⟨pd1, sb, R2, a1⟩ := s.arg
  refine z2 G H1 σ ρ1 pd1 _ _ R2 g1 fun r2 ρ2 y H2 s2 g2 => ?_
  cases r2 with
  | pv p =>
    cases p with
    | int k =>
      have ey : y = .int k := s2.pd (.int k, y) List.mem_cons_self
      have R3 : RE X.K G H2 σ ρ2 pd1 := s2.re
      refine ⟨k, ey, ?_⟩
      dsimp only at g2
      cases el : r.look ρ2 with
      | none => rw [el] at g2; exact g2.elim
      | some p =>
        rw [el] at g2
        cases p with
        | lst ps =>
          obtain ⟨k0, g3⟩ := g2
          obtain ⟨a, vs, rfl, ha, iv⟩ : Lk X.K H2 (WS G σ ρ2) (.lst ps) v := a1.lk R3 (by rw [look_wk]; exact el)
          refine ⟨a, vs, k, rfl, rfl, k0, .inl (.inl ha), fun p hp => ?_⟩
          have es : stepIx vs.length k = stepIx ps.length k := by rw [iv.length]
          have iv' : Iss X.K H2 (WS G σ ρ2) (stepP ps k) (stepP vs k) := by
            unfold stepP
            rw [es]
            exact iss_pick iv _
          exact f _ ρ2 _ _ (res_of (z := .fr (.lst (stepP ps k))) (R3.pds sb) (same_new hp) (resLst R3.mut iv' hp)) g3
        | _ => exact g2.elim
    | _ => exact g2.elim
  | _ => exact g2.elim
/-- a, b, c = x, y, z -/
def qPar3 (i j l : Nat) (tr : QTA) (D : PEnds) (ρ : En) : Prop := tr ρ fun rs ρ1 => match rs with
  | [.pv p, .pv q, .pv u] => notIo ρ1 i = true ∧ notIo ρ1 j = true ∧ notIo ρ1 l = true ∧ D.nx (((ρ1.set i (.val p)).set j (.val q)).set l (.val u))
  | _ => False
theorem qs_par3 (i j l : Nat) {x y z : Str} {a b c : Expr} {tr : QTA} {px py pz pt : Pos} {kt k2 : Nat} {pt2 : Pos} (hN : X.N.Nodup) (ha : QA X [a, b, c] tr) (hc : X.calm = true := by rfl) (hi : X.N[i]? = some x := by rfl) (hj : X.N[j]? = some y := by rfl) (hl : X.N[l]? = some z := by rfl) (hij : i ≠ j := by decide) (hil : i ≠ l := by decide) (hjl : j ≠ l := by decide)
    (hx : X.env.scope.names.lookup x = some .local := by rfl) (hy : X.env.scope.names.lookup y = some .local := by rfl) (hz : X.env.scope.names.lookup z = some .local := by rfl)
    (hw : swappedStores [.Tuple [.Name x px, .Name y py, .Name z pz] kt pt] (.Tuple [a, b, c] k2 pt2) X.env = pure (some [x, y, z]) := by rfl)
    (hs : swapsWithSole [.Tuple [.Name x px, .Name y py, .Name z pz] kt pt] (.Tuple [a, b, c] k2 pt2) pos.line X.env = pure false := by rfl) : QS X (.Assign [.Tuple [.Name x px, .Name y py, .Name z pz] kt pt] (.Tuple [a, b, c] k2 pt2) pos) (qPar3 i j l tr) := by
  obtain ⟨t, p, q⟩ := ha.ex
  refine ⟨_, ps_par3 hc hN hi hj hl hij hil hjl hx hy hz p hw hs, fun G H σ ρ pd D' D R1 h ee => ?_⟩
  refine q G H σ ρ pd _ _ R1 h fun rs ρ1 pd1 vs H1 sb R2 ar g => ?_
  split at g
  · rename_i p1 p2 p3
    cases ar with
    | @cons r v rs vs h1 t1 =>
      cases t1 with
      | @cons r2 v2 rs2 vs2 h2 t2 =>
        cases t2 with
        | @cons r3 v3 rs3 vs3 h3 t3 =>
          cases t3
          obtain ⟨n1, n2, n3, g⟩ := g
          refine ⟨v, v2, v3, rfl, ee.nx _ _ H1 ?_ g⟩
          have R3 : RE X.K G H1 σ ρ1 ((p1, v) :: (p2, v2) :: (p3, v3) :: pd) := R2.pds fun x hx => by
            rcases List.mem_cons.mp hx with e | hx
            · rw [e]; exact h1
            rcases List.mem_cons.mp hx with e | hx
            · rw [e]; exact h2
            rcases List.mem_cons.mp hx with e | hx
            · rw [e]; exact h3
            exact sb x hx
          refine RE.set (RE.set (R3.set n1) ?_) ?_
          · unfold notIo at n2 ⊢
            rw [ix_ne hij]; exact n2
          · unfold notIo at n3 ⊢
            rw [ix_ne hjl, ix_ne hil]; exact n3
  · exact g.elim
end
end Px
namespace Px
open PySem L2 PyProof.Rows
/-! ### a comprehension over an own list -/
theorem wk_own {kp : Hp} {K : PySem.W.Frag} {a : Addr} {ps : List PV} {vs : List V} {pd : Pds} (hk : kp a = some (.lst vs)) (hl : ps.length = vs.length) : Wk K (Itl K a) ps (ps.zip vs ++ pd) kp := by
  constructor
  · intro G H σ ρ pd' i p s kk R1 hp
    have h := R1.keep a _ (kk a _ hk)
    have li : i < ps.length := (List.getElem?_eq_some_iff.mp hp).1
    have hv : vs[i]? = some (vs[i]'(by omega)) := List.getElem?_eq_getElem (by omega)
    refine ⟨⟨vs, _, .inl (.inl h), hv⟩, fun x H' y => ?_⟩
    obtain ⟨rfl, y⟩ := y
    have z := y vs (.inl (.inl h))
    rw [hv] at z; cases z
    refine R1.push (R1.pd (p, vs[i]) (s _ (List.mem_append_left _ ?_)))
    refine List.mem_of_getElem? (i := i) ?_
    rw [List.getElem?_zip_eq_some]
    exact ⟨hp, hv⟩
  · intro G H σ ρ pd' i s kk R1 hp
    have h := R1.keep a _ (kk a _ hk)
    exact ⟨vs, .inl (.inl h), by rw [← hl]; exact hp⟩
def lcoK (i : Nat) (ps : List PV) (Q : PK1) (r : R) (ρ : En) : Prop := match r with
  | .fr (.lst acc) => ρ[i]? = some Sl.un ∧ Q (.fr (.lst acc)) (ρ.set i (.own false (.lst ps)))
  | _ => False
def qLcO (i : Nat) (g : QTG) (tt : QTT) (te : QT) (vs : List Nat) (ρ : En) (Q : PK1) : Prop := match ρ[i]? with
  | some (Sl.own false (.lst ps)) => notIos (ρ.set i .un) vs ∧ lcR g tt te vs ps (wipeE (ρ.set i .un) vs) (lcoK i ps Q) .mk
  | _ => False
theorem iss_pd {K : PySem.W.Frag} {H : Hp} {W : Addr → Prop} : ∀ {ps : List PV} {vs : List V}, ps.length = vs.length → (∀ x ∈ ps.zip vs, Is K H W x.1 x.2) → Iss K H W ps vs
  | [], [], _, _ => rfl
  | p :: ps, v :: vs, l, h => ⟨v, vs, rfl, h (p, v) List.mem_cons_self, iss_pd (by simpa using l) fun x hx => h x (List.mem_cons_of_mem _ hx)⟩
theorem pd_iss {K : PySem.W.Frag} {H : Hp} {W : Addr → Prop} : ∀ {ps : List PV} {vs : List V}, Iss K H W ps vs → ∀ x ∈ ps.zip vs, Is K H W x.1 x.2
  | [], vs, _, x, hx => by simp at hx
  | p :: ps, vs, h, x, hx => by
    obtain ⟨v, r, rfl, h1, h2⟩ := h
    rcases List.mem_cons.mp hx with e | hx
    · rw [e]; exact h1
    · exact pd_iss h2 x hx
theorem add_comm' {G : Gd} {a b : Addr} {o u : HO} (ne : b ≠ a) : (G.add a o).add b u = (G.add b u).add a o := by
  have e1 : upd (upd G.keep a o) b u = upd (upd G.keep b u) a o := by
    funext c
    by_cases z1 : c = b
    · subst z1; rw [upd_same, upd_ne ne, upd_same]
    · by_cases z2 : c = a
      · subst z2; rw [upd_ne z1, upd_same, upd_same]
      · rw [upd_ne z1, upd_ne z2, upd_ne z2, upd_ne z1]
  have e2 : (fun c => c = b ∨ c = a ∨ G.ex c) = fun c => c = a ∨ c = b ∨ G.ex c := by
    funext c
    exact propext ⟨fun h => by rcases h with h | h | h <;> simp [h], fun h => by rcases h with h | h | h <;> simp [h]⟩
  unfold Gd.add
  simp only
  rw [e1, e2]
theorem set_self {σ : L2.St} {i : Nat} {v : Option V} (h : σ[i]? = some v) : σ.set i v = σ := by
  refine List.ext_getElem? fun j => ?_
  by_cases e : i = j
  · subst e
    rw [List.getElem?_set_self (List.getElem?_eq_some_iff.mp h).1, h]
  · rw [List.getElem?_set_ne e]
theorem notIo_un {ρ : En} {i : Nat} (h : ρ[i]? = some Sl.un) : notIo ρ i = true := by unfold notIo; rw [h]
section
variable {X : Cx} {elt tg : Expr} {ifs : List Expr} {scope : Scope} {own : List (Str × Nat)} {pos npos : Pos} {g : QTG} {tt : QTT} {te : QT} {sl : List Nat} {x : Str}
theorem rz_lcO {K : PySem.W.Frag} {g1 : TG} {t1 : TT} {e1 : TE} {vs : List Nat} {i : Nat} (q2 : RzG K g1 sl g) (q3 : RzT K t1 tt) (q4 : Rz K e1 te) (hs : ∀ i ∈ sl, i ∈ vs) :
    Rz K (tLc (iSeq K (tVar i)) g1 t1 e1 vs) (qLcO i g tt te vs) := by
  intro G H σ ρ pd Q F R1 h f
  unfold qLcO at h
  split at h
  · rename_i ps ei
    obtain ⟨nio, go⟩ := h
    obtain ⟨a, o, ea, kn, R2, w⟩ := R1.release ei
    obtain ⟨us, rfl, w⟩ := w.lst
    have R3 : RE K (G.add a (.lst us)) H σ (ρ.set i .un) (ps.zip us ++ pd) := R2.pushs (pd_iss w)
    have Ha : H a = some (.lst us) := R2.keep a _ upd_same
    refine ⟨.ref a, ea, .inl ⟨a, rfl, ⟨us, .inl (.inl Ha)⟩, ?_⟩⟩
    refine lc_walk q2 q3 q4 hs (fun _ hx => hx) R3 (wk_own upd_same w.length) nio go fun r ρ' v H' s hq => ?_
    unfold lcoK at hq
    split at hq
    · rename_i acc
      obtain ⟨un, hq⟩ := hq
      obtain ⟨b, u, rfl, n, _, R4, w4⟩ := s
      have n' : upd G.keep a (.lst us) b = none := n
      have ne : b ≠ a := fun z => by rw [z, upd_same] at n'; cases n'
      rw [upd_ne ne] at n'
      have hz : Iss K H' (WS ((G.add a (.lst us)).add b u) σ ρ') ps us := iss_pd w.length fun x hx => R4.pd x (List.mem_append_left _ hx)
      rw [add_comm' ne] at R4 w4 hz
      have kx : exkOk (G.add b u) := fun c h hv => by
        rcases h with h | h
        · subst h; exact ⟨u, upd_same, w4.mut⟩
        · obtain ⟨u', e1, m1⟩ := R1.exk c h hv
          have nc : c ≠ b := fun z => by rw [z, n'] at e1; cases e1
          exact ⟨u', by show upd G.keep b u c = some u'; rw [upd_ne nc]; exact e1, m1⟩
      have ka : (G.add b u).keep a = none := by show upd G.keep b u a = none; rw [upd_ne ne.symm]; exact kn
      have R5 := RE.setOwn (p := .lst ps) R4 (notIo_un un) (List.getElem?_eq_some_iff.mp un).1 ka kx hz rfl
      rw [set_self ea] at R5
      refine f (.fr (.lst acc)) _ (.ref b) H' ⟨b, u, rfl, n', R1.exk, R5.pds fun x hx => List.mem_append_right _ hx, ?_⟩ hq
      refine w4.anti fun c w => ?_
      rcases w with w | ⟨j, d, q, e1, e2⟩
      · rcases w with w | w
        · exact .inl (.inr (.inl w))
        · exact .inl (.inr (.inr w))
      · rcases ix_set e1 with ⟨rfl, z, _⟩ | ⟨nj, e1⟩
        · rw [ea] at e2; cases e2; exact .inl (.inl rfl)
        · exact .inr ⟨j, d, q, e1, e2⟩
    · exact hq.elim
  · exact h.elim
theorem qe_lcO (i : Nat) (hc : X.calm = true) (hN : X.N.Nodup) (ok : BlkOk X.N X.env.scope scope own) (hg : ∀ c, QG (blkX X scope c) tg sl g) (ht : ∀ c, QCs (blkX X scope c) ifs tt) (he : ∀ c, QE (blkX X scope c) elt te)
    (hs : ∀ i ∈ sl, i ∈ own.map (·.2) := by decide) (hNx : X.N[i]? = some x := by rfl) (hv : Vis X.env.scope x := by first | exact Or.inl rfl | exact Or.inr (Or.inl rfl) | exact Or.inr (Or.inr rfl)) (hd : (x == ("__debug__" : Str)) = false := by decide)
    (hcd : (x == ("__classdict__" : Str)) = false := by decide) (hf : ∀ y, foldedSetIterable (.Name x npos) X.env y = pure y := by intro _; rfl) {vs : List Nat} (hvs : vs = own.map (·.2) := by rfl) : QE X (.ListComp elt [⟨tg, .Name x npos, ifs, 0⟩] scope pos) (qLcO i g tt te vs) := by
  subst hvs
  obtain ⟨g1, p2, q2⟩ := QG.all (X := blkX X scope) (K := X.K) (fun _ => rfl) hg
  obtain ⟨t1, p3, q3⟩ := QCs.all (X := blkX X scope) (K := X.K) (fun _ => rfl) ht
  obtain ⟨e1, p4, q4⟩ := QE.all (X := blkX X scope) (K := X.K) (fun _ => rfl) he
  exact ⟨_, pe_lc (pos := pos) hc hN (pi_seq (pe_var (pos := npos) hNx hv hd hcd)) ok (fun s H C cl fp => p2 (s, H, C, cl, fp)) (fun s H C cl fp => p3 (s, H, C, cl, fp)) (fun s H C cl fp => p4 (s, H, C, cl, fp)) hf, rz_lcO q2 q3 q4 hs⟩
end
/-- max(xs) of numbers, max(a, b) of two texts or two numbers -/
def gMax3 (ps : List PV) (Q : R → Prop) : Prop := match ps with
  | [.int i, .int j] => Q (.pv (.int (if j > i then j else i)))
  | ps => gMax2 ps Q
theorem call_maxP3 {X : Cx} (hc : X.calm = true) : CallP X (.builtin "max") gMax3 := by
  obtain ⟨r2, a2, b2⟩ := call_maxP2 hc
  refine ⟨_, CallR.or (call_max2 hc) a2, fun H W ps xs Q F m l g f => ?_⟩
  unfold gMax3 at g
  split at g
  · obtain ⟨x, y, rfl, h1, h2⟩ := lks2 l
    cases (show x = _ from h1)
    cases (show y = _ from h2)
    exact .inl ⟨_, _, rfl, fin1 f (p := .int _) rfl g⟩
  · exact .inr (b2 H W _ xs Q F m l g f)
end Px
namespace Px
open PySem L2 PyProof.Rows
/-! ### xs.insert(i, y), i not below 0 -/
section
variable {X : Cx}
def gInsert (p : PV) (ps : List PV) (Q : PV → PV → Prop) : Prop := match p, ps with
  | .lst xs, [.int i, q] => (0 ≤ i ∧ i < 1000000 ∧ small (xs.length + 1)) ∧ Q .non (.lst (xs.take i.toNat ++ q :: xs.drop i.toNat))
  | _, _ => False
theorem gInsert_inv {p : PV} {ps : List PV} {Q : PV → PV → Prop} (g : gInsert p ps Q) : ∃ xs i q, p = .lst xs ∧ ps = [.int i, q] ∧ 0 ≤ i ∧ i < 1000000 ∧ small (xs.length + 1) ∧ Q .non (.lst (xs.take i.toNat ++ q :: xs.drop i.toNat)) := by
  unfold gInsert at g
  split at g
  · exact ⟨_, _, _, rfl, rfl, g.1.1, g.1.2.1, g.1.2.2, g.2⟩
  · exact g.elim
theorem m_insert : MtP X "list" "list.insert" gInsert := by
  refine ⟨_, mt_insert, fun H W p a o ps xs Q F m wa e w i g f => ?_⟩
  obtain ⟨qs, k, q, rfl, rfl, h0, h1, sm, g⟩ := gInsert_inv g
  obtain ⟨vs, rfl, w⟩ := w.lst
  obtain ⟨v, r, rfl, i1, i2⟩ := i
  obtain ⟨u, rfl, i3⟩ := Iss.one i2
  cases (show v = .int k from i1)
  have sm' := small_lt sm
  rw [w.length] at sm'
  refine ⟨a, vs, k, u, rfl, rfl, e, sm', h0, by omega, ?_⟩
  rw [List.append_assoc]
  exact f .non (.lst (vs.take k.toNat ++ u :: vs.drop k.toNat)) .non (.lst (qs.take k.toNat ++ q :: qs.drop k.toNat)) (Iss.append (w.take _) (Iss.cons i3 (w.drop _))) rfl g
end
end Px
namespace Px
open PySem PySem.Spec PyProof.Rows L2
/-! ### sets of texts: made, filled by a comprehension, sorted -/
section
variable {P : Program} {w : World} {A : Around} {E : Value → Shared → Prop} {s : Shared}
def TxH (P : Program) (w : World) (h : Heap) (a : Addr) (l : List Str) : Prop :=
  l.Nodup ∧ ∃ D : Froz.SD, h.get? a = some (Froz.sObj "set" D) ∧ Froz.TxOk P w D l ∧ Ris D.2.2.place.toList ∧ (w.params.followText "set-order" = true ∨ D.2.2.led = true)
theorem tl_ris {ep : Nat} {es : Array (Int × Value)} {t : SetTable} {wd : Bool} (r : Ris t.place.toList) : Ris (Froz.tailTx ep es t wd).2.2.place.toList := by
  unfold Froz.tailTx
  split
  · exact relayAll_ris _ _ _
  · exact r
theorem tl_led {ep : Nat} {es : Array (Int × Value)} {t : SetTable} {wd : Bool} : (Froz.tailTx ep es t wd).2.2.led = t.led := by
  unfold Froz.tailTx
  split
  · exact relayAll_led _ _ _
  · rfl
theorem ad_ris {h : Int} {v : Value} {D : Froz.SD} (r : Ris D.2.2.place.toList) : Ris (Froz.addTx h v D).2.2.place.toList := by
  have q := layNew_ris D.2.2 D.1 h v r
  unfold Froz.addTx
  refine tl_ris ?_
  split <;> exact q
theorem ad_led {h : Int} {v : Value} {D : Froz.SD} : (Froz.addTx h v D).2.2.led = D.2.2.led := by
  have q := layNew_led D.2.2 D.1 h v
  unfold Froz.addTx
  rw [tl_led]
  split <;> exact q
theorem TxH.at {h h' : Heap} {a : Addr} {l : List Str} (R : TxH P w h a l) (k : ∀ o, h.get? a = some o → h'.get? a = some o) : TxH P w h' a l := by
  obtain ⟨nd, D, e, r⟩ := R
  exact ⟨nd, D, k _ e, r⟩
def insL (k : Str) (l : List Str) : List Str := if k ∈ l then l else k :: l
theorem tx_addH {a : Addr} {l : List Str} {k : Str} {u : Tok} {Q : Bool → Shared → Prop} (R : TxH P w s.heap a l) (room : l.length + 1 < scanBound)
    (hQ : ∀ b h', Heap.SameBut a s.heap h' → TxH P w h' a (insL k l) → Q b { s with heap := h' }) : wpAny (model P w) A (setAddHashed a (.str k u) (hashStr w k)) Q E s := by
  obtain ⟨nd, D, e, F, r, ld⟩ := R
  by_cases hk : k ∈ l
  · have ei : insL k l = l := if_pos hk
    obtain ⟨es, ep, t⟩ := D
    have hd : (Froz.sObj "set" (es, ep, t)).data = .set es ep t := rfl
    have hf : t.fits es.size = true := F.fit
    have hel : ElemsOf (strKind P w) es.toList := F.el
    have hz : es.size = l.length := F.sz
    obtain ⟨x, hx, ix⟩ := (F.mem k).mp hk
    unfold setAddHashed setAddHashedIn
    refine wpAny_holding (wpAny_bind (wpAny_setState_of e hd hf ?_))
    dsimp only
    rw [byScan_of rfl (by omega) hel]
    simp only [↓reduceIte]
    unfold setAddByScan
    refine wpAny_bind (wpAny_bind (wpAny_rule (wpAny_bind (wpAny_setScan_of (knd := strKind P w) (k := k) (Froz.is_str k u) e hd hf hel ?_))))
    cases hj : List.findIdx? (fun e => (strKind P w).is k e.2) es.toList with
    | none =>
      have c := List.findIdx?_eq_none_iff.mp hj x hx
      rw [ix] at c; cases c
    | some j =>
      dsimp only
      refine wpAny_pure (wpAny_pure (hQ false s.heap (Heap.SameBut.refl a s.heap) ?_))
      rw [ei]
      exact ⟨nd, (es, ep, t), e, F, r, ld⟩
  · have ei : insL k l = k :: l := if_neg hk
    refine Froz.add_x e F hk room (hQ true _ (Heap.SameBut.update s.heap a _) ?_)
    rw [ei]
    exact ⟨List.nodup_cons.mpr ⟨hk, nd⟩, _, Froz.get_upd _ e rfl, Froz.add_ok u F, ad_ris r, ld.imp id fun z => by rw [ad_led]; exact z⟩
theorem tx_typ {s : Shared} {a : Addr} {l : List Str} (R : TxH P w s.heap a l) : s.TypeIs (.ref a) "set" := by
  obtain ⟨_, D, e, _⟩ := R
  exact ⟨_, e, rfl⟩
theorem tx_add {a : Addr} {l : List Str} {k : Str} {u : Tok} {Q : Value → Shared → Prop} (R : TxH P w s.heap a l) (room : l.length + 1 < scanBound)
    (hQ : ∀ h' t', Heap.SameBut a s.heap h' → TxH P w h' a (insL k l) → Q .none { s with heap := h', toks := t' }) : wpAny (model P w) A (call (.builtin "set.add") [.ref a, .str k u]) Q E s := by
  refine wpAny_call_entry F.slot_set_add (tx_typ R) F.entry_set_add ?_ (F.args_set_add_2 _ _)
  unfold Builtin.«set.add» Builtin.Frozenset.oneOther
  simp only [List.isEmpty_nil, bind_assoc]
  unfold Builtin.Frozenset.addrOf setAdd
  refine wpAny_bind (wpAny_pure ?_)
  try dsimp only
  refine wpAny_bind (wpAny_pure ?_)
  try dsimp only
  refine wpAny_bind (wpAny_holding (wpAny_bind ((strKind P w).pyHash (Froz.is_str k u) ?_)))
  refine tx_addH (s := { s with toks := s.toks + 1 }) R room fun b h' sb r => ?_
  exact wpAny_pure ⟨_, rfl, hQ h' _ sb r⟩
theorem tx_new {h : Heap} : TxH P w (h.push { cls := .type "set", dict := none, data := .set #[] 0 (.fresh 0 0 (!w.params.followText "set-order")) }) h.objs.size [] := by
  refine ⟨List.nodup_nil, (#[], 0, .fresh 0 0 (!w.params.followText "set-order")), Heap.get?_push_size _ rfl, Froz.TxOk.nil rfl, List.Pairwise.nil, ?_⟩
  cases w.params.followText "set-order" with
  | true => exact .inl rfl
  | false => exact .inr rfl
theorem perm_of {l m : List Str} (nd : l.Nodup) (sub : ∀ k ∈ l, k ∈ m) (len : m.length = l.length) : m.Perm l := by
  induction l generalizing m with
  | nil => rw [List.length_eq_zero_iff.mp len]
  | cons k r ih =>
    obtain ⟨n1, n2⟩ := List.nodup_cons.mp nd
    obtain ⟨a, b, rfl⟩ := List.append_of_mem (sub k List.mem_cons_self)
    have q : (a ++ b).Perm r := ih n2 (fun x hx => by
      have z := sub x (List.mem_cons_of_mem _ hx)
      rw [List.mem_append, List.mem_cons] at z
      rw [List.mem_append]
      rcases z with z | rfl | z
      · exact .inl z
      · exact absurd hx n1
      · exact .inr z) (by simp only [List.length_append, List.length_cons] at len ⊢; omega)
    exact List.perm_middle.trans (q.cons k)
theorem is_shape {k : Str} {v : Value} (h : (PySem.strKind P w).is k v = true) : ∃ u, v = .str k u := by
  have h' : Value.isStrOf k v = true := h
  cases v with
  | str x u =>
    have e : x = k := by
      simp only [Value.isStrOf] at h'
      first
        | exact eq_of_beq h'
        | exact (eq_of_beq h').symm
        | simpa using h'
    exact ⟨u, by rw [e]⟩
  | _ => exact Bool.noConfusion h'
theorem tx_sorted {a : Addr} {l : List Str} {Q : Value → Shared → Prop} (R : TxH P w s.heap a l) (hh : A.handled = none) (room : l.length < scanBound)
    (hQ : ∀ s' p (out : Array Value) (c : Nat) (ks : List Str), (∀ b o, s.heap.get? b = some o → s'.heap.get? b = some o) → s'.gens = s.gens → s'.os = s.os → s.heap.objs.size ≤ p →
      s'.heap.get? p = some (seqObj "list" out c) → StrsAre out.toList ks → ks.Perm l → sortedS ks = true → Q (.ref p) s') :
    wpAny (model P w) A (call (.builtin "sorted") [.ref a]) Q E s := by
  obtain ⟨nd, ⟨es, ep, t⟩, ho, F, r, ld⟩ := R
  have hz : es.size = l.length := F.sz
  refine Calls.call_function_entry kind_sorted plain_sorted entry_sorted (args_sorted1 _) ?_
  unfold Builtin.«sorted»
  refine wpAny_bind (m := checkCount "sorted" 1 1 _) (wpAny_pure (wpAny_bind (collect_set (A := A.in1) (es := es) hh ⟨_, ho, rfl, rfl⟩ F.fit (by omega) r ld fun s1 vs k1 z1 g1 o1 pm => ?_)))
  have lv : vs.length = l.length := by rw [pm.length_eq, List.length_map, Array.length_toList]; exact hz
  have isS : ∀ v, v ∈ vs → ∃ x u, v = .str x u := fun v hv => by
    obtain ⟨e, he, rfl⟩ := List.mem_map.mp (pm.mem_iff.mp hv)
    obtain ⟨⟨k, hk, _⟩, _⟩ := F.el e he
    obtain ⟨u, z⟩ := is_shape hk
    exact ⟨k, u, z⟩
  have hS : StrsAre vs (vs.map strOf) := strsAre_map vs isS
  have hp : (vs.map strOf).Perm l := by
    refine perm_of nd (fun k hk => ?_) (by rw [List.length_map]; exact lv)
    obtain ⟨e, he, hi⟩ := (F.mem k).mp hk
    refine List.mem_map.mpr ⟨e.2, pm.mem_iff.mpr (List.mem_map.mpr ⟨e, he, rfl⟩), ?_⟩
    obtain ⟨u, z⟩ := is_shape hi
    rw [z]; rfl
  have hoL : (s1.heap.push (seqObj "list" vs.toArray 0)).get? s1.heap.objs.size = some (seqObj "list" vs.toArray 0) := Heap.get?_push_size _ rfl
  have hlz : vs.length ≤ sizeLine := by rw [lv, sizeLine_eq]; unfold scanBound at room; omega
  refine wpAny_bind (wpAny_newList ?_ hlz)
  refine wpAny_bind (wpAny_holding (wpAny_call_entry slot_list_sort ⟨_, hoL, rfl⟩ entry_list_sort (list_sort_treeKAny strKind_oneLt hoL hS.keysOf (fun v₁ v₂ rest e => keyKind_strs (by rw [← e]; exact hS)) hlz fun st' a1 a2 => ⟨_, rfl, ?_⟩) (args_list_sort _)))
  obtain ⟨ks, h1, h2, h3⟩ := sorted_out_str hS a1 a2
  obtain ⟨c, hc⟩ := sortedHeap_at (vs := vs) (out := (arrOf st').map (·.2)) hoL
  refine wpAny_pure ⟨_, rfl, hQ _ s1.heap.objs.size _ c ks (fun b u e => ?_) g1 o1 z1 hc h1 (h2.trans hp) h3⟩
  have q := k1 b u e
  have lt := Heap.lt_size q
  show (sortedHeap (s1.heap.push (seqObj "list" vs.toArray 0)) s1.heap.objs.size vs _).get? b = some u
  rw [sortedHeap_old (Nat.ne_of_lt lt) (by rw [size_push']; exact Nat.lt_succ_of_lt lt)]
  exact Heap.get?_push_of_some _ q
def TxO (P : Program) (w : World) (a : Addr) (l : List Str) : HO := .ext fun h => TxH P w h a l
theorem txO_new {H : Hp} {h : Heap} {a : Addr} {l : List Str} (R : TxH P w h a l) : ObjOk P w H h a (TxO P w a l) := by
  obtain ⟨_, D, e, r⟩ := id R
  exact ⟨R, ⟨_, e⟩, fun h1 h2 p k => TxH.at p k⟩
end
section
variable {X : Cx}
theorem txO_get {pins : List (Addr × Obj)} {σ : L2.St} {H : Hp} {s : Shared} {a : Addr} {l : List Str} (I : Inv X pins σ H s) (ha : H a = some (TxO X.prog X.w a l)) : TxH X.prog X.w s.heap a l := (I.hok a _ ha).1
theorem txO_add {pins : List (Addr × Obj)} {σ : L2.St} {H : Hp} {s : Shared} {E : Value → Shared → Prop} {D : Addr} {l : List Str} {k : Str} {u : Tok} {Q : Value → Shared → Prop} (I : Inv X pins σ H s) (hD : H D = some (TxO X.prog X.w D l)) (room : l.length + 1 < scanBound)
    (h : ∀ s', Inv X pins σ (upd H D (TxO X.prog X.w D (insL k l))) s' → Q .none s') : wpAny (model X.prog X.w) X.A (call (.builtin "set.add") [.ref D, .str k u]) Q E s := by
  refine tx_add (txO_get I hD) room fun h' t' sb r => h _ ?_
  have he : ∃ u, h'.get? D = some u := by
    obtain ⟨_, D', e, _⟩ := r
    exact ⟨_, e⟩
  exact I.write (e := D) (t' := t') (by rw [hD]; trivial) (.inl rfl) (fun b u hb hu => (sb.2 b hb).trans hu) he (txO_new r)
/-- sorted of a set of texts -/
def rSortedX (P : Program) (w : World) : List V → Hp → VK → Prop := fun vs H Q => ∃ (a : Addr) (l : List Str), vs = [V.ref a] ∧ H a = some (TxO P w a l) ∧ l.length < scanBound ∧
  ∀ (ks : List Str) (p : Addr), ks.Perm l → sortedS ks = true → H p = none → Q (.ref p) (upd H p (.lst (ks.map V.str)))
theorem cr_sortedX (hc : X.calm = true) : CallR X (.builtin "sorted") (rSortedX X.prog X.w) := by
  intro pins s σ H vs us Q I r h
  obtain ⟨a, l, rfl, ha, room, q⟩ := h
  rw [Vals.ref1 r]
  refine tx_sorted (txO_get I ha) (I.ok.hd hc) room fun s' p out c ks k g o hp hg hi pm so => ?_
  have lz : (ks.map V.str).length ≤ sizeLine := by rw [List.length_map, pm.length_eq, sizeLine_eq]; unfold scanBound at room; omega
  have hn : H p = none := I.hok.fresh hp
  have J : L2.Inv X pins σ (upd H p (.lst (ks.map V.str))) ⟨s'.heap, s'.gens, s'.drawn, s'.toks, s.os⟩ :=
    I.call (ch := []) (Un.laid k hp hn) (I.hok.laid k hp ⟨lz, out.toList, c, vals_of_strs hi, hg⟩) (by rw [g]; exact I.bare) (fun _ z => nomatch z)
  rw [← o] at J
  exact ⟨.ref p, _, J, rfl, q ks p pm so hn⟩
/-! the comprehension {elt for tg in iter if ..}, elt a text: D the new set -/
def tSX (P : Program) (w : World) (wi : TI) (g : TG) (tt : TT) (te : TE) (vs : List Nat) : TE := fun σ H Q => wi σ H fun J H1 => ∀ D, H1 D = none → ∃ W : Nat → Nat → Hp → Prop, (∃ m, W 0 m (upd H1 D (TxO P w D []))) ∧ ∀ i m H, W i m H →
  (J.stop i H ∧ Q (.ref D) H) ∨ (J.go i H ∧ ∃ Nx : Hp → Prop, (∀ H', Nx H' → ∃ m', m' < m ∧ W (i + 1) m' H') ∧ ∀ x H', J.yld i H x H' → g x (L2.wipe σ vs) H' fun σ2 H2 => L2.wipe σ2 vs = L2.wipe σ vs ∧ tt σ2 H2 fun b H3 =>
    if b = true then te σ2 H3 fun y H4 => ∃ (k : Str) (l : List Str), y = .str k ∧ H4 D = some (TxO P w D l) ∧ l.length + 1 < scanBound ∧ Nx (upd H4 D (TxO P w D (insL k l))) else Nx H3)
theorem pe_sx {elt tg iter : Expr} {ifs : List Expr} {scope : Scope} {own : List (PySem.Str × Nat)} {pos : Pos} {wi : TI} {g : TG} {tt : TT} {te : TE} (hc : X.calm = true) (hN : X.N.Nodup) (hi : PI X tg iter wi) (ok : BlkOk X.N X.env.scope scope own)
    (pg0 : ∀ (u : Shared) (J : Hp) (C : Addr) (cl : List (PySem.Str × Addr)) (fp : List Addr), PG (X.blk u J scope (compEnvC scope cl C X.env) fp) tg g) (pt0 : ∀ (u : Shared) (J : Hp) (C : Addr) (cl : List (PySem.Str × Addr)) (fp : List Addr), PTs (X.blk u J scope (compEnvC scope cl C X.env) fp) ifs tt)
    (pe0 : ∀ (u : Shared) (J : Hp) (C : Addr) (cl : List (PySem.Str × Addr)) (fp : List Addr), PE (X.blk u J scope (compEnvC scope cl C X.env) fp) elt te) (hfold : ∀ x, foldedSetIterable iter X.env x = pure x := by intro _; rfl) :
    PE X (.SetComp elt [⟨tg, iter, ifs, 0⟩] scope pos) (tSX X.prog X.w wi g tt te (own.map (·.2))) := by
  refine ⟨fun pins s σ H Q I h => ?_⟩
  rw [PpSet.eval_SetComp]
  have hfree : ∀ y ∈ scope.names, y.2 = .free → ∃ c, X.env.cells.lookup y.1 = some c := fun y hy z => by
    rcases ok.free y hy z with q | q
    · exact I.ok.has _ (.inl q)
    · exact I.ok.has _ (.inr q)
  refine wpAny_comprehension_free (use := none) rfl hfold (closure_ok hfree) ok.kind (fun y hy z => by rw [ok.uniq y hy, z]) (thn (hi.run pins s σ H _ I h) fun xv s1 hx => thn hx fun itv s2 h2 => ?_)
  obtain ⟨it, fp, tn, J, H2, rfl, I2, T, st2, f2, q⟩ := h2
  refine PpSet.newSet_ok (newEnv_comp ?_)
  have DN : H2 s2.heap.objs.size = none := I2.hok.fresh (Nat.le_refl _)
  obtain ⟨W, ⟨m0, w0⟩, turn⟩ := q _ DN
  generalize eD : s2.heap.objs.size = D at *
  generalize es3 : ({ s2 with heap := s2.heap.push { cls := .type "set", dict := none, data := .set #[] 0 (.fresh 0 0 (!X.w.params.followText "set-order")) } } : Shared) = s3
  have hp3 : s3.heap = s2.heap.push { cls := .type "set", dict := none, data := .set #[] 0 (.fresh 0 0 (!X.w.params.followText "set-order")) } := by rw [← es3]
  generalize eH3 : upd H2 D (TxO X.prog X.w D []) = H3 at w0
  have I3 : L2.Inv X pins σ H3 s3 := by
    rw [← eH3, ← es3]
    refine I2.laid (t' := s2.toks) (fun b o z => Heap.get?_push_of_some _ z) (Nat.le_of_eq eD) ?_
    rw [← eD]
    exact txO_new tx_new
  have below : ∀ b ∈ fp, b < s2.heap.objs.size := fun b hb => by
    obtain ⟨o, z, _⟩ := T.obj _ _ st2 b hb
    exact Heap.lt_size z
  have f3 : ∀ b ∈ fp, FpOk X pins H3 b ∧ b < s3.heap.objs.size := fun b hb => by
    have lt := below b hb
    refine ⟨⟨?_, (f2 b hb).2⟩, by rw [hp3, Heap.size_push]; exact Nat.lt_succ_of_lt lt⟩
    rw [← eH3, upd_ne (by rw [← eD]; exact Nat.ne_of_lt lt)]
    exact (f2 b hb).1
  have st3 : tn 0 s3.heap := T.keep _ _ _ st2 fun b _ o z => by rw [hp3]; exact Heap.get?_push_of_some _ z
  have I4 := block_start I3 ok hN f3
  generalize ecl : cellsFrom (s3.heap.objs.size + 1) scope.names (cloFrom X.env.cells scope.names []) = cl at I4
  have pg := pg0 s3 H3 s3.heap.objs.size cl fp
  have pt := pt0 s3 H3 s3.heap.objs.size cl fp
  have pe := pe0 s3 H3 s3.heap.objs.size cl fp
  show codeAny _ _ (.compStart (.SetComp elt [⟨tg, iter, ifs, 0⟩] scope pos) 0 (.ref it) (.ref D) (compEnvC scope cl s3.heap.objs.size X.env)) (compPost (model X.prog X.w) X.A X.xe none _ (.ref D) s3.heap.objs.size) { s3 with heap := pushCells (s3.heap.push { cls := .type "dict", data := .dict #[] }) scope.names }
  generalize ece : compEnvC scope cl s3.heap.objs.size X.env = ce at I4 pg pt pe ⊢
  have cL : ce.locals = s3.heap.objs.size := by subst ece; rfl
  generalize es4 : ({ s3 with heap := pushCells (s3.heap.push { cls := .type "dict", data := .dict #[] }) scope.names } : Shared) = s4 at I4 ⊢
  have st4 : tn 0 s4.heap := T.keep _ _ _ st3 fun b _ o z => by rw [← es4]; exact pushCells_keeps _ _ _ _ (Heap.get?_push_of_some _ z)
  have nfp : ∀ b ∈ fp, H3 b = none := fun b hb => (f3 b hb).1.1
  have held : ∀ {σ' : L2.St} {J' : Hp} {u' : Shared}, L2.Inv (X.blk s3 H3 scope ce fp) [] σ' J' u' → (∀ b ∈ fp, J' b = none) → ∀ b ∈ fp, FpOk (X.blk s3 H3 scope ce fp) [] J' b := fun {σ' J' u'} I' hn b hb =>
    ⟨hn b hb, (I'.ok.exf b hb).1, I'.ok.exfs b hb, .inl hb, fun x c z => (I'.ok.exf b hb).2 x c z, fun p hp => absurd (show p ∈ ([] : List (Addr × Obj)) ++ [] from hp) (by simp)⟩
  have loop : codeAny (model X.prog X.w) X.A (.compLoop (.SetComp elt [⟨tg, iter, ifs, 0⟩] scope pos) 0 (.ref it) (.ref D) ce) (compPost (model X.prog X.w) X.A X.xe none (EP X pins σ Q) (.ref D) s3.heap.objs.size) s4 := by
    refine PpSet.compLoopS_any (fun m u => ∃ i J', L2.Inv (X.blk s3 H3 scope ce fp) [] (L2.wipe σ (own.map (·.2))) J' u ∧ tn i u.heap ∧ (∀ b ∈ fp, J' b = none) ∧ W i m J') ?_ m0 ⟨0, H3, I4, st4, nfp, w0⟩
    rintro m u5 ⟨i, H5, I5, st5, n5, w5⟩
    rcases turn i m H5 w5 with ⟨stop, fin⟩ | ⟨go, Nx, hNx, step⟩
    · refine thnF (T.done (X.blk s3 H3 scope ce fp) rfl rfl rfl hc i [] u5 _ H5 (fun _ _ => False) I5 (held I5 n5) st5 stop) fun r u6 ⟨hr, I6⟩ => ?_
      subst hr
      have I7 : L2.Inv X pins σ H5 u6 := I3.call' (ch := fp) I6.os I6.base I6.hok I6.bare fun b hb => ⟨(f3 b hb).1.2.2.2.1, (f3 b hb).1.2.1, (f3 b hb).1.2.2.2.2.1, (f3 b hb).1.2.2.2.2.2⟩
      have nC : H5 s3.heap.objs.size = none := by
        have z := I6.free
        rw [show (X.blk s3 H3 scope ce fp).env.locals = s3.heap.objs.size from cL] at z
        exact z
      obtain ⟨mm, hn, _⟩ := I6.loc
      have hn : u6.heap.Ns ce.locals mm := hn
      rw [cL] at hn
      refine ⟨mm, hn, fun h'' sb => ?_⟩
      obtain ⟨a0, a1, a2, a3, a4, a5⟩ := I3.fpOk (Nat.le_refl _) nC
      exact ⟨.ref D, H5, I7.turned (t' := u6.toks) (fun b o hb z => (sb.2 b hb).trans z) a0 a1 a3 a4 a5, rfl, fin⟩
    · refine thnF (T.item (X.blk s3 H3 scope ce fp) rfl rfl rfl hc i [] u5 _ H5 (fun _ _ => False) I5 (held I5 n5) st5 go) fun r u6 ⟨v, hr, h6⟩ => ?_
      subst hr
      refine thnF h6 fun _ u7 ⟨x, H7, I7, r7, y7, st7, n7⟩ => ?_
      have I7' := I7.pinned (held I7 n7) (T.obj _ _ st7)
      refine thnF (pg.run _ u7 _ H7 x v _ I7' r7 (step x H7 y7)) fun _ u8 ⟨σ8, H8, I8, hw8, q8⟩ => ?_
      refine thnF (pt.run _ u8 σ8 H8 _ I8 q8) fun b u9 ⟨H9, I9, q9⟩ => ?_
      have rest : ∀ {u' : Shared} {J' : Hp}, L2.Inv (X.blk s3 H3 scope ce fp) ([] ++ pinsAt fp u7.heap) σ8 J' u' → Nx J' → ∃ k, k < m ∧ ∃ i J', L2.Inv (X.blk s3 H3 scope ce fp) [] (L2.wipe σ (own.map (·.2))) J' u' ∧ tn i u'.heap ∧ (∀ b ∈ fp, J' b = none) ∧ W i k J' := fun {u' J'} I' nx => by
        obtain ⟨k, hk, w'⟩ := hNx J' nx
        have pin' : ∀ b ∈ fp, ∀ o, u7.heap.get? b = some o → u'.heap.get? b = some o ∧ J' b = none := fun b hb o z =>
          let y := I'.pin (b, o) (List.mem_append_right _ (List.mem_append_right _ (mem_pinsAt hb z)))
          ⟨y.1, y.2.1⟩
        have hl : (L2.wipe σ (own.map (·.2))).length = σ8.length := by rw [← hw8, wipe_length]
        refine ⟨k, hk, i + 1, J', (I'.unpinned (pins := [])).weak hl (fun j v z => ?_), T.keep _ _ _ st7 fun b hb o z => (pin' b hb o z).1, fun b hb => ?_, w'⟩
        · rw [← hw8] at z
          exact (wipe_some z).1
        · obtain ⟨o, z, _⟩ := T.obj _ _ st7 b hb
          exact (pin' b hb o z).2
      cases b with
      | false =>
        simp only [Bool.false_eq_true, if_false] at q9 ⊢
        exact rest I9 q9
      | true =>
        simp only [if_true] at q9 ⊢
        refine thnF (pe.run _ u9 σ8 H9 _ I9 q9) fun z u10 ⟨yv, H10, I10, r10, k, l, ey, hD10, room, nx⟩ => ?_
        subst ey
        obtain ⟨tk, rfl⟩ := (show ∃ tk, z = Value.str k tk from r10)
        exact txO_add (X := X.blk s3 H3 scope ce fp) I10 hD10 room fun u11 I11 => rest I11 nx
  exact PpSet.codeAny_compStart_set loop (T.self X.A 0 _ _ _ st4 loop)
end
end Px
namespace Px
open PySem PySem.Spec PyProof.Rows L2
/-! ### set(xs), xs a list of texts -/
def inss (xs : List Str) (l : List Str) : List Str := xs.foldl (fun a k => insL k a) l
theorem inss_app (xs : List Str) (k : Str) (l : List Str) : inss (xs ++ [k]) l = insL k (inss xs l) := by unfold inss; rw [List.foldl_append]; rfl
theorem insL_len (k : Str) (l : List Str) : (insL k l).length ≤ l.length + 1 := by unfold insL; split <;> simp
theorem inss_len : ∀ (xs l : List Str), (inss xs l).length ≤ l.length + xs.length
  | [], l => by simp [inss]
  | k :: xs, l => by
    have := inss_len xs (insL k l)
    have := insL_len k l
    show (inss xs (insL k l)).length ≤ _
    simp only [List.length_cons]; omega
section
variable {prog : Program} {w : World} {A : Around} {E : Value → Shared → Prop} {s : Shared} {R : Result → Shared → Prop} {I : Addr} {fp wr : List Addr} {G : Array GenState → Array GenState → Prop} {n : Nat} {Pv : Nat → Value → Prop} {St : Nat → Shared → Prop}
theorem tx_loop (W : WalksS prog w A.in1 I fp wr G n Pv St) (D : Addr) (nD : D ∉ fp) (xs : List Str) (hz : xs.length = n) (room : n + 1 < scanBound) (hv : ∀ i v, Pv i v → ∃ t, v = .str (xs.getD i Str.empty) t) :
    ∀ (k i : Nat) (s : Shared), n - i = k → i ≤ n → St i s → TxH prog w s.heap D (inss (xs.take i) []) → (∀ s', Moved (D :: wr) G s s' → TxH prog w s'.heap D (inss xs []) → R (.ok (.ret .none)) s') → codeAny (model prog w) A (.builtin "set.update.loop" ⟨[.ref D, .ref I], []⟩) R s := by
  have nW : D ∉ wr := fun h => nD (W.sub _ h)
  have sub2 : ∀ b ∈ wr, b ∈ D :: wr := fun b hb => List.mem_cons_of_mem _ hb
  intro k
  induction k with
  | zero =>
    intro i s hk hi st hS fin
    have ei : i = n := by omega
    subst ei
    refine codeAny_builtin F.entry_set_update_loop ?_
    rw [Around.under_plainId F.plain_set_update_loop _]
    refine wpAny_bind (m := pyNext (.ref I)) (W.done s _ _ st fun s' hm => ?_)
    refine wpAny_pure (fin s' (hm.mono sub2) ?_)
    rw [List.take_of_length_le (by omega)] at hS
    exact hS.at fun o e => hm.heap D o nW e
  | succ k ih =>
    intro i s hk hi st hS fin
    have lt : i < n := by omega
    refine codeAny_builtin F.entry_set_update_loop ?_
    rw [Around.under_plainId F.plain_set_update_loop _]
    refine wpAny_bind (m := pyNext (.ref I)) (W.item i s _ _ lt st fun v s' hP st' hm => ?_)
    obtain ⟨t, rfl⟩ := hv i v hP
    have hS' := hS.at (h' := s'.heap) fun o e => hm.heap D o nW e
    have le : (inss (xs.take i) []).length ≤ i := by
      have := inss_len (xs.take i) []
      simp only [List.length_nil, List.length_take] at this
      omega
    have en : xs.take (i + 1) = xs.take i ++ [xs.getD i Str.empty] := by
      rw [List.take_succ, List.getD_eq_getElem?_getD, List.getElem?_eq_getElem (by omega)]; rfl
    refine wpAny_bind (m := holding [Value.str (xs.getD i Str.empty) t] (setAdd D (.str (xs.getD i Str.empty) t))) (wpAny_holding ?_)
    unfold setAdd
    refine wpAny_holding (wpAny_bind ((PySem.strKind prog w).pyHash (Froz.is_str _ t) ?_))
    refine tx_addH (s := { s' with toks := s'.toks + 1 }) hS' (by omega) fun b h' sb r => ?_
    rw [← inss_app, ← en] at r
    refine wpAny_pure ⟨plainId_quiet F.plain_set_update_loop _, ih (i + 1) _ (by omega) lt (W.frame _ s' _ _ st' (Nat.le_succ _) fun b hb o e => ?_) r fun s2 hm2 hS2 => ?_⟩
    · rw [sb.2 b (fun z : b = D => nD (by rw [← z]; exact hb))]; exact e
    · refine fin s2 (Moved.trans W.gtrans ((hm.mono sub2).then_heap (Nat.le_succ _) fun b o hb e => ?_) hm2) hS2
      rw [sb.2 b (fun z : b = D => hb (by rw [z]; exact List.mem_cons_self))]; exact e
def newS (w : World) : Obj := { cls := .type "set", dict := none, data := .set #[] 0 (.fresh 0 0 (!w.params.followText "set-order")) }
theorem tx_at {h : Heap} {a : Addr} {P : Program} (e : h.get? a = some (newS w)) : TxH P w h a [] := by
  refine ⟨List.nodup_nil, (#[], 0, .fresh 0 0 (!w.params.followText "set-order")), e, Froz.TxOk.nil rfl, List.Pairwise.nil, ?_⟩
  cases w.params.followText "set-order" with
  | true => exact .inl rfl
  | false => exact .inr rfl
set_option maxHeartbeats 3200000 in
theorem tx_from {l : Addr} {items : Array Value} {xs : List Str} {Q : Value → Shared → Prop} (hh : A.handled = none) (hl : s.heap.IsList l items) (hi : StrsAre items.toList xs) (room : xs.length + 1 < scanBound)
    (h : ∀ (h' : Heap) (tk : Nat), TxH prog w h' s.heap.objs.size (inss xs []) → (∀ b o, s.heap.get? b = some o → h'.get? b = some o) → Q (.ref s.heap.objs.size) { s with heap := h', toks := tk }) :
    wpAny (model prog w) A (call (.type "set") [.ref l]) Q E s := by
  obtain ⟨c, tl, hmro⟩ := F.called_set.mro
  have hmade := F.called_set.made
  have hsub := F.called_set.sub
  refine wpAny_call (codeAny_of_tree (wpAny_pure ⟨Code.quiet_builtin _ (by decide +kernel), codeAny_builtin F.entry_type_call ?_⟩))
  rw [Around.under_plain (weight_type_call_type "set" [.ref l] []) rfl]
  have h1 := F.called_set.notType
  have h2 := F.called_set.canCreate
  have hct := F.typeCall_set_1 (.ref l)
  repeat (any_goals (first | assumption | wp_step))
  refine codeAny_mono (code_set_led1 (.ref l) (E := E) (Q₁ := fun obj u => obj = .ref s.heap.objs.size ∧ u = { s with heap := s.heap.push (newS w) }) ⟨rfl, rfl⟩) fun r u hr => ?_
  cases r with
  | error e => exact hr
  | ok fl =>
    cases fl with
    | ret obj =>
      obtain ⟨rfl, rfl⟩ := hr
      have hS : (s.heap.push (newS w)).get? s.heap.objs.size = some (newS w) := Heap.get?_push_size _ rfl
      have hT : Shared.TypeIs { s with heap := s.heap.push (newS w) } (.ref s.heap.objs.size) "set" := ⟨_, hS, rfl⟩
      have hli := F.called_set.init.lookup
      have hbi := F.called_set.init.bind (.ref s.heap.objs.size)
      repeat (any_goals (first | assumption | wp_step))
      refine codeAny_mono (codeAny_call_builtin (R := wants (fun r u => r = .none ∧ ∃ h' tk, u = { s with heap := h', toks := tk } ∧ TxH prog w h' s.heap.objs.size (inss xs []) ∧ (∀ b o, s.heap.get? b = some o → h'.get? b = some o)) E) F.called_set.init.plain F.entry_set_init (check_set_init_1 hT ?_)) fun r2 u2 hr2 => ?_
      · obtain ⟨ol, hol, hcl, nl, hdl⟩ := hl
        obtain ⟨ocls, odict, odata, oslots⟩ := ol
        simp only at hcl hdl
        subst hcl; subst hdl
        have hol' : (s.heap.push (newS w)).get? l = some { cls := .type "list", dict := odict, data := .seq items nl, slots := oslots } := Heap.get?_push_of_some _ hol
        have hsls := F.sub_list_set
        have hslf := F.sub_list_frozenset
        have hne : (Value.type "list" == Value.type "dict") = false := by decide
        have hl1 : (s.heap.push (newS w)).IsList l items := ⟨_, hol', rfl, nl, rfl⟩
        unfold Builtin.«set.__init__» noKeywords Builtin.Frozenset.updateFrom
        generalize hPI : pyIter = PI
        wp_walk
        subst hPI
        refine wpAny_pyIter_list hl1 (wpAny_bind (wpAny_runValue ?_))
        have lS : l < s.heap.objs.size := Heap.lt_size hol
        have hh3 : A.in1.in1.in1.handled = none := by simp [hh]
        have nI : l ≠ (s.heap.push (newS w)).objs.size := by
          rw [Heap.size_push]; exact Nat.ne_of_lt (Nat.lt_succ_of_lt lS)
        have nF : s.heap.objs.size ∉ [(s.heap.push (newS w)).objs.size, l] := by
          rw [Heap.size_push]; simp only [List.mem_cons, List.mem_singleton, List.not_mem_nil, or_false, not_or]
          exact ⟨Nat.ne_of_lt (Nat.lt_succ_self _), Nat.ne_of_gt lS⟩
        have hsz : xs.length = items.size := by rw [← StrsAre.len_eq hi, Array.length_toList]
        refine tx_loop ((Walks.list hh3 _ l nI items).toS) s.heap.objs.size nF xs hsz (by rw [← hsz]; exact room) (fun i v hv => SS.strs_at hi i v (by rw [Array.getElem?_toList]; exact hv)) (items.size - 0) 0 _ (by omega) (Nat.zero_le _) ⟨⟨_, Heap.get?_push_size _ rfl, rfl, rfl⟩, (hl1.push _)⟩ (tx_at (Heap.get?_push_of_some _ hS)) ?_
        intro s' hm hS'
        obtain ⟨h', g', d', tk', os'⟩ := s'
        have eg : g' = s.gens := hm.gens
        have ed : d' = s.drawn := hm.drawn
        have eo : os' = s.os := hm.os
        subst eg; subst ed; subst eo
        show wpAny _ _ _ _ _ _
        refine wpAny_pure ?_
        show wpAny _ _ (ret Value.none) _ _ _
        refine wpAny_pure ⟨rfl, h', tk', rfl, hS', fun b o e => ?_⟩
        have hb := Heap.lt_size e
        have nb1 : b ≠ s.heap.objs.size := Nat.ne_of_lt hb
        have nb2 : b ≠ (s.heap.push (newS w)).objs.size := by
          rw [Heap.size_push]; exact Nat.ne_of_lt (Nat.lt_succ_of_lt hb)
        exact hm.heap b o (by simp only [List.mem_cons, List.mem_singleton, List.not_mem_nil, or_false, not_or]; exact ⟨nb1, nb2⟩) (Heap.get?_push_of_some _ (Heap.get?_push_of_some _ e))
      · cases r2 with
        | error e => exact hr2
        | ok fl2 =>
          cases fl2 with
          | ret r =>
            obtain ⟨rfl, h', tk, rfl, hS', hk'⟩ := hr2
            repeat (any_goals (first | assumption | wp_step))
            exact h _ _ hS' hk'
          | _ => exact hr2.elim
    | _ => exact hr.elim
end
end Px
namespace Px
open PySem PySem.Spec PyProof.Rows L2
section
variable {X : Cx}
/-- set(xs), xs a list of texts -/
def rSetL (P : Program) (w : World) (K : PySem.W.Frag) : List V → Hp → VK → Prop := fun vs H Q => ∃ (l : Addr) (xs : List Str), vs = [.ref l] ∧ SqL K H l (xs.map V.str) ∧ xs.length + 1 < scanBound ∧ ∀ p, H p = none → Q (.ref p) (upd H p (TxO P w p (inss xs [])))
theorem cr_setL (hc : X.calm = true) : CallR X (.type "set") (rSetL X.prog X.w X.K) := by
  intro pins s σ H vs us Q I r h
  obtain ⟨l, xs, rfl, hs, room, q⟩ := h
  obtain ⟨its, rv, hl, _⟩ := I.list hs
  rw [Vals.ref1 r]
  refine tx_from (I.ok.hd hc) hl.isList rv.strs room fun h' tk R k => ?_
  have hn : H s.heap.objs.size = none := I.hok.fresh (Nat.le_refl _)
  exact ⟨.ref _, _, I.laid (t' := tk) k (Nat.le_refl _) (txO_new R), rfl, q _ hn⟩
/-- len of a set of texts -/
def rLenX (P : Program) (w : World) : List V → Hp → VK → Prop := fun vs H Q => ∃ (a : Addr) (l : List Str), vs = [V.ref a] ∧ H a = some (TxO P w a l) ∧ l.length < scanBound ∧ Q (.int (l.length : Nat)) H
theorem cr_lenX : CallR X (.builtin "len") (rLenX X.prog X.w) := by
  intro pins s σ H vs us Q I r h
  obtain ⟨a, l, rfl, ha, room, q⟩ := h
  obtain ⟨nd, ⟨es, ep, t⟩, ho, F, rs, ld⟩ := txO_get I ha
  rw [Vals.ref1 r]
  have hz : es.size = l.length := F.sz
  refine call_len_set ho ⟨rfl, rfl, rfl⟩ rfl F.fit (by rw [hz]; unfold scanBound at room; omega) ⟨.int (l.length : Nat), H, I.tok _, ⟨_, by rw [hz]⟩, q⟩
end
section
variable {K : PySem.W.Frag} {P : Program} {w : World}
def rSortSet (P : Program) (w : World) (K : PySem.W.Frag) : List V → Hp → VK → Prop := fun vs H Q => rSetL P w K vs H fun v H1 => rSortedX P w [v] H1 Q
def rLenSet (P : Program) (w : World) (K : PySem.W.Frag) : List V → Hp → VK → Prop := fun vs H Q => rSetL P w K vs H fun v H1 => rLenX P w [v] H1 Q
/-- sorted(set(xs)) -/
def gSortSet (ps : List PV) (Q : R → Prop) : Prop := match ps with
  | [.lst ps] => match asStrs ps with
    | some ss => ss.length ≤ 4000 ∧ ∀ ys : List Str, ys.Perm (inss ss []) → sortedS ys = true → Q (.fr (.lst (ys.map PV.str)))
    | none => False
  | _ => False
/-- len(set(xs)) -/
def gLenSet (ps : List PV) (Q : R → Prop) : Prop := match ps with
  | [.lst ps] => match asStrs ps with
    | some ss => ss.length ≤ 4000 ∧ Q (.pv (.int ((inss ss []).length : Nat)))
    | none => False
  | _ => False
theorem insL_all {C : Str → Prop} {k : Str} {l : List Str} (h : C k) (g : ∀ s ∈ l, C s) : ∀ s ∈ insL k l, C s := by
  intro s hs
  unfold insL at hs
  split at hs
  · exact g s hs
  · rcases List.mem_cons.mp hs with rfl | hs
    · exact h
    · exact g s hs
theorem inss_all {C : Str → Prop} : ∀ {xs l : List Str}, (∀ s ∈ xs, C s) → (∀ s ∈ l, C s) → ∀ s ∈ inss xs l, C s
  | [], _, _, g => g
  | k :: xs, l, h, g => inss_all (xs := xs) (fun s hs => h s (List.mem_cons_of_mem _ hs)) (insL_all (h k List.mem_cons_self) g)
theorem upd_upd {H : Hp} {a : Addr} {o u : HO} : upd (upd H a o) a u = upd H a u := by
  funext b
  by_cases e : b = a
  · subst e; rw [upd_same, upd_same]
  · rw [upd_ne e, upd_ne e, upd_ne e]
theorem real_sortSet : RealL K (rSortSet P w K) gSortSet := by
  intro H W ps xs Q F m l g f
  unfold gSortSet at g
  split at g
  · rename_i ps
    obtain ⟨x, rfl, h⟩ := lks1 l
    obtain ⟨a, vs, e, r, i⟩ := h
    subst e
    cases es : asStrs ps with
    | none => rw [es] at g; exact g.elim
    | some ss =>
      rw [es] at g
      obtain ⟨e2, ok⟩ := asStrs_iss i es
      subst e2
      have hl := inss_len ss []
      simp only [List.length_nil] at hl
      refine ⟨a, ss, rfl, .inl (.inl r), by unfold scanBound; omega, fun p hp => ⟨p, inss ss [], rfl, upd_same, by unfold scanBound; omega, fun ys q pm so hq => ?_⟩⟩
      have okS : ∀ s ∈ ys, sOk s = true := fun s hs => inss_all ok (fun s hs => by simp at hs) s (pm.mem_iff.mp hs)
      have np : q ≠ p := fun z => by rw [z, upd_same] at hq; cases hq
      have hq' : H q = none := by rw [upd_ne np] at hq; exact hq
      have sm : Same H (upd (upd H p (TxO P w p (inss ss []))) q (.lst (ys.map V.str))) := (same_new hp).trans (same_new hq)
      exact f (.ref q) _ (.fr (.lst (ys.map PV.str))) sm ⟨q, .lst (ys.map V.str), rfl, hq', upd_same, strs_iss okS⟩ (g.2 ys pm so)
  · exact g.elim
theorem real_lenSet : RealL K (rLenSet P w K) gLenSet := by
  intro H W ps xs Q F m l g f
  unfold gLenSet at g
  split at g
  · rename_i ps
    obtain ⟨x, rfl, h⟩ := lks1 l
    obtain ⟨a, vs, e, r, i⟩ := h
    subst e
    cases es : asStrs ps with
    | none => rw [es] at g; exact g.elim
    | some ss =>
      rw [es] at g
      obtain ⟨e2, ok⟩ := asStrs_iss i es
      subst e2
      have hl := inss_len ss []
      simp only [List.length_nil] at hl
      exact ⟨a, ss, rfl, .inl (.inl r), by unfold scanBound; omega, fun p hp => ⟨p, inss ss [], rfl, upd_same, by unfold scanBound; omega, f (.int ((inss ss []).length : Nat)) _ (.pv (.int ((inss ss []).length : Nat))) (same_new hp) rfl g.2⟩⟩
  · exact g.elim
end
section
variable {X : Cx} {e : Expr} {tr : QTA} {x y : Str} {p p2 pos q : Pos}
theorem qe_sortSet (hc : X.calm = true) (hm : X.mg "sorted" = none) (hm2 : X.mg "set" = none) (ha : QA X [e] tr) (hg : Gl X "sorted" := by rfl) (hg2 : Gl X "set" := by rfl)
    (he : starEach [e] X.env = (false, eval e X.env) :: starEach [] X.env := by rfl) (hpl : (backTo q (starEach [] X.env)).any (·.1) = false := by rfl) (he2 : starEach [.Call (.Name "set" p2) [e] [] q] X.env = (false, eval (.Call (.Name "set" p2) [e] [] q) X.env) :: starEach [] X.env := by rfl) (hpl2 : (backTo pos (starEach [] X.env)).any (·.1) = false := by rfl) :
    QE X (.Call (.Name "sorted" p) [.Call (.Name "set" p2) [e] [] q] [] pos) (qCB gSortSet tr) := by
  obtain ⟨t, p1, z⟩ := ha.ex
  have a1 := pe_callTy (pos := q) (p := p2) (cr_setL hc) hg2 hm2 (by decide +kernel) p1 (by decide) (by decide) he hpl
  exact ⟨_, pe_callB (pos := pos) (p := p) (cr_sortedX hc) hg hm (by decide +kernel) (pa_cons a1 pa_nil he2) (by decide) (by decide) he2 hpl2, rz_cb (r := rSortSet X.prog X.w X.K) real_sortSet z⟩
theorem qe_lenSet (hc : X.calm = true) (hm : X.mg "len" = none) (hm2 : X.mg "set" = none) (ha : QA X [e] tr) (hg : Gl X "len" := by rfl) (hg2 : Gl X "set" := by rfl)
    (he : starEach [e] X.env = (false, eval e X.env) :: starEach [] X.env := by rfl) (hpl : (backTo q (starEach [] X.env)).any (·.1) = false := by rfl) (he2 : starEach [.Call (.Name "set" p2) [e] [] q] X.env = (false, eval (.Call (.Name "set" p2) [e] [] q) X.env) :: starEach [] X.env := by rfl) (hpl2 : (backTo pos (starEach [] X.env)).any (·.1) = false := by rfl) :
    QE X (.Call (.Name "len" p) [.Call (.Name "set" p2) [e] [] q] [] pos) (qCB gLenSet tr) := by
  obtain ⟨t, p1, z⟩ := ha.ex
  have a1 := pe_callTy (pos := q) (p := p2) (cr_setL hc) hg2 hm2 (by decide +kernel) p1 (by decide) (by decide) he hpl
  exact ⟨_, pe_callB (pos := pos) (p := p) cr_lenX hg hm (by decide +kernel) (pa_cons a1 pa_nil he2) (by decide) (by decide) he2 hpl2, rz_cb (r := rLenSet X.prog X.w X.K) real_lenSet z⟩
end
/-! sorted({elt for tg in iter if ..}) -/
def scGo (g : QTG) (tt : QTT) (te : QT) (vs : List Nat) (Q : List Str → En → Prop) : List PV → List Str → En → Prop
  | [], acc, ρ => Q acc ρ
  | p :: ps, acc, ρ => g p ρ fun ρ1 => tt ρ1 fun b ρ2 => Br b (te ρ2 fun r ρ3 => match r.wk with
      | .pv (.str k) => acc.length ≤ 4000 ∧ notIos ρ3 vs ∧ scGo g tt te vs Q ps (insL k acc) (wipeE ρ3 vs)
      | _ => False) (notIos ρ2 vs ∧ scGo g tt te vs Q ps acc (wipeE ρ2 vs))
def scR (g : QTG) (tt : QTT) (te : QT) (vs : List Nat) (ps : List PV) (ρ : En) (Q : PK1) (_ : Dum Q) : Prop := scGo g tt te vs (fun acc ρ' => acc.length ≤ 4000 ∧ ∀ ys : List Str, ys.Perm acc → sortedS ys = true → Q (.fr (.lst (ys.map PV.str))) ρ') ps [] ρ
def qSortSc (ti : QTI) (g : QTG) (tt : QTT) (te : QT) (vs : List Nat) (ρ : En) (Q : PK1) : Prop := ti ρ fun ps ρ1 => notIos ρ1 vs ∧ scR g tt te vs ps (wipeE ρ1 vs) Q .mk
def tSortSc (P : Program) (w : World) (wi : TI) (g : TG) (tt : TT) (te : TE) (vs : List Nat) : TE := tCB (rSortedX P w) (tCons (tSX P w wi g tt te vs) tNil)
theorem rz_sortSc {K : PySem.W.Frag} {P : Program} {w : World} {wi : TI} {g : TG} {tt : TT} {te : TE} {vs sl : List Nat} {ti : QTI} {qg : QTG} {qt : QTT} {qe : QT} (h1 : RzI K wi ti) (h2 : RzG K g sl qg) (h3 : RzT K tt qt) (h4 : Rz K te qe) (hs : ∀ i ∈ sl, i ∈ vs) : Rz K (tSortSc P w wi g tt te vs) (qSortSc ti qg qt qe vs) := by
  intro G H σ ρ pd Q F R1 hw f
  refine h1 G H σ ρ pd _ _ R1 hw fun J ps ρ1 pd1 H1 sb R2 wk ⟨nio, go⟩ D hD => ?_
  have kx := R2.exk
  have kD : G.keep D = none := by
    cases q : G.keep D with
    | none => rfl
    | some u => rw [R2.keep D u q] at hD; cases hD
  let W : Nat → Nat → Hp → Prop := fun i m H => m = ps.length - i ∧ i ≤ ps.length ∧ ∃ (ρ' : En) (acc : List Str), (∀ s ∈ acc, sOk s = true) ∧ RE K (G.add D (TxO P w D acc)) H (L2.wipe σ vs) (wipeE ρ' vs) pd1 ∧ scGo qg qt qe vs (fun acc ρ' => acc.length ≤ 4000 ∧ ∀ ys : List Str, ys.Perm acc → sortedS ys = true → Q (.fr (.lst (ys.map PV.str))) ρ') (ps.drop i) acc (wipeE ρ' vs)
  refine ⟨W, ⟨ps.length, by simp, Nat.zero_le _, ρ1, [], fun s z => by simp at z, ?_, go⟩, ?_⟩
  · exact (R2.wipe vs nio).add (o := TxO P w D []) hD (same_new hD) upd_same trivial
  rintro i m H2 ⟨rfl, hi, ρ', acc, ok, R3, g1⟩
  by_cases lt : i < ps.length
  · have ep : ps[i]? = some ps[i] := List.getElem?_eq_getElem lt
    obtain ⟨jg, jy⟩ := wk.item _ H2 _ _ _ i _ (fun x hx => hx) (add_keep kD fun _ _ e => e) R3 ep
    refine .inr ⟨jg, fun H' => W (i + 1) (ps.length - (i + 1)) H', fun H' w => ⟨_, by omega, w⟩, fun x H3 y => ?_⟩
    have R4 := jy x H3 y
    rw [List.drop_eq_getElem_cons lt] at g1
    refine h2 _ H3 _ _ _ _ x _ _ R4 g1 fun σ2 ρ2 H4 l2 k2 R5 g2 => ?_
    have wa : L2.wipe σ2 vs = L2.wipe σ vs := by
      rw [← wipe_wipe σ vs]
      exact wipe_agree l2 fun j hj => k2 j fun z => hj (hs j z)
    refine ⟨wa, h3 _ H4 σ2 ρ2 _ _ _ R5 g2 fun b ρ3 H5 R6 g3 => ?_⟩
    cases b with
    | false =>
      obtain ⟨n3, g4⟩ := g3.2 rfl
      refine ⟨rfl, lt, ρ3, acc, ok, ?_, g4⟩
      have R7 := R6.wipe vs n3
      rw [wa] at R7
      exact R7
    | true =>
      have g4 := g3.1 rfl
      show te σ2 H5 _
      refine h4 _ H5 σ2 ρ3 _ _ _ R6 g4 fun r ρ4 v H6 s g5 => ?_
      have s' := s.wk
      cases er : r.wk with
      | pv q =>
        rw [er] at s' g5
        cases q with
        | str k =>
          obtain ⟨sm, n5, g6⟩ := g5
          have R7 : RE K (G.add D (TxO P w D acc)) H6 σ2 ρ4 ((.str k, v) :: pd1) := s'
          obtain ⟨ev, okk⟩ : v = .str k ∧ sOk k = true := R7.pd (.str k, v) List.mem_cons_self
          refine ⟨k, acc, ev, R7.keep D _ upd_same, by unfold scanBound; omega, rfl, lt, ρ4, insL k acc, insL_all okk ok, ?_, g6⟩
          have R8 := (R7.tl.wipe vs n5).readd (o' := TxO P w D (insL k acc)) trivial
          rw [wa] at R8
          exact R8
        | _ => exact g5.elim
      | sl j => rw [er] at g5; exact g5.elim
      | fr q => rw [er] at g5; exact g5.elim
  · have e : i = ps.length := by omega
    subst e
    refine .inl ⟨wk.stop _ H2 _ _ _ _ (fun x hx => hx) (add_keep kD fun _ _ e => e) R3 (Nat.le_refl _), ?_⟩
    rw [List.drop_length] at g1
    obtain ⟨sm, g1⟩ : _ ∧ _ := g1
    have R4 := R3.unwipe
    have hD2 : H2 D = some (TxO P w D acc) := R4.keep D _ upd_same
    obtain ⟨R5, nW, _⟩ := R4.unadd kD kx
    refine ⟨D, acc, rfl, hD2, by unfold scanBound; omega, fun ys q pm so hq => ?_⟩
    have okS : ∀ s ∈ ys, sOk s = true := fun s hs => ok s (pm.mem_iff.mp hs)
    refine f (.fr (.lst (ys.map PV.str))) (wipeE ρ' vs) (.ref q) _ (res_of (R5.pds sb) (same_new hq) ⟨q, .lst (ys.map V.str), rfl, hq, upd_same, strs_iss okS⟩) (g1 ys pm so)
section
variable {X : Cx} {elt tg iter : Expr} {ifs : List Expr} {scope : Scope} {own : List (Str × Nat)} {p pos pos1 : Pos} {ti : QTI} {g : QTG} {tt : QTT} {te : QT} {sl : List Nat}
theorem qe_sortSc (hc : X.calm = true) (hN : X.N.Nodup) (hm : X.mg "sorted" = none) (ok : BlkOk X.N X.env.scope scope own) (hi : QI X tg iter ti) (hg : ∀ c, QG (blkX X scope c) tg sl g) (ht : ∀ c, QCs (blkX X scope c) ifs tt) (he : ∀ c, QE (blkX X scope c) elt te)
    (hs : ∀ i ∈ sl, i ∈ own.map (·.2) := by decide) (hf : ∀ x, foldedSetIterable iter X.env x = pure x := by intro _; rfl) {vs : List Nat} (hv : vs = own.map (·.2) := by rfl) (hgl : Gl X "sorted" := by rfl)
    (he2 : starEach [.SetComp elt [⟨tg, iter, ifs, 0⟩] scope pos1] X.env = (false, eval (.SetComp elt [⟨tg, iter, ifs, 0⟩] scope pos1) X.env) :: starEach [] X.env := by rfl) (hpl : (backTo pos (starEach [] X.env)).any (·.1) = false := by rfl) :
    QE X (.Call (.Name "sorted" p) [.SetComp elt [⟨tg, iter, ifs, 0⟩] scope pos1] [] pos) (qSortSc ti g tt te vs) := by
  subst hv
  obtain ⟨wi, p1, q1⟩ := hi.ex
  obtain ⟨g1, p2, q2⟩ := QG.all (X := blkX X scope) (K := X.K) (fun _ => rfl) hg
  obtain ⟨t1, p3, q3⟩ := QCs.all (X := blkX X scope) (K := X.K) (fun _ => rfl) ht
  obtain ⟨e1, p4, q4⟩ := QE.all (X := blkX X scope) (K := X.K) (fun _ => rfl) he
  have base := pe_sx (pos := pos1) hc hN p1 ok (fun s H C cl fp => p2 (s, H, C, cl, fp)) (fun s H C cl fp => p3 (s, H, C, cl, fp)) (fun s H C cl fp => p4 (s, H, C, cl, fp)) hf
  exact ⟨_, pe_callB (pos := pos) (p := p) (cr_sortedX hc) hgl hm (by decide +kernel) (pa_cons base pa_nil he2) (by decide) (by decide) he2 hpl, rz_sortSc q1 q2 q3 q4 hs⟩
end
end Px
set_option maxHeartbeats 1000000
/-! enumerate(t), t a tuple -/
namespace PxM
open PySem PySem.Spec PyProof.Rows L2 RZ
theorem meets_newT (l : Addr) (items : Array Value) (n : Nat) (dct : Option Addr) (sl : Array (Option Value)) :
    Meets (Builtin.«enumerate.__new__» ⟨[.type "enumerate", .ref l], []⟩) (fun _ R s => s.heap.get? l = some { cls := .type "tuple", dict := dct, data := .seq items n, slots := sl } ∧
      R (.ok (.ret (.ref (s.heap.push { cls := .type "tuple_iterator", data := .fields #[.ref l, .int 0 0] }).objs.size)))
        { s with heap := (s.heap.push { cls := .type "tuple_iterator", data := .fields #[.ref l, .int 0 0] }).push { cls := .type "enumerate", data := .fields #[.none, .bool false, .ref s.heap.objs.size, rawInt 0, .none, .none] } }) :=
  .of_wp fun prog w A R s h => by
    obtain ⟨hp, g, d, tk, os⟩ := s; obtain ⟨hl, h⟩ := h
    have hsub := sub_enumerate
    have hT : Heap.IsTuple (Shared.heap ⟨hp, g, d, tk, os⟩) l items := ⟨_, hl, rfl, n, rfl⟩
    wp_walk using AutoSeq1.wpAny_loadPart' hl
    refine wpAny_stack_any fun st => wpAny_pure ?_
    split
    · rename_i c _ _ _ _ _
      cases (c == Value.type "enumerate")
      all_goals
        wp_walk using AutoSeq1.wpAny_loadPart' hl, wpAny_pyIter_tuple hT
        exact ⟨_, rfl, h⟩
    · wp_walk using AutoSeq1.wpAny_loadPart' hl, wpAny_pyIter_tuple hT
      exact ⟨_, rfl, h⟩
section
variable {prog : Program} {w : World} {A : Around} {E : Value → Shared → Prop} {s : Shared}
theorem call_enumT {l : Addr} {items : Array Value} {Q : Value → Shared → Prop} (hL : s.heap.IsTuple l items)
    (h : ∀ h', IsEnum h' (s.heap.objs.size + 1) s.heap.objs.size 0 .none → h'.IsTupleIter s.heap.objs.size l 0 → (∀ b o, s.heap.get? b = some o → h'.get? b = some o) → Q (.ref (s.heap.objs.size + 1)) { s with heap := h' }) :
    wpAny (model prog w) A (call (.type "enumerate") [.ref l]) Q E s := by
  obtain ⟨⟨c, dct, dt, sl⟩, hl, hc, n, hd⟩ := hL
  replace hc : c = .type "tuple" := hc
  replace hd : dt = .seq items n := hd
  subst hc hd
  refine callType_new F.called_enumerate (by decide) (F.typeCall_enumerate_1 _) (F.newCall_enumerate_1 _) (fun obj => F.args_object_init_2 obj _) F.entry_enumerate_new (meets_newT l items n dct sl) ⟨hl, ?_⟩
  have hz : (s.heap.push { cls := .type "tuple_iterator", data := .fields #[.ref l, .int 0 0] }).objs.size = s.heap.objs.size + 1 := Heap.size_push ..
  show _ ∧ _
  rw [hz]
  have he : IsEnum ((s.heap.push { cls := .type "tuple_iterator", data := .fields #[.ref l, .int 0 0] }).push { cls := .type "enumerate", data := .fields #[.none, .bool false, .ref s.heap.objs.size, rawInt 0, .none, .none] }) (s.heap.objs.size + 1) s.heap.objs.size 0 .none := by
    have z := Heap.get?_push_size (s.heap.push { cls := .type "tuple_iterator", data := .fields #[.ref l, .int 0 0] }) (o := { cls := .type "enumerate", data := .fields #[.none, .bool false, .ref s.heap.objs.size, rawInt 0, .none, .none] }) rfl
    rw [hz] at z; exact z
  exact ⟨⟨_, he, rfl⟩, h _ he ⟨_, Heap.get?_push_of_some _ (Heap.get?_push_size _ rfl), rfl, rfl⟩ fun b o x => Heap.get?_push_of_some _ (Heap.get?_push_of_some _ x)⟩
theorem drawsT (hh : A.handled = none) (it l : Addr) (hne : l ≠ it) (items : Array Value) : Draws prog w A it [it, l] items.size (fun i v => items[i]? = some v) (fun i h => h.IsTupleIter it l i ∧ h.IsTuple l items) where
  live := fun _ _ st => let ⟨o, ho, _⟩ := st.1; ⟨o, ho⟩
  frame := fun _ _ _ st hk => ⟨st.1.at fun o e => hk it (by simp) o e, st.2.at fun o e => hk l (by simp) o e⟩
  item := fun i s Q E hi st hQ => by
    refine nextOf_tuple_item st.1 st.2 (x := items[i]) (by simp [hi]) fun h' hit' hs' => ?_
    exact hQ _ h' s.toks (by simp [hi]) ⟨hit', st.2.extBut hs'.extBut hne⟩ hs'
  done := fun s Q E st hE => nextOf_tuple_end hh st.1 st.2 (by simp) hE
end
/-- the tuple at a, each item in a new pair -/
def IteT (K : PySem.W.Frag) (a : Addr) : It :=
  ⟨fun i H => ∃ (xs : List V) (x : V), SqT K H a xs ∧ xs[i]? = some x, fun i H v H' => ∃ T x, v = .ref T ∧ H T = none ∧ H' = upd H T (.tup [.int (i : Nat), x]) ∧ ∀ xs, SqT K H a xs → xs[i]? = some x, fun i H => ∃ xs : List V, SqT K H a xs ∧ xs.length ≤ i⟩
theorem turn_enumT {P : Program} {w : World} {K : PySem.W.Frag} {elts : List Expr} {kk : Nat} {tpos : Pos} (a e it : Addr) (na : a ≠ it) (ne' : a ≠ e) :
    Turn P w K (.Tuple elts kk tpos) (IteT K a) [e, it] e (fun i h => (∃ old, IsEnum h e it ((i : Nat) : Int) old) ∧ h.IsTupleIter it a i ∧ e ≠ it) where
  mem := by simp
  obj := fun i h st b hb => by
    obtain ⟨⟨old, he⟩, ⟨o, ho, hc, hd⟩, _⟩ := st
    rcases (show b = e ∨ b = it by simpa using hb) with rfl | rfl
    · exact ⟨_, he, fun v q => nomatch q⟩
    · exact ⟨o, ho, fun v q => by rw [hd] at q; cases q⟩
  keep := fun i h h' st k => let ⟨⟨old, he⟩, hi, hne⟩ := st; ⟨⟨old, k e (by simp) _ he⟩, hi.at fun o q => k it (by simp) o q, hne⟩
  item := by
    intro X hP hw hK hc i pins s σ H E I hf st hg
    subst hP hw hK
    obtain ⟨⟨old, he⟩, hit, hne⟩ := st
    obtain ⟨xs, x, hq, hx⟩ := hg
    obtain ⟨its, rv, p, hz⟩ := I.tuple hq
    obtain ⟨u, hu, ru⟩ := rv.get hx
    have hel : e < s.heap.objs.size := Heap.lt_size he
    have hil : it < s.heap.objs.size := by obtain ⟨_, q, _⟩ := hit; exact Heap.lt_size q
    have lt : i < its.toArray.size := by rw [List.size_toArray]; exact (List.getElem?_eq_some_iff.mp hu).1
    refine wpAny_pyNext_enum_itemD (drawsT (by simp [I.ok.hd hc]) it a na its.toArray) he (show s.heap.IsTupleIter it a i ∧ s.heap.IsTuple a its.toArray from ⟨hit, p⟩) lt hne (by simp only [List.mem_cons, List.not_mem_nil, or_false, not_or]; exact ⟨hne, ne'.symm⟩) fun y h' tk hy ho hst hT hsz hk => ?_
    have ey : y = u := by
      have hy' : its[i]? = some y := by simpa using hy
      rw [hu] at hy'; cases hy'; rfl
    subst ey
    obtain ⟨hit', _⟩ := hst
    refine ⟨_, rfl, wpAny_letOwnedTupleGo_enum (s := { s with heap := h', toks := tk + 1 }) ho fun h'' he' sb => ?_⟩
    have hT2 : h''.get? s.heap.objs.size = some { cls := .type "tuple", data := .seq #[.int i tk, y] } := (sb.2 _ (Nat.ne_of_gt hel)).trans hT
    have new : ObjOk X.prog X.w (upd H s.heap.objs.size (.tup [.int (i : Nat), x])) h'' s.heap.objs.size (.tup [.int (i : Nat), x]) :=
      ⟨by show 2 ≤ sizeLine; decide, [.int i tk, y], .cons ⟨_, rfl⟩ (.cons ru .nil), ⟨_, hT2, rfl, _, rfl⟩⟩
    have I1 : Inv X pins σ (upd H s.heap.objs.size (.tup [.int (i : Nat), x])) { s with heap := h'', toks := tk + 1 } :=
      I.turnedNew (ch := [e, it]) (fun b ob hb q => (sb.2 b (fun z => hb (by simp [z]))).trans (hk b ob (fun z => hb (by simp [z])) (fun z => hb (by simp [z])) q)) hf (Nat.le_refl _) new
    refine ⟨.ref s.heap.objs.size, _, I1, rfl, ⟨_, x, rfl, I.hok.fresh (Nat.le_refl _), rfl, fun ys hy => ?_⟩, ⟨⟨y, ?_⟩, hit'.at fun o q => (sb.2 it (Ne.symm hne)).trans q, hne⟩, fun b hb => ?_⟩
    · rw [I.tuple_inj hy hq]; exact hx
    · have e1 : ((i + 1 : Nat) : Int) = (i : Int) + 1 := by omega
      rw [e1]; exact he'
    · have hb' : b < s.heap.objs.size := by
        rcases (show b = e ∨ b = it by simpa using hb) with rfl | rfl
        · exact hel
        · exact hil
      rw [upd_ne (Nat.ne_of_lt hb')]
      exact (hf b hb).1
  done := by
    intro X hP hw hK hc i pins s σ H E I hf st hg
    subst hP hw hK
    obtain ⟨⟨old, he⟩, hit, hne⟩ := st
    obtain ⟨xs, hq, hx⟩ := hg
    obtain ⟨its, rv, p, hz⟩ := I.tuple hq
    obtain ⟨f0, f1, f2, f3, f4, f5⟩ := hf it (by simp)
    have hl := rv.length
    have T : s.TypeIs (.ref e) "enumerate" := ⟨_, he, rfl⟩
    unfold pyNext
    refine wpAny_bind (wpAny_attempt (wpAny_callSpecial?_slot (name := Str.ofString "__next__") T F.slot_enumerate_next (wpAny_call_entry F.slot_enumerate_next T F.entry_enumerate_next ?_ (F.args_enumerate_next_1 _))))
    refine wpAny_bind (m := field (.ref e) 2) (wpAny_field he rfl (x := .ref it) rfl ?_)
    refine wpAny_bind (nextOf_tuple_end (by simp [I.ok.hd hc]) hit p (by simp; omega) fun h' x eb hx' => ?_)
    obtain ⟨o, ho, hcl⟩ := hx'
    refine wpAny_bind (wpAny_isInstance (T := "StopIteration") (b := true) ⟨o, ho, hcl⟩ isSubtype_stop ?_)
    exact wpAny_pure ⟨rfl, I.turned (t' := s.toks) (fun b o hb q => eb b o hb q) f0 f1 f3 f4 f5⟩
  self := fun A i s Q E st h => let ⟨⟨_, he⟩, _⟩ := st; wpAny_pyIter_enum he h
end PxM
namespace Px
open PySem PySem.Spec PyProof.Rows L2 PxM
/-- enumerate of a list or a tuple -/
def iEnumA (K : PySem.W.Frag) (ta : TA) : TI := fun σ H R => ta σ H fun vs H1 => ∃ a, vs = [.ref a] ∧ ((∃ xs, SqL K H1 a xs ∧ R (Ite K a) H1) ∨ (∃ xs, SqT K H1 a xs ∧ R (IteT K a) H1))
theorem pi_enumA {X : Cx} {e : Expr} {ta : TA} {p pos tpos : Pos} {elts : List Expr} {kk : Nat} (hg : Gl X "enumerate") (hm : X.mg "enumerate" = none) (ha : PA X [e] ta) (hs : starEach [e] X.env = [(false, eval e X.env)] := by rfl) :
    PI X (.Tuple elts kk tpos) (.Call (.Name "enumerate" p) [e] [] pos) (iEnumA X.K ta) := by
  refine ⟨fun pins s σ H R I h => ?_⟩
  refine Call_ (ld_blt I hg hm boot_enumerate (PyProof.Rows.callWith_type1 (thn (ha.run pos pins s σ H _ I h) fun us s1 ⟨vs, H1, I1, r1, q1⟩ => ?_) hs rfl))
  obtain ⟨a, ex, q⟩ := q1
  subst ex
  cases r1 with
  | cons r rr =>
    cases rr
    cases r
    have fresh : ∀ b ∈ [s1.heap.objs.size + 1, s1.heap.objs.size], FpOk X pins H1 b := fun b hb => by
      have hle : s1.heap.objs.size ≤ b := by
        rcases (show b = s1.heap.objs.size + 1 ∨ b = s1.heap.objs.size by simpa using hb) with z | z
        · rw [z]; exact Nat.le_add_right _ _
        · rw [z]; exact Nat.le_refl _
      exact I1.fpOk hle (I1.hok.fresh hle)
    rcases q with ⟨xs, hq, q⟩ | ⟨xs, hq, q⟩
    · obtain ⟨its, rv, p', hz⟩ := I1.list hq
      refine call_enumerate_list p'.isList fun h' he hit hsz hk => wpAny_pyIter_enum he ?_
      exact ⟨s1.heap.objs.size + 1, [s1.heap.objs.size + 1, s1.heap.objs.size], _, _, H1, rfl, I1.kept (t' := s1.toks) hk, turn_enum a (s1.heap.objs.size + 1) s1.heap.objs.size, ⟨⟨.none, he⟩, hit, Nat.succ_ne_self _⟩, fresh, q⟩
    · obtain ⟨its, rv, p', hz⟩ := I1.tuple hq
      have la : a < s1.heap.objs.size := by
        obtain ⟨o, ho, _⟩ := p'
        exact Heap.lt_size ho
      refine call_enumT p' fun h' he hit hk => wpAny_pyIter_enum he ?_
      exact ⟨s1.heap.objs.size + 1, [s1.heap.objs.size + 1, s1.heap.objs.size], _, _, H1, rfl, I1.kept (t' := s1.toks) hk, turn_enumT a (s1.heap.objs.size + 1) s1.heap.objs.size (Nat.ne_of_lt la) (Nat.ne_of_lt (Nat.lt_succ_of_lt la)), ⟨⟨.none, he⟩, hit, Nat.succ_ne_self _⟩, fresh, q⟩
def enumP : Nat → List PV → List PV
  | _, [] => []
  | i, p :: ps => .tup [.int (i : Nat), p] :: enumP (i + 1) ps
theorem enumP_len : ∀ (k : Nat) (ps : List PV), (enumP k ps).length = ps.length
  | _, [] => rfl
  | k, p :: ps => by rw [enumP, List.length_cons, enumP_len (k + 1) ps, List.length_cons]
theorem enumP_get : ∀ {k : Nat} {ps : List PV} {i : Nat} {z : PV}, (enumP k ps)[i]? = some z → ∃ p, ps[i]? = some p ∧ z = .tup [.int ((k + i : Nat)), p]
  | _, [], i, z, h => by simp [enumP] at h
  | k, p :: ps, 0, z, h => by
    rw [enumP] at h
    simp only [List.getElem?_cons_zero, Option.some.injEq] at h
    exact ⟨p, rfl, by rw [← h]; rfl⟩
  | k, p :: ps, i + 1, z, h => by
    rw [enumP, List.getElem?_cons_succ] at h
    obtain ⟨q, h1, h2⟩ := enumP_get h
    refine ⟨q, by simpa using h1, ?_⟩
    rw [h2, show k + 1 + i = k + (i + 1) from by omega]
theorem wk_enumL {K : PySem.W.Frag} {a : Addr} {ps : List PV} {pd : Pds} {kp : Hp} (h1 : (PV.lst ps, V.ref a) ∈ pd) : Wk K (Ite K a) (enumP 0 ps) pd kp := by
  constructor
  · intro G H σ ρ pd' i p s _ R1 hp
    obtain ⟨c, vs, e, n, hc, q⟩ : ∃ b vs, V.ref a = .ref b ∧ ¬ WS G σ ρ b ∧ H b = some (.lst vs) ∧ Iss K H (WS G σ ρ) ps vs := R1.pd _ (s _ h1)
    cases e
    obtain ⟨x, ex, rfl⟩ := enumP_get hp
    obtain ⟨v, hv, iv⟩ := q.getP ex
    refine ⟨⟨vs, v, .inl (.inl hc), hv⟩, fun z H' yl => ?_⟩
    obtain ⟨T, x', rfl, nT, rfl, f1⟩ := yl
    have z1 := f1 vs (.inl (.inl hc))
    rw [hv] at z1; cases z1
    rw [Nat.zero_add]
    exact (R1.same (same_new nT)).push ⟨T, [.int (i : Nat), v], rfl, upd_same, .int (i : Nat), [v], rfl, rfl, v, [], rfl, isNew R1.mut iv nT, rfl⟩
  · intro G H σ ρ pd' i s _ R1 hp
    obtain ⟨c, vs, e, n, hc, q⟩ : ∃ b vs, V.ref a = .ref b ∧ ¬ WS G σ ρ b ∧ H b = some (.lst vs) ∧ Iss K H (WS G σ ρ) ps vs := R1.pd _ (s _ h1)
    cases e
    rw [enumP_len] at hp
    exact ⟨vs, .inl (.inl hc), by rw [← q.length]; omega⟩
theorem wk_enumT {K : PySem.W.Frag} {a : Addr} {ps : List PV} {pd : Pds} {kp : Hp} (h1 : (PV.tup ps, V.ref a) ∈ pd) : Wk K (IteT K a) (enumP 0 ps) pd kp := by
  constructor
  · intro G H σ ρ pd' i p s _ R1 hp
    obtain ⟨c, vs, e, hc, q⟩ : ∃ b vs, V.ref a = .ref b ∧ H b = some (.tup vs) ∧ Iss K H (WS G σ ρ) ps vs := R1.pd _ (s _ h1)
    cases e
    obtain ⟨x, ex, rfl⟩ := enumP_get hp
    obtain ⟨v, hv, iv⟩ := q.getP ex
    refine ⟨⟨vs, v, .inl (.inl hc), hv⟩, fun z H' yl => ?_⟩
    obtain ⟨T, x', rfl, nT, rfl, f1⟩ := yl
    have z1 := f1 vs (.inl (.inl hc))
    rw [hv] at z1; cases z1
    rw [Nat.zero_add]
    exact (R1.same (same_new nT)).push ⟨T, [.int (i : Nat), v], rfl, upd_same, .int (i : Nat), [v], rfl, rfl, v, [], rfl, isNew R1.mut iv nT, rfl⟩
  · intro G H σ ρ pd' i s _ R1 hp
    obtain ⟨c, vs, e, hc, q⟩ : ∃ b vs, V.ref a = .ref b ∧ H b = some (.tup vs) ∧ Iss K H (WS G σ ρ) ps vs := R1.pd _ (s _ h1)
    cases e
    rw [enumP_len] at hp
    exact ⟨vs, .inl (.inl hc), by rw [← q.length]; omega⟩
/-- for i, x in enumerate(xs) -/
def qEnumI (t : QTA) (ρ : En) (Q : List PV → En → Prop) : Prop := t ρ fun rs ρ1 => match rs with
  | [.pv (.lst ps)] => Q (enumP 0 ps) ρ1
  | [.pv (.tup ps)] => Q (enumP 0 ps) ρ1
  | _ => False
theorem qi_enum {X : Cx} {a : Expr} {tr : QTA} {p pos tpos : Pos} {elts : List Expr} {kk : Nat} (hm : X.mg "enumerate" = none) (ha : QA X [a] tr) (hg : Gl X "enumerate" := by rfl) (hs : starEach [a] X.env = [(false, eval a X.env)] := by rfl) : QI X (.Tuple elts kk tpos) (.Call (.Name "enumerate" p) [a] [] pos) (qEnumI tr) := by
  obtain ⟨t, p1, q1⟩ := ha.ex
  refine ⟨_, pi_enumA hg hm p1 hs, fun G H σ ρ pd Q F R1 hw f => ?_⟩
  refine q1 G H σ ρ pd _ _ R1 hw fun rs ρ1 pd1 vs H1 sb R2 ar g => ?_
  match rs, vs, ar, g with
  | [.pv (.lst ps)], [v], .cons h1 .nil, g =>
    obtain ⟨a, us, e1, _, r1, _⟩ : ∃ a vs, v = .ref a ∧ ¬ WS G σ ρ1 a ∧ H1 a = some (.lst vs) ∧ Iss X.K H1 (WS G σ ρ1) ps vs := R2.pd _ h1
    subst e1
    exact ⟨a, rfl, .inl ⟨us, .inl (.inl r1), f _ _ ρ1 pd1 H1 sb R2 (wk_enumL h1) g⟩⟩
  | [.pv (.tup ps)], [v], .cons h1 .nil, g =>
    obtain ⟨a, us, e1, r1, _⟩ : ∃ a vs, v = .ref a ∧ H1 a = some (.tup vs) ∧ Iss X.K H1 (WS G σ ρ1) ps vs := R2.pd _ h1
    subst e1
    exact ⟨a, rfl, .inr ⟨us, .inl (.inl r1), f _ _ ρ1 pd1 H1 sb R2 (wk_enumT h1) g⟩⟩
end Px
set_option maxHeartbeats 4000000
namespace Lw
open PySem L2 PyProof.Rows Px
def topS (i : Nat) : Stmt := PySem.Challenge.pw_exactkinds_k30_groups_and_clauses.main.body.getD i (.Pass ⟨0, 0, 0, 0⟩)
abbrev s_function_of : Stmt := topS 1
abbrev s_names_in : Stmt := topS 2
abbrev s_taken : Stmt := topS 3
abbrev s_clause_for : Stmt := topS 4
abbrev s_parts_of_body : Stmt := topS 5
abbrev s_calls_of : Stmt := topS 6
abbrev s_reached_from : Stmt := topS 7
abbrev s_group_of : Stmt := topS 8
abbrev s__law_state : Stmt := topS 10
abbrev s__law_draw : Stmt := topS 11
abbrev s__law_pick : Stmt := topS 12
abbrev s__law_graph_pattern : Stmt := topS 13
abbrev s__law_graph_body : Stmt := topS 14
abbrev s__law_graph_program : Stmt := topS 15
abbrev s__law_names : Stmt := topS 16
abbrev s__law_calls : Stmt := topS 17
abbrev s__law_next : Stmt := topS 18
abbrev s__law_reached : Stmt := topS 19
abbrev s__law_group : Stmt := topS 20
abbrev s__law_taken : Stmt := topS 21
abbrev s__law_value : Stmt := topS 22
abbrev s__law_like : Stmt := topS 23
abbrev s__law_first : Stmt := topS 24
abbrev s__law_function_right : Stmt := topS 25
abbrev s_law : Stmt := topS 26
/-- what the top leaves -/
structure Txt (K : PySem.W.Frag) (mg : Str → Option Value) : Prop where
  d_function_of : IsDef K mg "function_of" s_function_of
  d_names_in : IsDef K mg "names_in" s_names_in
  d_taken : IsDef K mg "taken" s_taken
  d_clause_for : IsDef K mg "clause_for" s_clause_for
  d_parts_of_body : IsDef K mg "parts_of_body" s_parts_of_body
  d_calls_of : IsDef K mg "calls_of" s_calls_of
  d_reached_from : IsDef K mg "reached_from" s_reached_from
  d_group_of : IsDef K mg "group_of" s_group_of
  d__law_state : IsDef K mg "_law_state" s__law_state
  d__law_draw : IsDef K mg "_law_draw" s__law_draw
  d__law_pick : IsDef K mg "_law_pick" s__law_pick
  d__law_graph_pattern : IsDef K mg "_law_graph_pattern" s__law_graph_pattern
  d__law_graph_body : IsDef K mg "_law_graph_body" s__law_graph_body
  d__law_graph_program : IsDef K mg "_law_graph_program" s__law_graph_program
  d__law_names : IsDef K mg "_law_names" s__law_names
  d__law_calls : IsDef K mg "_law_calls" s__law_calls
  d__law_next : IsDef K mg "_law_next" s__law_next
  d__law_reached : IsDef K mg "_law_reached" s__law_reached
  d__law_group : IsDef K mg "_law_group" s__law_group
  d__law_taken : IsDef K mg "_law_taken" s__law_taken
  d__law_value : IsDef K mg "_law_value" s__law_value
  d__law_like : IsDef K mg "_law_like" s__law_like
  d__law_first : IsDef K mg "_law_first" s__law_first
  d__law_function_right : IsDef K mg "_law_function_right" s__law_function_right
  d_law : IsDef K mg "law" s_law
  z_isinstance : mg "isinstance" = none
  z_str : mg "str" = none
  z_tuple : mg "tuple" = none
  z_list : mg "list" = none
  z_zip : mg "zip" = none
  z_enumerate : mg "enumerate" = none
  z_sorted : mg "sorted" = none
  z_set : mg "set" = none
  z_int : mg "int" = none
  z_abs : mg "abs" = none
  z_len : mg "len" = none
  z_range : mg "range" = none
/-! function_of(program, word) -/
abbrev N_function_of : List Str := ["program", "word", "row"]
theorem sc_function_of : FnScope N_function_of ["program", "word"] (defScope s_function_of) := ⟨rfl, rfl, rfl, by decide +kernel, rfl, by decide +kernel, by decide +kernel⟩
def rd_function_of : QTS := (qSeq (qFor (qIt (qOp2 gIx (qVar 0) (qK (.int 1)))) (qgN 2) (qIf (qB (qOp2 gEq (qOp2 gIx (qVar 2) (qK (.int 0))) (qVar 1))) (qRet (qVar 2)) qNext))
  (qRet (qK .non)))
theorem dv_function_of {P : Program} {w : World} {K : PySem.W.Frag} {mg : Str → Option Value} {base : Heap} {k : Nat} (T : Txt K mg) (S : FS) (lp : S.io.length = 2)
    (rd : ∀ pvs : List PV, pvs.length = S.io.length → S.pre pvs → rd_function_of (endsOf S pvs) (mk S.io pvs ++ uns 1)) : Has P w K mg base "function_of" (k + 1) ["program", "word"] S := by
  obtain ⟨f, fd, F, m⟩ := T.d_function_of.ex
  refine ⟨f, fd, fn_p F sc_function_of lp (t := rd_function_of) (fun cdv A outer s H E hr => ?_) rd, m, F.kp, F.binds (ps := ["program", "word"]) fun _ _ _ _ _ _ us hl => match us, hl with | [_, _], _ => rfl, F.at⟩
  exact (qss_cons (qs_for PassesOwn.never rfl (qi_seq (qe_ix ix_P (qv 0) qe_int)) (qg_name 2 sc_function_of.nd) (qss_one (qs_if (qc_cmp (op_eqP (room64 hr)) (qe_ix ix_P (qv 2) qe_int) (qv 1)) (qss_one (qs_ret (qv 2))) qss_nil)))
  (qss_one (qs_ret qe_non)))

/-! names_in(pattern) -/
abbrev N_names_in : List Str := ["pattern", "part", "name"]
theorem sc_names_in : FnScope N_names_in ["pattern"] (defScope s_names_in) := ⟨rfl, rfl, rfl, by decide +kernel, rfl, by decide +kernel, by decide +kernel⟩
def rd_names_in (q_names_in : FS) : QTS := (qSeq (qIf (qTru (qCB gIsiT (qCons (qVar 0) (qCons (qK (.ty "str")) qNil)))) (qRet (qTup (qCons (qVar 0) qNil))) qNext)
  (qRet (qCB gTuple (qCons (qLc2 (qIt (qSl gSl (qVar 0) (qPart (qK (.int 1))) qNo)) (qgN 1) qYes (qIt (qCall q_names_in (qCons (qVar 1) qNil))) (qgN 2) qYes (qVar 2) [1, 2] [2]) qNil))))
theorem dv_names_in {P : Program} {w : World} {K : PySem.W.Frag} {mg : Str → Option Value} {base : Heap} {k : Nat} {q_names_in : FS} (T : Txt K mg) (h_names_in : Has P w K mg base "names_in" k ["pattern"] q_names_in) (S : FS) (lp : S.io.length = 1)
    (rd : ∀ pvs : List PV, pvs.length = S.io.length → S.pre pvs → rd_names_in q_names_in (endsOf S pvs) (mk S.io pvs ++ uns 2)) : Has P w K mg base "names_in" (k + 1) ["pattern"] S := by
  obtain ⟨f, fd, F, m⟩ := T.d_names_in.ex
  refine ⟨f, fd, fn_p F sc_names_in lp (t := rd_names_in q_names_in) (fun cdv A outer s H E hr => ?_) rd, m, F.kp, F.binds (ps := ["pattern"]) fun _ _ _ _ _ _ us hl => match us, hl with | [_], _ => rfl, F.at⟩
  exact (qss_cons (qs_if (qc_tru (qe_callB call_isiPT T.z_isinstance (qa_cons (qv 0) (qa_cons (qe_ty T.z_str) qa_nil)))) (qss_one (qs_ret (qe_tup (qa_cons (qv 0) qa_nil)))) qss_nil)
  (qss_one (qs_ret (qe_callTy call_tupleP T.z_tuple (qa_cons (qe_lc2 rfl sc_names_in.nd (blkOk_by (N := N_names_in) (sc := defScope s_names_in) (own := [("part", 1), ("name", 2)]) (by decide +kernel)) (qi_seq (qe_slice sl_seq (qv 0) (qo_some qe_int) qo_none)) (fun _ => (qg_name 1 sc_names_in.nd)) (fun _ => qcs_nil) (fun _ => (qi0_seq (qe_callH h_names_in hr (qa_cons (qv 1) qa_nil)))) (fun _ => (qg_name 2 sc_names_in.nd)) (fun _ => qcs_nil) (fun _ => (qv 2))) qa_nil)))))

/-! taken(patterns, values)   owned: found, waiting -/
abbrev N_taken : List Str := ["patterns", "values", "found", "waiting", "pattern", "value"]
theorem sc_taken : FnScope N_taken ["patterns", "values"] (defScope s_taken) := ⟨rfl, rfl, rfl, by decide +kernel, rfl, by decide +kernel, by decide +kernel⟩
def rd_taken : QTS := (qSeq (qOwn 2 qDict0)
  (qSeq (qOwn 3 (qLZ (qCons (qVar 0) (qCons (qVar 1) qNil))))
  (qSeq (qWhile (qTru (qVar 3)) (qSeq (qAsg (qMut "list" 3 gPop qNil) (qgT 2 (qgCons (qgN 4) (qgCons (qgN 5) qgNil))))
  (qIf (qTru (qCB gIsiT (qCons (qVar 4) (qCons (qK (.ty "str")) qNil)))) (qSetIx 2 (qVar 5) (qVar 4)) (qIf (qB (qOp2 gNe (qOp2 gIx (qVar 4) (qK (.int 0))) (qOp2 gIx (qVar 5) (qK (.int 0))))) (qRet (qK .non)) (qDrop (qMut "list" 3 gExtend (qCons (qLZ (qCons (qSl gSl (qVar 4) (qPart (qK (.int 1))) qNo) (qCons (qSl gSl (qVar 5) (qPart (qK (.int 1))) qNo) qNil))) qNil)))))))
  (qRet (qVar 2)))))
theorem dv_taken {P : Program} {w : World} {K : PySem.W.Frag} {mg : Str → Option Value} {base : Heap} {k : Nat} (T : Txt K mg) (S : FS) (lp : S.io.length = 2)
    (rd : ∀ pvs : List PV, pvs.length = S.io.length → S.pre pvs → rd_taken (endsOf S pvs) (mk S.io pvs ++ uns 4)) : Has P w K mg base "taken" (k + 1) ["patterns", "values"] S := by
  obtain ⟨f, fd, F, m⟩ := T.d_taken.ex
  refine ⟨f, fd, fn_p F sc_taken lp (t := rd_taken) (fun cdv A outer s H E hr => ?_) rd, m, F.kp, F.binds (ps := ["patterns", "values"]) fun _ _ _ _ _ _ us hl => match us, hl with | [_, _], _ => rfl, F.at⟩
  exact (qss_cons (qs_own 2 sc_taken.nd qe_dict0)
  (qss_cons (qs_own 3 sc_taken.nd (qe_lz T.z_list T.z_zip (qa_cons (qv 0) (qa_cons (qv 1) qa_nil))))
  (qss_cons (qs_while PassesOwn.never (qc_tru (qv 3)) (qss_cons (qs_asg (qe_mut0 3 m_pop PySem.F.plainAttrs_list PySem.F.slot_list_pop PySem.F.type_list_pop) (qg_tup rfl (qgs_cons (qg_name 4 sc_taken.nd) (qgs_cons (qg_name 5 sc_taken.nd) qgs_nil))))
  (qss_one (qs_if (qc_tru (qe_callB call_isiPT T.z_isinstance (qa_cons (qv 4) (qa_cons (qe_ty T.z_str) qa_nil)))) (qss_one (qs_setIx (room65 hr) 2 (qv 5) (qv 4))) (qss_one (qs_if (qc_cmp (op_neP (room64 hr)) (qe_ix ix_P (qv 4) qe_int) (qe_ix ix_P (qv 5) qe_int)) (qss_one (qs_ret qe_non)) (qss_one (qs_expr (qe_mut 3 m_extend PySem.F.plainAttrs_list PySem.F.slot_list_extend PySem.F.type_list_extend (qa_cons (qe_lz T.z_list T.z_zip (qa_cons (qe_slice sl_seq (qv 4) (qo_some qe_int) qo_none) (qa_cons (qe_slice sl_seq (qv 5) (qo_some qe_int) qo_none) qa_nil))) qa_nil))))))))))
  (qss_one (qs_ret (qv 2))))))

/-! clause_for(function, values) -/
abbrev N_clause_for : List Str := ["function", "values", "at", "clause"]
theorem sc_clause_for : FnScope N_clause_for ["function", "values"] (defScope s_clause_for) := ⟨rfl, rfl, rfl, by decide +kernel, rfl, by decide +kernel, by decide +kernel⟩
def rd_clause_for (q_taken : FS) : QTS := (qSeq (qFor (qEnumI (qCons (qOp2 gIx (qVar 0) (qK (.int 5))) qNil)) (qgT 2 (qgCons (qgN 2) (qgCons (qgN 3) qgNil))) (qIf (qB (qOp2 gIsNot (qCall q_taken (qCons (qOp2 gIx (qVar 3) (qK (.int 0))) (qCons (qVar 1) qNil))) (qK .non))) (qRet (qVar 2)) qNext))
  (qRet (qNeg (qK (.int 1)))))
theorem dv_clause_for {P : Program} {w : World} {K : PySem.W.Frag} {mg : Str → Option Value} {base : Heap} {k : Nat} {q_taken : FS} (T : Txt K mg) (h_taken : Has P w K mg base "taken" k ["patterns", "values"] q_taken) (S : FS) (lp : S.io.length = 2)
    (rd : ∀ pvs : List PV, pvs.length = S.io.length → S.pre pvs → rd_clause_for q_taken (endsOf S pvs) (mk S.io pvs ++ uns 2)) : Has P w K mg base "clause_for" (k + 1) ["function", "values"] S := by
  obtain ⟨f, fd, F, m⟩ := T.d_clause_for.ex
  refine ⟨f, fd, fn_p F sc_clause_for lp (t := rd_clause_for q_taken) (fun cdv A outer s H E hr => ?_) rd, m, F.kp, F.binds (ps := ["function", "values"]) fun _ _ _ _ _ _ us hl => match us, hl with | [_, _], _ => rfl, F.at⟩
  exact (qss_cons (qs_for PassesOwn.never rfl (qi_enum T.z_enumerate (qa_cons (qe_ix ix_P (qv 0) qe_int) qa_nil)) (qg_tup rfl (qgs_cons (qg_name 2 sc_clause_for.nd) (qgs_cons (qg_name 3 sc_clause_for.nd) qgs_nil))) (qss_one (qs_if (qc_cmp op_isNotP (qe_callH h_taken hr (qa_cons (qe_ix ix_P (qv 3) qe_int) (qa_cons (qv 1) qa_nil))) qe_non) (qss_one (qs_ret (qv 2))) qss_nil)))
  (qss_one (qs_ret (qe_neg qe_int))))

/-! parts_of_body(body)   owned: found, waiting -/
abbrev N_parts_of_body : List Str := ["body", "found", "waiting", "part"]
theorem sc_parts_of_body : FnScope N_parts_of_body ["body"] (defScope s_parts_of_body) := ⟨rfl, rfl, rfl, by decide +kernel, rfl, by decide +kernel, by decide +kernel⟩
def rd_parts_of_body : QTS := (qSeq (qOwn 1 (qLst qNil))
  (qSeq (qOwn 2 (qLst (qCons (qVar 0) qNil)))
  (qSeq (qWhile (qTru (qVar 2)) (qSeq (qSet 3 (qMut "list" 2 gPop qNil))
  (qIf (qNot (qTru (qCB gIsiT (qCons (qVar 3) (qCons (qK (.ty "str")) qNil))))) (qSeq (qDrop (qMut "list" 1 gAppend (qCons (qVar 3) qNil)))
  (qDrop (qMut "list" 2 gExtend (qCons (qCB gListD (qCons (qSl gSl (qVar 3) (qPart (qK (.int 1))) qNo) qNil)) qNil)))) qNext)))
  (qRet (qVar 1)))))
theorem dv_parts_of_body {P : Program} {w : World} {K : PySem.W.Frag} {mg : Str → Option Value} {base : Heap} {k : Nat} (T : Txt K mg) (S : FS) (lp : S.io.length = 1)
    (rd : ∀ pvs : List PV, pvs.length = S.io.length → S.pre pvs → rd_parts_of_body (endsOf S pvs) (mk S.io pvs ++ uns 3)) : Has P w K mg base "parts_of_body" (k + 1) ["body"] S := by
  obtain ⟨f, fd, F, m⟩ := T.d_parts_of_body.ex
  refine ⟨f, fd, fn_p F sc_parts_of_body lp (t := rd_parts_of_body) (fun cdv A outer s H E hr => ?_) rd, m, F.kp, F.binds (ps := ["body"]) fun _ _ _ _ _ _ us hl => match us, hl with | [_], _ => rfl, F.at⟩
  exact (qss_cons (qs_own 1 sc_parts_of_body.nd (qe_lst qa_nil))
  (qss_cons (qs_own 2 sc_parts_of_body.nd (qe_lst (qa_cons (qv 0) qa_nil)))
  (qss_cons (qs_while PassesOwn.never (qc_tru (qv 2)) (qss_cons (qs_set 3 sc_parts_of_body.nd (qe_mut0 2 m_pop PySem.F.plainAttrs_list PySem.F.slot_list_pop PySem.F.type_list_pop))
  (qss_one (qs_if (qc_not (qc_tru (qe_callB call_isiPT T.z_isinstance (qa_cons (qv 3) (qa_cons (qe_ty T.z_str) qa_nil))))) (qss_cons (qs_expr (qe_mut 1 m_append PySem.F.plainAttrs_list PySem.F.slot_list_append PySem.F.type_list_append (qa_cons (qv 3) qa_nil)))
  (qss_one (qs_expr (qe_mut 2 m_extend PySem.F.plainAttrs_list PySem.F.slot_list_extend PySem.F.type_list_extend (qa_cons (qe_callTy (call_listPD rfl) T.z_list (qa_cons (qe_slice sl_seq (qv 3) (qo_some qe_int) qo_none) qa_nil)) qa_nil))))) qss_nil))))
  (qss_one (qs_ret (qv 1))))))

/-! calls_of(program, word) -/
abbrev N_calls_of : List Str := ["program", "word", "bodies", "words", "_", "body", "part", "other"]
theorem sc_calls_of : FnScope N_calls_of ["program", "word"] (defScope s_calls_of) := ⟨rfl, rfl, rfl, by decide +kernel, rfl, by decide +kernel, by decide +kernel⟩
def rd_calls_of (q_function_of q_parts_of_body : FS) : QTS := (qSeq (qSet 2 (qLc (qIt (qOp2 gIx (qCall q_function_of (qCons (qVar 0) (qCons (qVar 1) qNil))) (qK (.int 5)))) (qgT 2 (qgCons (qgN 4) (qgCons (qgN 5) qgNil))) qYes (qVar 5) [4, 5]))
  (qSeq (qSet 3 (qLc2 (qIt (qVar 2)) (qgN 5) qYes (qIt (qCall q_parts_of_body (qCons (qVar 5) qNil))) (qgN 6) qYes (qOp2 gIx (qVar 6) (qK (.int 0))) [5, 6] [6]))
  (qRet (qCB gTuple (qCons (qSortSc (qIt (qVar 3)) (qgN 7) (qB (qOp2 gIsNot (qCall q_function_of (qCons (qVar 0) (qCons (qVar 7) qNil))) (qK .non))) (qVar 7) [7]) qNil)))))
theorem dv_calls_of {P : Program} {w : World} {K : PySem.W.Frag} {mg : Str → Option Value} {base : Heap} {k : Nat} {q_function_of q_parts_of_body : FS} (T : Txt K mg) (h_function_of : Has P w K mg base "function_of" k ["program", "word"] q_function_of) (h_parts_of_body : Has P w K mg base "parts_of_body" k ["body"] q_parts_of_body) (S : FS) (lp : S.io.length = 2)
    (rd : ∀ pvs : List PV, pvs.length = S.io.length → S.pre pvs → rd_calls_of q_function_of q_parts_of_body (endsOf S pvs) (mk S.io pvs ++ uns 6)) : Has P w K mg base "calls_of" (k + 1) ["program", "word"] S := by
  obtain ⟨f, fd, F, m⟩ := T.d_calls_of.ex
  refine ⟨f, fd, fn_p F sc_calls_of lp (t := rd_calls_of q_function_of q_parts_of_body) (fun cdv A outer s H E hr => ?_) rd, m, F.kp, F.binds (ps := ["program", "word"]) fun _ _ _ _ _ _ us hl => match us, hl with | [_, _], _ => rfl, F.at⟩
  exact (qss_cons (qs_setLc 2 rfl sc_calls_of.nd (sw_true rfl rfl rfl (by decide +kernel)) (blkOk_by (N := N_calls_of) (sc := defScope s_calls_of) (own := [("_", 4), ("body", 5)]) (by decide +kernel)) (qi_seq (qe_ix ix_P (qe_callH h_function_of hr (qa_cons (qv 0) (qa_cons (qv 1) qa_nil))) qe_int)) (fun _ => (qg_tup rfl (qgs_cons (qg_name 4 sc_calls_of.nd) (qgs_cons (qg_name 5 sc_calls_of.nd) qgs_nil)))) (fun _ => qcs_nil) (fun _ => (qv 5)))
  (qss_cons (qs_setLc2 3 rfl sc_calls_of.nd (sw_true rfl rfl rfl (by decide +kernel)) (blkOk_by (N := N_calls_of) (sc := defScope s_calls_of) (own := [("body", 5), ("part", 6)]) (by decide +kernel)) (qi_seq (qv 2)) (fun _ => (qg_name 5 sc_calls_of.nd)) (fun _ => qcs_nil) (fun _ => (qi0_seq (qe_callH h_parts_of_body hr (qa_cons (qv 5) qa_nil)))) (fun _ => (qg_name 6 sc_calls_of.nd)) (fun _ => qcs_nil) (fun _ => (qe_ix ix_P (qv 6) qe_int)))
  (qss_one (qs_ret (qe_callTy call_tupleP T.z_tuple (qa_cons (qe_sortSc rfl sc_calls_of.nd T.z_sorted (blkOk_by (N := N_calls_of) (sc := defScope s_calls_of) (own := [("other", 7)]) (by decide +kernel)) (qi_seq (qv 3)) (fun _ => (qg_name 7 sc_calls_of.nd)) (fun _ => (qcs_one (qc_cmp op_isNotP (qe_callH h_function_of hr (qa_cons (qv 0) (qa_cons (qv 7) qa_nil))) qe_non))) (fun _ => (qv 7))) qa_nil))))))

/-! reached_from(program, word)   owned: found, waiting -/
abbrev N_reached_from : List Str := ["program", "word", "found", "waiting", "other"]
theorem sc_reached_from : FnScope N_reached_from ["program", "word"] (defScope s_reached_from) := ⟨rfl, rfl, rfl, by decide +kernel, rfl, by decide +kernel, by decide +kernel⟩
def rd_reached_from (q_calls_of : FS) : QTS := (qSeq (qOwn 2 (qLst qNil))
  (qSeq (qOwn 3 (qCB gListD (qCons (qCall q_calls_of (qCons (qVar 0) (qCons (qVar 1) qNil))) qNil)))
  (qSeq (qWhile (qTru (qVar 3)) (qSeq (qSet 4 (qMut "list" 3 gPop qNil))
  (qIf (qB (qOp2 gNotIn (qVar 4) (qVar 2))) (qSeq (qDrop (qMut "list" 2 gAppend (qCons (qVar 4) qNil)))
  (qDrop (qMut "list" 3 gExtend (qCons (qCB gListD (qCons (qCall q_calls_of (qCons (qVar 0) (qCons (qVar 4) qNil))) qNil)) qNil)))) qNext)))
  (qRet (qVar 2)))))
theorem dv_reached_from {P : Program} {w : World} {K : PySem.W.Frag} {mg : Str → Option Value} {base : Heap} {k : Nat} {q_calls_of : FS} (T : Txt K mg) (h_calls_of : Has P w K mg base "calls_of" k ["program", "word"] q_calls_of) (S : FS) (lp : S.io.length = 2)
    (rd : ∀ pvs : List PV, pvs.length = S.io.length → S.pre pvs → rd_reached_from q_calls_of (endsOf S pvs) (mk S.io pvs ++ uns 3)) : Has P w K mg base "reached_from" (k + 1) ["program", "word"] S := by
  obtain ⟨f, fd, F, m⟩ := T.d_reached_from.ex
  refine ⟨f, fd, fn_p F sc_reached_from lp (t := rd_reached_from q_calls_of) (fun cdv A outer s H E hr => ?_) rd, m, F.kp, F.binds (ps := ["program", "word"]) fun _ _ _ _ _ _ us hl => match us, hl with | [_, _], _ => rfl, F.at⟩
  exact (qss_cons (qs_own 2 sc_reached_from.nd (qe_lst qa_nil))
  (qss_cons (qs_own 3 sc_reached_from.nd (qe_callTy (call_listPD rfl) T.z_list (qa_cons (qe_callH h_calls_of hr (qa_cons (qv 0) (qa_cons (qv 1) qa_nil))) qa_nil)))
  (qss_cons (qs_while PassesOwn.never (qc_tru (qv 3)) (qss_cons (qs_set 4 sc_reached_from.nd (qe_mut0 3 m_pop PySem.F.plainAttrs_list PySem.F.slot_list_pop PySem.F.type_list_pop))
  (qss_one (qs_if (qc_cmp (op_notInP (room65 hr)) (qv 4) (qv 2)) (qss_cons (qs_expr (qe_mut 2 m_append PySem.F.plainAttrs_list PySem.F.slot_list_append PySem.F.type_list_append (qa_cons (qv 4) qa_nil)))
  (qss_one (qs_expr (qe_mut 3 m_extend PySem.F.plainAttrs_list PySem.F.slot_list_extend PySem.F.type_list_extend (qa_cons (qe_callTy (call_listPD rfl) T.z_list (qa_cons (qe_callH h_calls_of hr (qa_cons (qv 0) (qa_cons (qv 4) qa_nil))) qa_nil)) qa_nil))))) qss_nil))))
  (qss_one (qs_ret (qv 2))))))

/-! group_of(program, word) -/
abbrev N_group_of : List Str := ["program", "word", "others", "other"]
theorem sc_group_of : FnScope N_group_of ["program", "word"] (defScope s_group_of) := ⟨rfl, rfl, rfl, by decide +kernel, rfl, by decide +kernel, by decide +kernel⟩
def rd_group_of (q_reached_from : FS) : QTS := (qSeq (qSet 2 (qLc (qIt (qCall q_reached_from (qCons (qVar 0) (qCons (qVar 1) qNil)))) (qgN 3) (qB (qOp2 gIn (qVar 1) (qCall q_reached_from (qCons (qVar 0) (qCons (qVar 3) qNil))))) (qVar 3) [3]))
  (qRet (qCB gTuple (qCons (qCB gSortSet (qCons (qOp2 gAdd (qLst (qCons (qVar 1) qNil)) (qVar 2)) qNil)) qNil))))
theorem dv_group_of {P : Program} {w : World} {K : PySem.W.Frag} {mg : Str → Option Value} {base : Heap} {k : Nat} {q_reached_from : FS} (T : Txt K mg) (h_reached_from : Has P w K mg base "reached_from" k ["program", "word"] q_reached_from) (S : FS) (lp : S.io.length = 2)
    (rd : ∀ pvs : List PV, pvs.length = S.io.length → S.pre pvs → rd_group_of q_reached_from (endsOf S pvs) (mk S.io pvs ++ uns 2)) : Has P w K mg base "group_of" (k + 1) ["program", "word"] S := by
  obtain ⟨f, fd, F, m⟩ := T.d_group_of.ex
  refine ⟨f, fd, fn_p F sc_group_of lp (t := rd_group_of q_reached_from) (fun cdv A outer s H E hr => ?_) rd, m, F.kp, F.binds (ps := ["program", "word"]) fun _ _ _ _ _ _ us hl => match us, hl with | [_, _], _ => rfl, F.at⟩
  exact (qss_cons (qs_setLc 2 rfl sc_group_of.nd (sw_true rfl rfl rfl (by decide +kernel)) (blkOk_by (N := N_group_of) (sc := defScope s_group_of) (own := [("other", 3)]) (by decide +kernel)) (qi_seq (qe_callH h_reached_from hr (qa_cons (qv 0) (qa_cons (qv 1) qa_nil)))) (fun _ => (qg_name 3 sc_group_of.nd)) (fun _ => (qcs_one (qc_cmp (op_inP (room65 hr)) (qv 1) (qe_callH h_reached_from hr (qa_cons (qv 0) (qa_cons (qv 3) qa_nil)))))) (fun _ => (qv 3)))
  (qss_one (qs_ret (qe_callTy call_tupleP T.z_tuple (qa_cons (qe_sortSet rfl T.z_sorted T.z_set (qa_cons (qe_op op_addP (qe_lst (qa_cons (qv 1) qa_nil)) (qv 2)) qa_nil)) qa_nil)))))

/-! _law_state(script) -/
abbrev N__law_state : List Str := ["script", "seed", "cell"]
theorem sc__law_state : FnScope N__law_state ["script"] (defScope s__law_state) := ⟨rfl, rfl, rfl, by decide +kernel, rfl, by decide +kernel, by decide +kernel⟩
def rd__law_state : QTS := (qSeq (qSet 1 (qK (.int 7)))
  (qSeq (qFor (qIt (qVar 0)) (qgN 2) (qSet 1 (qOp2 gMod (qCB gIntC (qCons (qOp2 gAdd (qOp2 gMul (qVar 1) (qK (.int 31))) (qVar 2)) qNil)) (qK (.int 1000003)))))
  (qRet (qLst (qCons (qLc (qIt (qVar 0)) (qgN 2) qYes (qCB gAbs (qCons (qCB gIntC (qCons (qVar 2) qNil)) qNil)) [2]) (qCons (qOp2 gAdd (qVar 1) (qK (.int 1))) qNil))))))
theorem dv__law_state {P : Program} {w : World} {K : PySem.W.Frag} {mg : Str → Option Value} {base : Heap} {k : Nat} (T : Txt K mg) (S : FS) (lp : S.io.length = 1)
    (rd : ∀ pvs : List PV, pvs.length = S.io.length → S.pre pvs → rd__law_state (endsOf S pvs) (mk S.io pvs ++ uns 2)) : Has P w K mg base "_law_state" (k + 1) ["script"] S := by
  obtain ⟨f, fd, F, m⟩ := T.d__law_state.ex
  refine ⟨f, fd, fn_p F sc__law_state lp (t := rd__law_state) (fun cdv A outer s H E hr => ?_) rd, m, F.kp, F.binds (ps := ["script"]) fun _ _ _ _ _ _ us hl => match us, hl with | [_], _ => rfl, F.at⟩
  exact (qss_cons (qs_set 1 sc__law_state.nd qe_int)
  (qss_cons (qs_for PassesOwn.never rfl (qi_seq (qv 0)) (qg_name 2 sc__law_state.nd) (qss_one (qs_set 1 sc__law_state.nd (qe_op op_modP (qe_callTy call_intP T.z_int (qa_cons (qe_op op_addP (qe_op op_mulP (qv 1) qe_int) (qv 2)) qa_nil)) qe_int))))
  (qss_one (qs_ret (qe_lst (qa_cons (qe_lc rfl sc__law_state.nd (blkOk_by (N := N__law_state) (sc := defScope s__law_state) (own := [("cell", 2)]) (by decide +kernel)) (qi_seq (qv 0)) (fun _ => (qg_name 2 sc__law_state.nd)) (fun _ => qcs_nil) (fun _ => (qe_callB call_absP T.z_abs (qa_cons (qe_callTy call_intP T.z_int (qa_cons (qv 2) qa_nil)) qa_nil)))) (qa_cons (qe_op op_addP (qv 1) qe_int) qa_nil)))))))

/-! _law_draw(state, many)   owned: cells, state -/
abbrev N__law_draw : List Str := ["state", "many", "cells", "value", "mixed"]
theorem sc__law_draw : FnScope N__law_draw ["state", "many"] (defScope s__law_draw) := ⟨rfl, rfl, rfl, by decide +kernel, rfl, by decide +kernel, by decide +kernel⟩
def rd__law_draw : QTS := (qTake 0 2
  (qSeq (qWhile (qAnd (qB (qOp2 gGt (qCB gLen (qCons (qVar 2) qNil)) (qK (.int 0)))) (qB (qOp2 gEq (qOp2 gIx (qVar 2) (qK (.int 0))) (qK (.int 0))))) (qDrop (qMut "list" 2 gPop0 (qCons (qK (.int 0)) qNil))))
  (qSeq (qIf (qB (qOp2 gGt (qCB gLen (qCons (qVar 2) qNil)) (qK (.int 0)))) (qSeq (qSet 3 (qOp2 gIx (qVar 2) (qK (.int 0))))
  (qSeq (qSetIx 2 (qOp2 gDiv (qVar 3) (qVar 1)) (qK (.int 0)))
  (qRet (qOp2 gMod (qCB gIntC (qCons (qVar 3) qNil)) (qVar 1))))) qNext)
  (qSeq (qSet 4 (qOp2 gMod (qCB gIntC (qCons (qOp2 gAdd (qOp2 gMul (qOp2 gIxN (qVar 0) (qK (.int 1))) (qK (.int 48271))) (qK (.int 12345))) qNil)) (qK (.int 2147483647))))
  (qSeq (qSetSeed 0 (qVar 4))
  (qRet (qOp2 gMod (qCB gIntC (qCons (qOp2 gDiv (qVar 4) (qK (.int 64))) qNil)) (qVar 1))))))))
theorem dv__law_draw {P : Program} {w : World} {K : PySem.W.Frag} {mg : Str → Option Value} {base : Heap} {k : Nat} (T : Txt K mg) (S : FS) (lp : S.io.length = 2)
    (rd : ∀ pvs : List PV, pvs.length = S.io.length → S.pre pvs → rd__law_draw (endsOf S pvs) (mk S.io pvs ++ uns 3)) : Has P w K mg base "_law_draw" (k + 1) ["state", "many"] S := by
  obtain ⟨f, fd, F, m⟩ := T.d__law_draw.ex
  refine ⟨f, fd, fn_p F sc__law_draw lp (t := rd__law_draw) (fun cdv A outer s H E hr => ?_) rd, m, F.kp, F.binds (ps := ["state", "many"]) fun _ _ _ _ _ _ us hl => match us, hl with | [_, _], _ => rfl, F.at⟩
  exact (qss_take 0 2 sc__law_draw.nd
  (qss_cons (qs_while PassesOwn.never (qw_and (qc_cmp op_gtP (qe_callB call_lenP T.z_len (qa_cons (qv 2) qa_nil)) qe_int) (qw_and1 (qc_cmp (op_eqP (room64 hr)) (qe_ix ix_P (qv 2) qe_int) qe_int))).qc (qss_one (qs_expr (qe_mut 2 m_pop0 PySem.F.plainAttrs_list PySem.F.slot_list_pop PySem.F.type_list_pop (qa_cons qe_int qa_nil)))))
  (qss_cons (qs_if (qc_cmp op_gtP (qe_callB call_lenP T.z_len (qa_cons (qv 2) qa_nil)) qe_int) (qss_cons (qs_set 3 sc__law_draw.nd (qe_ix ix_P (qv 2) qe_int))
  (qss_cons (qs_setIx (room65 hr) 2 (qe_op op_divP (qv 3) (qv 1)) qe_int)
  (qss_one (qs_ret (qe_op op_modP (qe_callTy call_intP T.z_int (qa_cons (qv 3) qa_nil)) (qv 1)))))) qss_nil)
  (qss_cons (qs_set 4 sc__law_draw.nd (qe_op op_modP (qe_callTy call_intP T.z_int (qa_cons (qe_op op_addP (qe_op op_mulP (qe_ix ix_N (qv 0) qe_int) qe_int) qe_int) qa_nil)) qe_int))
  (qss_cons (qs_setSeed 0 (qv 4))
  (qss_one (qs_ret (qe_op op_modP (qe_callTy call_intP T.z_int (qa_cons (qe_op op_divP (qv 4) qe_int) qa_nil)) (qv 1)))))))))

/-! _law_pick(state, row)   owned: state -/
abbrev N__law_pick : List Str := ["state", "row"]
theorem sc__law_pick : FnScope N__law_pick ["state", "row"] (defScope s__law_pick) := ⟨rfl, rfl, rfl, by decide +kernel, rfl, by decide +kernel, by decide +kernel⟩
def rd__law_pick (q__law_draw : FS) : QTS := (qRet (qOp2 gIx (qVar 1) (qCall q__law_draw (qCons (qVar 0) (qCons (qCB gLen (qCons (qVar 1) qNil)) qNil)))))
theorem dv__law_pick {P : Program} {w : World} {K : PySem.W.Frag} {mg : Str → Option Value} {base : Heap} {k : Nat} {q__law_draw : FS} (T : Txt K mg) (h__law_draw : Has P w K mg base "_law_draw" k ["state", "many"] q__law_draw) (S : FS) (lp : S.io.length = 2)
    (rd : ∀ pvs : List PV, pvs.length = S.io.length → S.pre pvs → rd__law_pick q__law_draw (endsOf S pvs) (mk S.io pvs ++ uns 0)) : Has P w K mg base "_law_pick" (k + 1) ["state", "row"] S := by
  obtain ⟨f, fd, F, m⟩ := T.d__law_pick.ex
  refine ⟨f, fd, fn_p F sc__law_pick lp (t := rd__law_pick q__law_draw) (fun cdv A outer s H E hr => ?_) rd, m, F.kp, F.binds (ps := ["state", "row"]) fun _ _ _ _ _ _ us hl => match us, hl with | [_, _], _ => rfl, F.at⟩
  exact (qss_one (qs_ret (qe_ix ix_P (qv 1) (qe_callH h__law_draw hr (qa_cons (qv 0) (qa_cons (qe_callB call_lenP T.z_len (qa_cons (qv 1) qa_nil)) qa_nil))))))

/-! _law_graph_pattern(state, mark)   owned: state -/
abbrev N__law_graph_pattern : List Str := ["state", "mark", "kind"]
theorem sc__law_graph_pattern : FnScope N__law_graph_pattern ["state", "mark"] (defScope s__law_graph_pattern) := ⟨rfl, rfl, rfl, by decide +kernel, rfl, by decide +kernel, by decide +kernel⟩
def rd__law_graph_pattern (q__law_draw : FS) : QTS := (qSeq (qSet 2 (qCall q__law_draw (qCons (qVar 0) (qCons (qK (.int 7)) qNil))))
  (qSeq (qIf (qB (qOp2 gEq (qVar 2) (qK (.int 0)))) (qRet (qOp2 gAdd (qVar 1) (qK (.str (Str.ofString "0"))))) qNext)
  (qSeq (qIf (qB (qOp2 gEq (qVar 2) (qK (.int 1)))) (qRet (qTup (qCons (qK (.str (Str.ofString "K0"))) qNil))) qNext)
  (qSeq (qIf (qB (qOp2 gEq (qVar 2) (qK (.int 5)))) (qRet (qTup (qCons (qK (.str (Str.ofString "K3"))) (qCons (qOp2 gAdd (qVar 1) (qK (.str (Str.ofString "0")))) qNil)))) qNext)
  (qSeq (qIf (qB (qOp2 gEq (qVar 2) (qK (.int 6)))) (qRet (qTup (qCons (qK (.str (Str.ofString "K1"))) (qCons (qTup (qCons (qK (.str (Str.ofString "K3"))) (qCons (qOp2 gAdd (qVar 1) (qK (.str (Str.ofString "0")))) qNil))) qNil)))) qNext)
  (qSeq (qIf (qB (qOp2 gEq (qVar 2) (qK (.int 2)))) (qRet (qTup (qCons (qK (.str (Str.ofString "K2"))) (qCons (qOp2 gAdd (qVar 1) (qK (.str (Str.ofString "0")))) (qCons (qOp2 gAdd (qVar 1) (qK (.str (Str.ofString "1")))) qNil))))) qNext)
  (qSeq (qIf (qB (qOp2 gEq (qVar 2) (qK (.int 3)))) (qRet (qTup (qCons (qK (.str (Str.ofString "K1"))) (qCons (qTup (qCons (qK (.str (Str.ofString "K1"))) (qCons (qOp2 gAdd (qVar 1) (qK (.str (Str.ofString "0")))) qNil))) qNil)))) qNext)
  (qRet (qTup (qCons (qK (.str (Str.ofString "K1"))) (qCons (qOp2 gAdd (qVar 1) (qK (.str (Str.ofString "0")))) qNil)))))))))))
theorem dv__law_graph_pattern {P : Program} {w : World} {K : PySem.W.Frag} {mg : Str → Option Value} {base : Heap} {k : Nat} {q__law_draw : FS} (T : Txt K mg) (h__law_draw : Has P w K mg base "_law_draw" k ["state", "many"] q__law_draw) (S : FS) (lp : S.io.length = 2)
    (rd : ∀ pvs : List PV, pvs.length = S.io.length → S.pre pvs → rd__law_graph_pattern q__law_draw (endsOf S pvs) (mk S.io pvs ++ uns 1)) : Has P w K mg base "_law_graph_pattern" (k + 1) ["state", "mark"] S := by
  obtain ⟨f, fd, F, m⟩ := T.d__law_graph_pattern.ex
  refine ⟨f, fd, fn_p F sc__law_graph_pattern lp (t := rd__law_graph_pattern q__law_draw) (fun cdv A outer s H E hr => ?_) rd, m, F.kp, F.binds (ps := ["state", "mark"]) fun _ _ _ _ _ _ us hl => match us, hl with | [_, _], _ => rfl, F.at⟩
  exact (qss_cons (qs_set 2 sc__law_graph_pattern.nd (qe_callH h__law_draw hr (qa_cons (qv 0) (qa_cons qe_int qa_nil))))
  (qss_cons (qs_if (qc_cmp (op_eqP (room64 hr)) (qv 2) qe_int) (qss_one (qs_ret (qe_op op_addP (qv 1) qe_str))) qss_nil)
  (qss_cons (qs_if (qc_cmp (op_eqP (room64 hr)) (qv 2) qe_int) (qss_one (qs_ret (qe_tup (qa_cons qe_str qa_nil)))) qss_nil)
  (qss_cons (qs_if (qc_cmp (op_eqP (room64 hr)) (qv 2) qe_int) (qss_one (qs_ret (qe_tup (qa_cons qe_str (qa_cons (qe_op op_addP (qv 1) qe_str) qa_nil))))) qss_nil)
  (qss_cons (qs_if (qc_cmp (op_eqP (room64 hr)) (qv 2) qe_int) (qss_one (qs_ret (qe_tup (qa_cons qe_str (qa_cons (qe_tup (qa_cons qe_str (qa_cons (qe_op op_addP (qv 1) qe_str) qa_nil))) qa_nil))))) qss_nil)
  (qss_cons (qs_if (qc_cmp (op_eqP (room64 hr)) (qv 2) qe_int) (qss_one (qs_ret (qe_tup (qa_cons qe_str (qa_cons (qe_op op_addP (qv 1) qe_str) (qa_cons (qe_op op_addP (qv 1) qe_str) qa_nil)))))) qss_nil)
  (qss_cons (qs_if (qc_cmp (op_eqP (room64 hr)) (qv 2) qe_int) (qss_one (qs_ret (qe_tup (qa_cons qe_str (qa_cons (qe_tup (qa_cons qe_str (qa_cons (qe_op op_addP (qv 1) qe_str) qa_nil))) qa_nil))))) qss_nil)
  (qss_one (qs_ret (qe_tup (qa_cons qe_str (qa_cons (qe_op op_addP (qv 1) qe_str) qa_nil))))))))))))

/-! _law_graph_body(state, places, words, names, deep)   owned: args, state -/
abbrev N__law_graph_body : List Str := ["state", "places", "words", "names", "deep", "kind", "word", "args", "k"]
theorem sc__law_graph_body : FnScope N__law_graph_body ["state", "places", "words", "names", "deep"] (defScope s__law_graph_body) := ⟨rfl, rfl, rfl, by decide +kernel, rfl, by decide +kernel, by decide +kernel⟩
def rd__law_graph_body (q__law_draw q__law_pick q__law_graph_body : FS) : QTS := (qSeq (qSet 5 (qCall q__law_draw (qCons (qVar 0) (qCons (qK (.int 4)) qNil))))
  (qSeq (qIf (qOr (qB (qOp2 gEq (qVar 4) (qK (.int 0)))) (qB (qOp2 gEq (qVar 5) (qK (.int 0))))) (qSeq (qIf (qB (qOp2 gGt (qCB gLen (qCons (qVar 3) qNil)) (qK (.int 0)))) (qRet (qCall q__law_pick (qCons (qVar 0) (qCons (qVar 3) qNil)))) qNext)
  (qRet (qTup (qCons (qK (.str (Str.ofString "K0"))) qNil)))) qNext)
  (qSeq (qIf (qB (qOp2 gEq (qVar 5) (qK (.int 1)))) (qRet (qTup (qCons (qOp2 gIx (qLst (qCons (qK (.str (Str.ofString "K1"))) (qCons (qK (.str (Str.ofString "K3"))) qNil))) (qCall q__law_draw (qCons (qVar 0) (qCons (qK (.int 2)) qNil)))) (qCons (qCall q__law_graph_body (qCons (qVar 0) (qCons (qVar 1) (qCons (qVar 2) (qCons (qVar 3) (qCons (qOp2 gSub (qVar 4) (qK (.int 1))) qNil)))))) qNil)))) qNext)
  (qSeq (qSet 6 (qCall q__law_pick (qCons (qVar 0) (qCons (qVar 2) qNil))))
  (qSeq (qOwn 7 (qLst qNil))
  (qSeq (qFor (qRng1 (qCons (qOp2 gIx (qOp2 gIx (qVar 1) (qVar 6)) (qK (.int 0))) qNil)) (qgN 8) (qIf (qAnd (qB (qOp2 gEq (qVar 8) (qOp2 gIx (qOp2 gIx (qVar 1) (qVar 6)) (qK (.int 1))))) (qAnd (qB (qOp2 gGt (qCB gLen (qCons (qVar 3) qNil)) (qK (.int 0)))) (qB (qOp2 gGt (qCall q__law_draw (qCons (qVar 0) (qCons (qK (.int 8)) qNil))) (qK (.int 0)))))) (qDrop (qMut "list" 7 gAppend (qCons (qCall q__law_pick (qCons (qVar 0) (qCons (qVar 3) qNil))) qNil))) (qDrop (qMut "list" 7 gAppend (qCons (qCall q__law_graph_body (qCons (qVar 0) (qCons (qVar 1) (qCons (qVar 2) (qCons (qVar 3) (qCons (qOp2 gSub (qVar 4) (qK (.int 1))) qNil)))))) qNil)))))
  (qRet (qOp2 gAdd (qTup (qCons (qVar 6) qNil)) (qCB gTuple (qCons (qVar 7) qNil))))))))))
theorem dv__law_graph_body {P : Program} {w : World} {K : PySem.W.Frag} {mg : Str → Option Value} {base : Heap} {k : Nat} {q__law_draw q__law_pick q__law_graph_body : FS} (T : Txt K mg) (h__law_draw : Has P w K mg base "_law_draw" k ["state", "many"] q__law_draw) (h__law_pick : Has P w K mg base "_law_pick" k ["state", "row"] q__law_pick) (h__law_graph_body : Has P w K mg base "_law_graph_body" k ["state", "places", "words", "names", "deep"] q__law_graph_body) (S : FS) (lp : S.io.length = 5)
    (rd : ∀ pvs : List PV, pvs.length = S.io.length → S.pre pvs → rd__law_graph_body q__law_draw q__law_pick q__law_graph_body (endsOf S pvs) (mk S.io pvs ++ uns 4)) : Has P w K mg base "_law_graph_body" (k + 1) ["state", "places", "words", "names", "deep"] S := by
  obtain ⟨f, fd, F, m⟩ := T.d__law_graph_body.ex
  refine ⟨f, fd, fn_p F sc__law_graph_body lp (t := rd__law_graph_body q__law_draw q__law_pick q__law_graph_body) (fun cdv A outer s H E hr => ?_) rd, m, F.kp, F.binds (ps := ["state", "places", "words", "names", "deep"]) fun _ _ _ _ _ _ us hl => match us, hl with | [_, _, _, _, _], _ => rfl, F.at⟩
  exact (qss_cons (qs_set 5 sc__law_graph_body.nd (qe_callH h__law_draw hr (qa_cons (qv 0) (qa_cons qe_int qa_nil))))
  (qss_cons (qs_if (qw_or (qc_cmp (op_eqP (room64 hr)) (qv 4) qe_int) (qw_or1 (qc_cmp (op_eqP (room64 hr)) (qv 5) qe_int))).qc (qss_cons (qs_if (qc_cmp op_gtP (qe_callB call_lenP T.z_len (qa_cons (qv 3) qa_nil)) qe_int) (qss_one (qs_ret (qe_callH h__law_pick hr (qa_cons (qv 0) (qa_cons (qv 3) qa_nil))))) qss_nil)
  (qss_one (qs_ret (qe_tup (qa_cons qe_str qa_nil))))) qss_nil)
  (qss_cons (qs_if (qc_cmp (op_eqP (room64 hr)) (qv 5) qe_int) (qss_one (qs_ret (qe_tup (qa_cons (qe_ix ix_P (qe_lst (qa_cons qe_str (qa_cons qe_str qa_nil))) (qe_callH h__law_draw hr (qa_cons (qv 0) (qa_cons qe_int qa_nil)))) (qa_cons (qe_callH h__law_graph_body hr (qa_cons (qv 0) (qa_cons (qv 1) (qa_cons (qv 2) (qa_cons (qv 3) (qa_cons (qe_op op_subP (qv 4) qe_int) qa_nil)))))) qa_nil))))) qss_nil)
  (qss_cons (qs_set 6 sc__law_graph_body.nd (qe_callH h__law_pick hr (qa_cons (qv 0) (qa_cons (qv 2) qa_nil))))
  (qss_cons (qs_own 7 sc__law_graph_body.nd (qe_lst qa_nil))
  (qss_cons (qs_for PassesOwn.never rfl (qi_range1 T.z_range (qa_cons (qe_ix ix_P (qe_ix ix_P (qv 1) (qv 6)) qe_int) qa_nil)) (qg_name 8 sc__law_graph_body.nd) (qss_one (qs_if (qw_and (qc_cmp (op_eqP (room64 hr)) (qv 8) (qe_ix ix_P (qe_ix ix_P (qv 1) (qv 6)) qe_int)) (qw_and (qc_cmp op_gtP (qe_callB call_lenP T.z_len (qa_cons (qv 3) qa_nil)) qe_int) (qw_and1 (qc_cmp op_gtP (qe_callH h__law_draw hr (qa_cons (qv 0) (qa_cons qe_int qa_nil))) qe_int)))).qc (qss_one (qs_expr (qe_mut 7 m_append PySem.F.plainAttrs_list PySem.F.slot_list_append PySem.F.type_list_append (qa_cons (qe_callH h__law_pick hr (qa_cons (qv 0) (qa_cons (qv 3) qa_nil))) qa_nil)))) (qss_one (qs_expr (qe_mut 7 m_append PySem.F.plainAttrs_list PySem.F.slot_list_append PySem.F.type_list_append (qa_cons (qe_callH h__law_graph_body hr (qa_cons (qv 0) (qa_cons (qv 1) (qa_cons (qv 2) (qa_cons (qv 3) (qa_cons (qe_op op_subP (qv 4) qe_int) qa_nil)))))) qa_nil)))))))
  (qss_one (qs_ret (qe_op op_addP (qe_tup (qa_cons (qv 6) qa_nil)) (qe_callTy call_tupleP T.z_tuple (qa_cons (qv 7) qa_nil)))))))))))

/-! _law_graph_program(state)   owned: clauses, functions, places, state -/
abbrev N__law_graph_program : List Str := ["state", "many", "words", "places", "k", "size", "functions", "place", "clauses", "turn", "patterns", "names", "pattern", "called", "params", "j"]
theorem sc__law_graph_program : FnScope N__law_graph_program ["state"] (defScope s__law_graph_program) := ⟨rfl, rfl, rfl, by decide +kernel, rfl, by decide +kernel, by decide +kernel⟩
def rd__law_graph_program (q__law_draw q__law_graph_pattern q__law_names q__law_graph_body : FS) : QTS := (qSeq (qSet 1 (qOp2 gAdd (qK (.int 1)) (qCall q__law_draw (qCons (qVar 0) (qCons (qK (.int 4)) qNil)))))
  (qSeq (qSet 2 (qOp2 gIx (qLst (qCons (qLst (qCons (qK (.str (Str.ofString "f0"))) (qCons (qK (.str (Str.ofString "f1"))) (qCons (qK (.str (Str.ofString "f2"))) (qCons (qK (.str (Str.ofString "f3"))) qNil))))) (qCons (qLst (qCons (qK (.str (Str.ofString "b9"))) (qCons (qK (.str (Str.ofString "a"))) (qCons (qK (.str (Str.ofString "Zz"))) (qCons (qK (.str (Str.ofString "f"))) qNil))))) (qCons (qLst (qCons (qK (.str (Str.ofString "d"))) (qCons (qK (.str (Str.ofString "c"))) (qCons (qK (.str (Str.ofString "b"))) (qCons (qK (.str (Str.ofString "a"))) qNil))))) (qCons (qLst (qCons (qK (.str (Str.ofString "f9"))) (qCons (qK (.str (Str.ofString "f10"))) (qCons (qK (.str (Str.ofString "f2"))) (qCons (qK (.str (Str.ofString "f1"))) qNil))))) qNil))))) (qCall q__law_draw (qCons (qVar 0) (qCons (qK (.int 4)) qNil)))))
  (qSeq (qOwn 3 qDict0)
  (qSeq (qFor (qRng1 (qCons (qVar 1) qNil)) (qgN 4) (qSeq (qSet 5 (qOp2 gAdd (qK (.int 1)) (qCall q__law_draw (qCons (qVar 0) (qCons (qK (.int 2)) qNil)))))
  (qSetIx 3 (qTup (qCons (qVar 5) (qCons (qCall q__law_draw (qCons (qVar 0) (qCons (qVar 5) qNil))) qNil))) (qOp2 gIx (qVar 2) (qVar 4)))))
  (qSeq (qOwn 6 (qLst qNil))
  (qSeq (qFor (qRng1 (qCons (qVar 1) qNil)) (qgN 4) (qSeq (qAsg (qOp2 gIx (qVar 3) (qOp2 gIx (qVar 2) (qVar 4))) (qgT 2 (qgCons (qgN 5) (qgCons (qgN 7) qgNil))))
  (qSeq (qOwn 8 (qLst qNil))
  (qSeq (qFor (qRng1 (qCons (qCall q__law_draw (qCons (qVar 0) (qCons (qK (.int 3)) qNil))) qNil)) (qgN 9) (qSeq (qSet 10 (qCB gTuple (qCons (qLc (qRng1 (qCons (qVar 5) qNil)) (qgN 15) qYes (qCall q__law_graph_pattern (qCons (qVar 0) (qCons (qOp2 gIx (qLst (qCons (qK (.str (Str.ofString "x"))) (qCons (qK (.str (Str.ofString "y"))) qNil))) (qVar 15)) qNil))) [15]) qNil)))
  (qSeq (qSet 11 (qLst qNil))
  (qSeq (qFor (qIt (qVar 10)) (qgN 12) (qSet 11 (qOp2 gAdd (qVar 11) (qCall q__law_names (qCons (qVar 12) qNil)))))
  (qSeq (qSet 13 (qSl gSl (qVar 2) qNo (qPart (qOp2 gIx (qLst (qCons (qVar 1) (qCons (qOp2 gAdd (qVar 4) (qK (.int 1))) qNil))) (qCall q__law_draw (qCons (qVar 0) (qCons (qK (.int 2)) qNil)))))))
  (qDrop (qMut "list" 8 gAppend (qCons (qTup (qCons (qVar 10) (qCons (qCallB q__law_graph_body (qCons (qVar 0) (qCons (qVar 3) (qCons (qVar 13) (qCons (qVar 11) (qCons (qOp2 gAdd (qK (.int 1)) (qCall q__law_draw (qCons (qVar 0) (qCons (qK (.int 3)) qNil)))) qNil)))))) qNil))) qNil))))))))
  (qSeq (qSet 14 (qCB gTuple (qCons (qLc (qRng1 (qCons (qVar 5) qNil)) (qgN 15) qYes (qTup (qCons (qK (.str (Str.ofString "Fa"))) (qCons (qK (.str (Str.ofString "a"))) qNil))) [15]) qNil)))
  (qDrop (qMut "list" 6 gAppend (qCons (qTup (qCons (qOp2 gIx (qVar 2) (qVar 4)) (qCons (qVar 14) (qCons (qK (.str (Str.ofString "Fa"))) (qCons (qK (.str (Str.ofString "a"))) (qCons (qVar 7) (qCons (qCB gTuple (qCons (qVar 8) qNil)) qNil))))))) qNil))))))))
  (qRet (qTup (qCons (qK (.str (Str.ofString "program"))) (qCons (qCB gTuple (qCons (qVar 6) qNil)) qNil))))))))))
theorem dv__law_graph_program {P : Program} {w : World} {K : PySem.W.Frag} {mg : Str → Option Value} {base : Heap} {k : Nat} {q__law_draw q__law_graph_pattern q__law_names q__law_graph_body : FS} (T : Txt K mg) (h__law_draw : Has P w K mg base "_law_draw" k ["state", "many"] q__law_draw) (h__law_graph_pattern : Has P w K mg base "_law_graph_pattern" k ["state", "mark"] q__law_graph_pattern) (h__law_names : Has P w K mg base "_law_names" k ["term"] q__law_names) (h__law_graph_body : Has P w K mg base "_law_graph_body" k ["state", "places", "words", "names", "deep"] q__law_graph_body) (S : FS) (lp : S.io.length = 1)
    (rd : ∀ pvs : List PV, pvs.length = S.io.length → S.pre pvs → rd__law_graph_program q__law_draw q__law_graph_pattern q__law_names q__law_graph_body (endsOf S pvs) (mk S.io pvs ++ uns 15)) : Has P w K mg base "_law_graph_program" (k + 1) ["state"] S := by
  obtain ⟨f, fd, F, m⟩ := T.d__law_graph_program.ex
  refine ⟨f, fd, fn_p F sc__law_graph_program lp (t := rd__law_graph_program q__law_draw q__law_graph_pattern q__law_names q__law_graph_body) (fun cdv A outer s H E hr => ?_) rd, m, F.kp, F.binds (ps := ["state"]) fun _ _ _ _ _ _ us hl => match us, hl with | [_], _ => rfl, F.at⟩
  exact (qss_cons (qs_set 1 sc__law_graph_program.nd (qe_op op_addP qe_int (qe_callH h__law_draw hr (qa_cons (qv 0) (qa_cons qe_int qa_nil)))))
  (qss_cons (qs_set 2 sc__law_graph_program.nd (qe_ix ix_P (qe_lst (qa_cons (qe_lst (qa_cons qe_str (qa_cons qe_str (qa_cons qe_str (qa_cons qe_str qa_nil))))) (qa_cons (qe_lst (qa_cons qe_str (qa_cons qe_str (qa_cons qe_str (qa_cons qe_str qa_nil))))) (qa_cons (qe_lst (qa_cons qe_str (qa_cons qe_str (qa_cons qe_str (qa_cons qe_str qa_nil))))) (qa_cons (qe_lst (qa_cons qe_str (qa_cons qe_str (qa_cons qe_str (qa_cons qe_str qa_nil))))) qa_nil))))) (qe_callH h__law_draw hr (qa_cons (qv 0) (qa_cons qe_int qa_nil)))))
  (qss_cons (qs_own 3 sc__law_graph_program.nd qe_dict0)
  (qss_cons (qs_for PassesOwn.never rfl (qi_range1 T.z_range (qa_cons (qv 1) qa_nil)) (qg_name 4 sc__law_graph_program.nd) (qss_cons (qs_set 5 sc__law_graph_program.nd (qe_op op_addP qe_int (qe_callH h__law_draw hr (qa_cons (qv 0) (qa_cons qe_int qa_nil)))))
  (qss_one (qs_setIx (room65 hr) 3 (qe_tup (qa_cons (qv 5) (qa_cons (qe_callH h__law_draw hr (qa_cons (qv 0) (qa_cons (qv 5) qa_nil))) qa_nil))) (qe_ix ix_P (qv 2) (qv 4))))))
  (qss_cons (qs_own 6 sc__law_graph_program.nd (qe_lst qa_nil))
  (qss_cons (qs_for PassesOwn.never rfl (qi_range1 T.z_range (qa_cons (qv 1) qa_nil)) (qg_name 4 sc__law_graph_program.nd) (qss_cons (qs_asg (qe_ix ix_P (qv 3) (qe_ix ix_P (qv 2) (qv 4))) (qg_tup rfl (qgs_cons (qg_name 5 sc__law_graph_program.nd) (qgs_cons (qg_name 7 sc__law_graph_program.nd) qgs_nil))))
  (qss_cons (qs_own 8 sc__law_graph_program.nd (qe_lst qa_nil))
  (qss_cons (qs_for PassesOwn.never rfl (qi_range1 T.z_range (qa_cons (qe_callH h__law_draw hr (qa_cons (qv 0) (qa_cons qe_int qa_nil))) qa_nil)) (qg_name 9 sc__law_graph_program.nd) (qss_cons (qs_set 10 sc__law_graph_program.nd (qe_callTy call_tupleP T.z_tuple (qa_cons (qe_lc rfl sc__law_graph_program.nd (blkOk_by (N := N__law_graph_program) (sc := defScope s__law_graph_program) (own := [("j", 15)]) (by decide +kernel)) (qi_range1 T.z_range (qa_cons (qv 5) qa_nil)) (fun _ => (qg_name 15 sc__law_graph_program.nd)) (fun _ => qcs_nil) (fun _ => (qe_callH h__law_graph_pattern hr (qa_cons (qv 0) (qa_cons (qe_ix ix_P (qe_lst (qa_cons qe_str (qa_cons qe_str qa_nil))) (qv 15)) qa_nil))))) qa_nil)))
  (qss_cons (qs_set 11 sc__law_graph_program.nd (qe_lst qa_nil))
  (qss_cons (qs_for PassesOwn.never rfl (qi_seq (qv 10)) (qg_name 12 sc__law_graph_program.nd) (qss_one (qs_set 11 sc__law_graph_program.nd (qe_op op_addP (qv 11) (qe_callH h__law_names hr (qa_cons (qv 12) qa_nil))))))
  (qss_cons (qs_set 13 sc__law_graph_program.nd (qe_slice sl_seq (qv 2) qo_none (qo_some (qe_ix ix_P (qe_lst (qa_cons (qv 1) (qa_cons (qe_op op_addP (qv 4) qe_int) qa_nil))) (qe_callH h__law_draw hr (qa_cons (qv 0) (qa_cons qe_int qa_nil)))))))
  (qss_one (qs_expr (qe_mut 8 m_append PySem.F.plainAttrs_list PySem.F.slot_list_append PySem.F.type_list_append (qa_cons (qe_tup (qa_cons (qv 10) (qa_cons (qe_callHB h__law_graph_body hr (qa_cons (qv 0) (qa_cons (qv 3) (qa_cons (qv 13) (qa_cons (qv 11) (qa_cons (qe_op op_addP qe_int (qe_callH h__law_draw hr (qa_cons (qv 0) (qa_cons qe_int qa_nil)))) qa_nil)))))) qa_nil))) qa_nil)))))))))
  (qss_cons (qs_set 14 sc__law_graph_program.nd (qe_callTy call_tupleP T.z_tuple (qa_cons (qe_lc rfl sc__law_graph_program.nd (blkOk_by (N := N__law_graph_program) (sc := defScope s__law_graph_program) (own := [("j", 15)]) (by decide +kernel)) (qi_range1 T.z_range (qa_cons (qv 5) qa_nil)) (fun _ => (qg_name 15 sc__law_graph_program.nd)) (fun _ => qcs_nil) (fun _ => (qe_tup (qa_cons qe_str (qa_cons qe_str qa_nil))))) qa_nil)))
  (qss_one (qs_expr (qe_mut 6 m_append PySem.F.plainAttrs_list PySem.F.slot_list_append PySem.F.type_list_append (qa_cons (qe_tup (qa_cons (qe_ix ix_P (qv 2) (qv 4)) (qa_cons (qv 14) (qa_cons qe_str (qa_cons qe_str (qa_cons (qv 7) (qa_cons (qe_callTy call_tupleP T.z_tuple (qa_cons (qv 8) qa_nil)) qa_nil))))))) qa_nil)))))))))
  (qss_one (qs_ret (qe_tup (qa_cons qe_str (qa_cons (qe_callTy call_tupleP T.z_tuple (qa_cons (qv 6) qa_nil)) qa_nil)))))))))))

/-! _law_names(term) -/
abbrev N__law_names : List Str := ["term", "found", "part", "name"]
theorem sc__law_names : FnScope N__law_names ["term"] (defScope s__law_names) := ⟨rfl, rfl, rfl, by decide +kernel, rfl, by decide +kernel, by decide +kernel⟩
def rd__law_names (q__law_names : FS) : QTS := (qSeq (qIf (qTru (qCB gIsiT (qCons (qVar 0) (qCons (qK (.ty "str")) qNil)))) (qRet (qLst (qCons (qVar 0) qNil))) qNext)
  (qSeq (qSet 1 (qLst qNil))
  (qSeq (qFor (qIt (qSl gSl (qVar 0) (qPart (qK (.int 1))) qNo)) (qgN 2) (qSet 1 (qOp2 gAdd (qVar 1) (qLc (qIt (qCall q__law_names (qCons (qVar 2) qNil))) (qgN 3) (qB (qOp2 gNotIn (qVar 3) (qVar 1))) (qVar 3) [3]))))
  (qRet (qVar 1)))))
theorem dv__law_names {P : Program} {w : World} {K : PySem.W.Frag} {mg : Str → Option Value} {base : Heap} {k : Nat} {q__law_names : FS} (T : Txt K mg) (h__law_names : Has P w K mg base "_law_names" k ["term"] q__law_names) (S : FS) (lp : S.io.length = 1)
    (rd : ∀ pvs : List PV, pvs.length = S.io.length → S.pre pvs → rd__law_names q__law_names (endsOf S pvs) (mk S.io pvs ++ uns 3)) : Has P w K mg base "_law_names" (k + 1) ["term"] S := by
  obtain ⟨f, fd, F, m⟩ := T.d__law_names.ex
  refine ⟨f, fd, fn_p F sc__law_names lp (t := rd__law_names q__law_names) (fun cdv A outer s H E hr => ?_) rd, m, F.kp, F.binds (ps := ["term"]) fun _ _ _ _ _ _ us hl => match us, hl with | [_], _ => rfl, F.at⟩
  exact (qss_cons (qs_if (qc_tru (qe_callB call_isiPT T.z_isinstance (qa_cons (qv 0) (qa_cons (qe_ty T.z_str) qa_nil)))) (qss_one (qs_ret (qe_lst (qa_cons (qv 0) qa_nil)))) qss_nil)
  (qss_cons (qs_set 1 sc__law_names.nd (qe_lst qa_nil))
  (qss_cons (qs_for PassesOwn.never rfl (qi_seq (qe_slice sl_seq (qv 0) (qo_some qe_int) qo_none)) (qg_name 2 sc__law_names.nd) (qss_one (qs_set 1 sc__law_names.nd (qe_op op_addP (qv 1) (qe_lc rfl sc__law_names.nd (blkOk_by (N := N__law_names) (sc := defScope s__law_names) (own := [("name", 3)]) (by decide +kernel)) (qi_seq (qe_callH h__law_names hr (qa_cons (qv 2) qa_nil))) (fun _ => (qg_name 3 sc__law_names.nd)) (fun _ => (qcs_one (qc_cmp (op_notInP (room65 hr)) (qv 3) (qv 1)))) (fun _ => (qv 3)))))))
  (qss_one (qs_ret (qv 1))))))

/-! _law_calls(program, body)   owned: found, parts -/
abbrev N__law_calls : List Str := ["program", "body", "found", "parts", "words", "part", "row"]
theorem sc__law_calls : FnScope N__law_calls ["program", "body"] (defScope s__law_calls) := ⟨rfl, rfl, rfl, by decide +kernel, rfl, by decide +kernel, by decide +kernel⟩
def rd__law_calls : QTS := (qSeq (qOwn 2 (qLst qNil))
  (qSeq (qOwn 3 (qLst (qCons (qVar 1) qNil)))
  (qSeq (qSet 4 (qLc (qIt (qOp2 gIx (qVar 0) (qK (.int 1)))) (qgN 6) qYes (qOp2 gIx (qVar 6) (qK (.int 0))) [6]))
  (qSeq (qWhile (qB (qOp2 gGt (qCB gLen (qCons (qVar 3) qNil)) (qK (.int 0)))) (qSeq (qSet 5 (qMut "list" 3 gPop qNil))
  (qIf (qNot (qTru (qCB gIsiT (qCons (qVar 5) (qCons (qK (.ty "str")) qNil))))) (qSeq (qIf (qB (qOp2 gIn (qOp2 gIx (qVar 5) (qK (.int 0))) (qVar 4))) (qDrop (qMut "list" 2 gAppend (qCons (qVar 5) qNil))) qNext)
  (qOwn 3 (qOp2 gAdd (qVar 3) (qCB gListD (qCons (qSl gSl (qVar 5) (qPart (qK (.int 1))) qNo) qNil))))) qNext)))
  (qRet (qVar 2))))))
theorem dv__law_calls {P : Program} {w : World} {K : PySem.W.Frag} {mg : Str → Option Value} {base : Heap} {k : Nat} (T : Txt K mg) (S : FS) (lp : S.io.length = 2)
    (rd : ∀ pvs : List PV, pvs.length = S.io.length → S.pre pvs → rd__law_calls (endsOf S pvs) (mk S.io pvs ++ uns 5)) : Has P w K mg base "_law_calls" (k + 1) ["program", "body"] S := by
  obtain ⟨f, fd, F, m⟩ := T.d__law_calls.ex
  refine ⟨f, fd, fn_p F sc__law_calls lp (t := rd__law_calls) (fun cdv A outer s H E hr => ?_) rd, m, F.kp, F.binds (ps := ["program", "body"]) fun _ _ _ _ _ _ us hl => match us, hl with | [_, _], _ => rfl, F.at⟩
  exact (qss_cons (qs_own 2 sc__law_calls.nd (qe_lst qa_nil))
  (qss_cons (qs_own 3 sc__law_calls.nd (qe_lst (qa_cons (qv 1) qa_nil)))
  (qss_cons (qs_setLc 4 rfl sc__law_calls.nd (sw_true rfl rfl rfl (by decide +kernel)) (blkOk_by (N := N__law_calls) (sc := defScope s__law_calls) (own := [("row", 6)]) (by decide +kernel)) (qi_seq (qe_ix ix_P (qv 0) qe_int)) (fun _ => (qg_name 6 sc__law_calls.nd)) (fun _ => qcs_nil) (fun _ => (qe_ix ix_P (qv 6) qe_int)))
  (qss_cons (qs_while PassesOwn.never (qc_cmp op_gtP (qe_callB call_lenP T.z_len (qa_cons (qv 3) qa_nil)) qe_int) (qss_cons (qs_set 5 sc__law_calls.nd (qe_mut0 3 m_pop PySem.F.plainAttrs_list PySem.F.slot_list_pop PySem.F.type_list_pop))
  (qss_one (qs_if (qc_not (qc_tru (qe_callB call_isiPT T.z_isinstance (qa_cons (qv 5) (qa_cons (qe_ty T.z_str) qa_nil))))) (qss_cons (qs_if (qc_cmp (op_inP (room65 hr)) (qe_ix ix_P (qv 5) qe_int) (qv 4)) (qss_one (qs_expr (qe_mut 2 m_append PySem.F.plainAttrs_list PySem.F.slot_list_append PySem.F.type_list_append (qa_cons (qv 5) qa_nil)))) qss_nil)
  (qss_one (qs_own 3 sc__law_calls.nd (qe_op op_addP (qv 3) (qe_callTy (call_listPD rfl) T.z_list (qa_cons (qe_slice sl_seq (qv 5) (qo_some qe_int) qo_none) qa_nil)))))) qss_nil))))
  (qss_one (qs_ret (qv 2)))))))

/-! _law_next(program, word) -/
abbrev N__law_next : List Str := ["program", "word", "row", "found", "patterns", "body", "one", "call"]
theorem sc__law_next : FnScope N__law_next ["program", "word"] (defScope s__law_next) := ⟨rfl, rfl, rfl, by decide +kernel, rfl, by decide +kernel, by decide +kernel⟩
def rd__law_next (q__law_calls : FS) : QTS := (qSeq (qSet 2 (qOp2 gIx (qLc (qIt (qOp2 gIx (qVar 0) (qK (.int 1)))) (qgN 6) (qB (qOp2 gEq (qOp2 gIx (qVar 6) (qK (.int 0))) (qVar 1))) (qVar 6) [6]) (qK (.int 0))))
  (qSeq (qSet 3 (qLst qNil))
  (qSeq (qFor (qIt (qOp2 gIx (qVar 2) (qK (.int 5)))) (qgT 2 (qgCons (qgN 4) (qgCons (qgN 5) qgNil))) (qSet 3 (qOp2 gAdd (qVar 3) (qLc (qIt (qCall q__law_calls (qCons (qVar 0) (qCons (qVar 5) qNil)))) (qgN 7) (qB (qOp2 gNotIn (qOp2 gIx (qVar 7) (qK (.int 0))) (qVar 3))) (qOp2 gIx (qVar 7) (qK (.int 0))) [7]))))
  (qRet (qVar 3)))))
theorem dv__law_next {P : Program} {w : World} {K : PySem.W.Frag} {mg : Str → Option Value} {base : Heap} {k : Nat} {q__law_calls : FS} (T : Txt K mg) (h__law_calls : Has P w K mg base "_law_calls" k ["program", "body"] q__law_calls) (S : FS) (lp : S.io.length = 2)
    (rd : ∀ pvs : List PV, pvs.length = S.io.length → S.pre pvs → rd__law_next q__law_calls (endsOf S pvs) (mk S.io pvs ++ uns 6)) : Has P w K mg base "_law_next" (k + 1) ["program", "word"] S := by
  obtain ⟨f, fd, F, m⟩ := T.d__law_next.ex
  refine ⟨f, fd, fn_p F sc__law_next lp (t := rd__law_next q__law_calls) (fun cdv A outer s H E hr => ?_) rd, m, F.kp, F.binds (ps := ["program", "word"]) fun _ _ _ _ _ _ us hl => match us, hl with | [_, _], _ => rfl, F.at⟩
  exact (qss_cons (qs_set 2 sc__law_next.nd (qe_ix ix_P (qe_lc rfl sc__law_next.nd (blkOk_by (N := N__law_next) (sc := defScope s__law_next) (own := [("one", 6)]) (by decide +kernel)) (qi_seq (qe_ix ix_P (qv 0) qe_int)) (fun _ => (qg_name 6 sc__law_next.nd)) (fun _ => (qcs_one (qc_cmp (op_eqP (room64 hr)) (qe_ix ix_P (qv 6) qe_int) (qv 1)))) (fun _ => (qv 6))) qe_int))
  (qss_cons (qs_set 3 sc__law_next.nd (qe_lst qa_nil))
  (qss_cons (qs_for PassesOwn.never rfl (qi_seq (qe_ix ix_P (qv 2) qe_int)) (qg_tup rfl (qgs_cons (qg_name 4 sc__law_next.nd) (qgs_cons (qg_name 5 sc__law_next.nd) qgs_nil))) (qss_one (qs_set 3 sc__law_next.nd (qe_op op_addP (qv 3) (qe_lc rfl sc__law_next.nd (blkOk_by (N := N__law_next) (sc := defScope s__law_next) (own := [("call", 7)]) (by decide +kernel)) (qi_seq (qe_callH h__law_calls hr (qa_cons (qv 0) (qa_cons (qv 5) qa_nil)))) (fun _ => (qg_name 7 sc__law_next.nd)) (fun _ => (qcs_one (qc_cmp (op_notInP (room65 hr)) (qe_ix ix_P (qv 7) qe_int) (qv 3)))) (fun _ => (qe_ix ix_P (qv 7) qe_int)))))))
  (qss_one (qs_ret (qv 3))))))

/-! _law_reached(program, word)   owned: found, front -/
abbrev N__law_reached : List Str := ["program", "word", "found", "front", "other"]
theorem sc__law_reached : FnScope N__law_reached ["program", "word"] (defScope s__law_reached) := ⟨rfl, rfl, rfl, by decide +kernel, rfl, by decide +kernel, by decide +kernel⟩
def rd__law_reached (q__law_next : FS) : QTS := (qSeq (qOwn 2 (qLst qNil))
  (qSeq (qOwn 3 (qLst (qCons (qVar 1) qNil)))
  (qSeq (qWhile (qB (qOp2 gGt (qCB gLen (qCons (qVar 3) qNil)) (qK (.int 0)))) (qFor (qIt (qCall q__law_next (qCons (qVar 0) (qCons (qMut "list" 3 gPop qNil) qNil)))) (qgN 4) (qIf (qB (qOp2 gNotIn (qVar 4) (qVar 2))) (qSeq (qDrop (qMut "list" 2 gAppend (qCons (qVar 4) qNil)))
  (qDrop (qMut "list" 3 gAppend (qCons (qVar 4) qNil)))) qNext)))
  (qRet (qVar 2)))))
theorem dv__law_reached {P : Program} {w : World} {K : PySem.W.Frag} {mg : Str → Option Value} {base : Heap} {k : Nat} {q__law_next : FS} (T : Txt K mg) (h__law_next : Has P w K mg base "_law_next" k ["program", "word"] q__law_next) (S : FS) (lp : S.io.length = 2)
    (rd : ∀ pvs : List PV, pvs.length = S.io.length → S.pre pvs → rd__law_reached q__law_next (endsOf S pvs) (mk S.io pvs ++ uns 3)) : Has P w K mg base "_law_reached" (k + 1) ["program", "word"] S := by
  obtain ⟨f, fd, F, m⟩ := T.d__law_reached.ex
  refine ⟨f, fd, fn_p F sc__law_reached lp (t := rd__law_reached q__law_next) (fun cdv A outer s H E hr => ?_) rd, m, F.kp, F.binds (ps := ["program", "word"]) fun _ _ _ _ _ _ us hl => match us, hl with | [_, _], _ => rfl, F.at⟩
  exact (qss_cons (qs_own 2 sc__law_reached.nd (qe_lst qa_nil))
  (qss_cons (qs_own 3 sc__law_reached.nd (qe_lst (qa_cons (qv 1) qa_nil)))
  (qss_cons (qs_while PassesOwn.never (qc_cmp op_gtP (qe_callB call_lenP T.z_len (qa_cons (qv 3) qa_nil)) qe_int) (qss_one (qs_for PassesOwn.never rfl (qi_seq (qe_callH h__law_next hr (qa_cons (qv 0) (qa_cons (qe_mut0 3 m_pop PySem.F.plainAttrs_list PySem.F.slot_list_pop PySem.F.type_list_pop) qa_nil)))) (qg_name 4 sc__law_reached.nd) (qss_one (qs_if (qc_cmp (op_notInP (room65 hr)) (qv 4) (qv 2)) (qss_cons (qs_expr (qe_mut 2 m_append PySem.F.plainAttrs_list PySem.F.slot_list_append PySem.F.type_list_append (qa_cons (qv 4) qa_nil)))
  (qss_one (qs_expr (qe_mut 3 m_append PySem.F.plainAttrs_list PySem.F.slot_list_append PySem.F.type_list_append (qa_cons (qv 4) qa_nil))))) qss_nil)))))
  (qss_one (qs_ret (qv 2))))))

/-! _law_group(program, word)   owned: found -/
abbrev N__law_group : List Str := ["program", "word", "found", "other"]
theorem sc__law_group : FnScope N__law_group ["program", "word"] (defScope s__law_group) := ⟨rfl, rfl, rfl, by decide +kernel, rfl, by decide +kernel, by decide +kernel⟩
def rd__law_group (q__law_reached : FS) : QTS := (qSeq (qOwn 2 (qLc (qIt (qCall q__law_reached (qCons (qVar 0) (qCons (qVar 1) qNil)))) (qgN 3) (qB (qOp2 gIn (qVar 1) (qCall q__law_reached (qCons (qVar 0) (qCons (qVar 3) qNil))))) (qVar 3) [3]))
  (qSeq (qIf (qB (qOp2 gNotIn (qVar 1) (qVar 2))) (qDrop (qMut "list" 2 gAppend (qCons (qVar 1) qNil))) qNext)
  (qRet (qCB gSorted (qCons (qVar 2) qNil)))))
theorem dv__law_group {P : Program} {w : World} {K : PySem.W.Frag} {mg : Str → Option Value} {base : Heap} {k : Nat} {q__law_reached : FS} (T : Txt K mg) (h__law_reached : Has P w K mg base "_law_reached" k ["program", "word"] q__law_reached) (S : FS) (lp : S.io.length = 2)
    (rd : ∀ pvs : List PV, pvs.length = S.io.length → S.pre pvs → rd__law_group q__law_reached (endsOf S pvs) (mk S.io pvs ++ uns 2)) : Has P w K mg base "_law_group" (k + 1) ["program", "word"] S := by
  obtain ⟨f, fd, F, m⟩ := T.d__law_group.ex
  refine ⟨f, fd, fn_p F sc__law_group lp (t := rd__law_group q__law_reached) (fun cdv A outer s H E hr => ?_) rd, m, F.kp, F.binds (ps := ["program", "word"]) fun _ _ _ _ _ _ us hl => match us, hl with | [_, _], _ => rfl, F.at⟩
  exact (qss_cons (qs_ownLc 2 rfl sc__law_group.nd (sw_true rfl rfl rfl (by decide +kernel)) (blkOk_by (N := N__law_group) (sc := defScope s__law_group) (own := [("other", 3)]) (by decide +kernel)) (qi_seq (qe_callH h__law_reached hr (qa_cons (qv 0) (qa_cons (qv 1) qa_nil)))) (fun _ => (qg_name 3 sc__law_group.nd)) (fun _ => (qcs_one (qc_cmp (op_inP (room65 hr)) (qv 1) (qe_callH h__law_reached hr (qa_cons (qv 0) (qa_cons (qv 3) qa_nil)))))) (fun _ => (qv 3)))
  (qss_cons (qs_if (qc_cmp (op_notInP (room65 hr)) (qv 1) (qv 2)) (qss_one (qs_expr (qe_mut 2 m_append PySem.F.plainAttrs_list PySem.F.slot_list_append PySem.F.type_list_append (qa_cons (qv 1) qa_nil)))) qss_nil)
  (qss_one (qs_ret (qe_callB (call_sortedP rfl) T.z_sorted (qa_cons (qv 2) qa_nil))))))

/-! _law_taken(patterns, values)   owned: found, pairs -/
abbrev N__law_taken : List Str := ["patterns", "values", "found", "pairs", "pattern", "value", "k"]
theorem sc__law_taken : FnScope N__law_taken ["patterns", "values"] (defScope s__law_taken) := ⟨rfl, rfl, rfl, by decide +kernel, rfl, by decide +kernel, by decide +kernel⟩
def rd__law_taken : QTS := (qSeq (qOwn 2 qDict0)
  (qSeq (qOwn 3 (qLc (qRng1 (qCons (qCB gLen (qCons (qVar 0) qNil)) qNil)) (qgN 6) qYes (qTup (qCons (qOp2 gIx (qVar 0) (qVar 6)) (qCons (qOp2 gIx (qVar 1) (qVar 6)) qNil))) [6]))
  (qSeq (qWhile (qB (qOp2 gGt (qCB gLen (qCons (qVar 3) qNil)) (qK (.int 0)))) (qSeq (qAsg (qMut "list" 3 gPop qNil) (qgT 2 (qgCons (qgN 4) (qgCons (qgN 5) qgNil))))
  (qIf (qTru (qCB gIsiT (qCons (qVar 4) (qCons (qK (.ty "str")) qNil)))) (qSetIx 2 (qVar 5) (qVar 4)) (qIf (qB (qOp2 gNe (qOp2 gIx (qVar 4) (qK (.int 0))) (qOp2 gIx (qVar 5) (qK (.int 0))))) (qRet (qK .non)) (qOwn 3 (qOp2 gAdd (qVar 3) (qLc (qRng2 (qCons (qK (.int 1)) (qCons (qCB gLen (qCons (qVar 4) qNil)) qNil))) (qgN 6) qYes (qTup (qCons (qOp2 gIx (qVar 4) (qVar 6)) (qCons (qOp2 gIx (qVar 5) (qVar 6)) qNil))) [6])))))))
  (qRet (qVar 2)))))
theorem dv__law_taken {P : Program} {w : World} {K : PySem.W.Frag} {mg : Str → Option Value} {base : Heap} {k : Nat} (T : Txt K mg) (S : FS) (lp : S.io.length = 2)
    (rd : ∀ pvs : List PV, pvs.length = S.io.length → S.pre pvs → rd__law_taken (endsOf S pvs) (mk S.io pvs ++ uns 5)) : Has P w K mg base "_law_taken" (k + 1) ["patterns", "values"] S := by
  obtain ⟨f, fd, F, m⟩ := T.d__law_taken.ex
  refine ⟨f, fd, fn_p F sc__law_taken lp (t := rd__law_taken) (fun cdv A outer s H E hr => ?_) rd, m, F.kp, F.binds (ps := ["patterns", "values"]) fun _ _ _ _ _ _ us hl => match us, hl with | [_, _], _ => rfl, F.at⟩
  exact (qss_cons (qs_own 2 sc__law_taken.nd qe_dict0)
  (qss_cons (qs_ownLc 3 rfl sc__law_taken.nd (sw_true rfl rfl rfl (by decide +kernel)) (blkOk_by (N := N__law_taken) (sc := defScope s__law_taken) (own := [("k", 6)]) (by decide +kernel)) (qi_range1 T.z_range (qa_cons (qe_callB call_lenP T.z_len (qa_cons (qv 0) qa_nil)) qa_nil)) (fun _ => (qg_name 6 sc__law_taken.nd)) (fun _ => qcs_nil) (fun _ => (qe_tup (qa_cons (qe_ix ix_P (qv 0) (qv 6)) (qa_cons (qe_ix ix_P (qv 1) (qv 6)) qa_nil)))))
  (qss_cons (qs_while PassesOwn.never (qc_cmp op_gtP (qe_callB call_lenP T.z_len (qa_cons (qv 3) qa_nil)) qe_int) (qss_cons (qs_asg (qe_mut0 3 m_pop PySem.F.plainAttrs_list PySem.F.slot_list_pop PySem.F.type_list_pop) (qg_tup rfl (qgs_cons (qg_name 4 sc__law_taken.nd) (qgs_cons (qg_name 5 sc__law_taken.nd) qgs_nil))))
  (qss_one (qs_if (qc_tru (qe_callB call_isiPT T.z_isinstance (qa_cons (qv 4) (qa_cons (qe_ty T.z_str) qa_nil)))) (qss_one (qs_setIx (room65 hr) 2 (qv 5) (qv 4))) (qss_one (qs_if (qc_cmp (op_neP (room64 hr)) (qe_ix ix_P (qv 4) qe_int) (qe_ix ix_P (qv 5) qe_int)) (qss_one (qs_ret qe_non)) (qss_one (qs_own 3 sc__law_taken.nd (qe_op op_addP (qv 3) (qe_lc rfl sc__law_taken.nd (blkOk_by (N := N__law_taken) (sc := defScope s__law_taken) (own := [("k", 6)]) (by decide +kernel)) (qi_range2 T.z_range (qa_cons qe_int (qa_cons (qe_callB call_lenP T.z_len (qa_cons (qv 4) qa_nil)) qa_nil))) (fun _ => (qg_name 6 sc__law_taken.nd)) (fun _ => qcs_nil) (fun _ => (qe_tup (qa_cons (qe_ix ix_P (qv 4) (qv 6)) (qa_cons (qe_ix ix_P (qv 5) (qv 6)) qa_nil))))))))))))))
  (qss_one (qs_ret (qv 2))))))

/-! _law_value(state, deep)   owned: state -/
abbrev N__law_value : List Str := ["state", "deep", "kind"]
theorem sc__law_value : FnScope N__law_value ["state", "deep"] (defScope s__law_value) := ⟨rfl, rfl, rfl, by decide +kernel, rfl, by decide +kernel, by decide +kernel⟩
def rd__law_value (q__law_draw q__law_value : FS) : QTS := (qSeq (qSet 2 (qCall q__law_draw (qCons (qVar 0) (qCons (qK (.int 4)) qNil))))
  (qSeq (qIf (qOr (qB (qOp2 gEq (qVar 1) (qK (.int 0)))) (qB (qOp2 gEq (qVar 2) (qK (.int 0))))) (qRet (qTup (qCons (qK (.str (Str.ofString "K0"))) qNil))) qNext)
  (qSeq (qIf (qB (qOp2 gLt (qVar 2) (qK (.int 3)))) (qRet (qTup (qCons (qOp2 gIx (qLst (qCons (qK (.str (Str.ofString "K1"))) (qCons (qK (.str (Str.ofString "K3"))) qNil))) (qCall q__law_draw (qCons (qVar 0) (qCons (qK (.int 2)) qNil)))) (qCons (qCall q__law_value (qCons (qVar 0) (qCons (qOp2 gSub (qVar 1) (qK (.int 1))) qNil))) qNil)))) qNext)
  (qRet (qTup (qCons (qK (.str (Str.ofString "K2"))) (qCons (qCall q__law_value (qCons (qVar 0) (qCons (qOp2 gSub (qVar 1) (qK (.int 1))) qNil))) (qCons (qCall q__law_value (qCons (qVar 0) (qCons (qOp2 gSub (qVar 1) (qK (.int 1))) qNil))) qNil))))))))
theorem dv__law_value {P : Program} {w : World} {K : PySem.W.Frag} {mg : Str → Option Value} {base : Heap} {k : Nat} {q__law_draw q__law_value : FS} (T : Txt K mg) (h__law_draw : Has P w K mg base "_law_draw" k ["state", "many"] q__law_draw) (h__law_value : Has P w K mg base "_law_value" k ["state", "deep"] q__law_value) (S : FS) (lp : S.io.length = 2)
    (rd : ∀ pvs : List PV, pvs.length = S.io.length → S.pre pvs → rd__law_value q__law_draw q__law_value (endsOf S pvs) (mk S.io pvs ++ uns 1)) : Has P w K mg base "_law_value" (k + 1) ["state", "deep"] S := by
  obtain ⟨f, fd, F, m⟩ := T.d__law_value.ex
  refine ⟨f, fd, fn_p F sc__law_value lp (t := rd__law_value q__law_draw q__law_value) (fun cdv A outer s H E hr => ?_) rd, m, F.kp, F.binds (ps := ["state", "deep"]) fun _ _ _ _ _ _ us hl => match us, hl with | [_, _], _ => rfl, F.at⟩
  exact (qss_cons (qs_set 2 sc__law_value.nd (qe_callH h__law_draw hr (qa_cons (qv 0) (qa_cons qe_int qa_nil))))
  (qss_cons (qs_if (qw_or (qc_cmp (op_eqP (room64 hr)) (qv 1) qe_int) (qw_or1 (qc_cmp (op_eqP (room64 hr)) (qv 2) qe_int))).qc (qss_one (qs_ret (qe_tup (qa_cons qe_str qa_nil)))) qss_nil)
  (qss_cons (qs_if (qc_cmp op_ltP (qv 2) qe_int) (qss_one (qs_ret (qe_tup (qa_cons (qe_ix ix_P (qe_lst (qa_cons qe_str (qa_cons qe_str qa_nil))) (qe_callH h__law_draw hr (qa_cons (qv 0) (qa_cons qe_int qa_nil)))) (qa_cons (qe_callH h__law_value hr (qa_cons (qv 0) (qa_cons (qe_op op_subP (qv 1) qe_int) qa_nil))) qa_nil))))) qss_nil)
  (qss_one (qs_ret (qe_tup (qa_cons qe_str (qa_cons (qe_callH h__law_value hr (qa_cons (qv 0) (qa_cons (qe_op op_subP (qv 1) qe_int) qa_nil))) (qa_cons (qe_callH h__law_value hr (qa_cons (qv 0) (qa_cons (qe_op op_subP (qv 1) qe_int) qa_nil))) qa_nil)))))))))

/-! _law_like(state, pattern)   owned: state -/
abbrev N__law_like : List Str := ["state", "pattern", "part"]
theorem sc__law_like : FnScope N__law_like ["state", "pattern"] (defScope s__law_like) := ⟨rfl, rfl, rfl, by decide +kernel, rfl, by decide +kernel, by decide +kernel⟩
def rd__law_like (q__law_draw q__law_value q__law_like : FS) : QTS := (qSeq (qIf (qOr (qTru (qCB gIsiT (qCons (qVar 1) (qCons (qK (.ty "str")) qNil)))) (qB (qOp2 gEq (qCall q__law_draw (qCons (qVar 0) (qCons (qK (.int 12)) qNil))) (qK (.int 0))))) (qRet (qCall q__law_value (qCons (qVar 0) (qCons (qK (.int 3)) qNil)))) qNext)
  (qRet (qOp2 gAdd (qTup (qCons (qOp2 gIx (qVar 1) (qK (.int 0))) qNil)) (qCB gTuple (qCons (qLc (qIt (qSl gSl (qVar 1) (qPart (qK (.int 1))) qNo)) (qgN 2) qYes (qCall q__law_like (qCons (qVar 0) (qCons (qVar 2) qNil))) [2]) qNil)))))
theorem dv__law_like {P : Program} {w : World} {K : PySem.W.Frag} {mg : Str → Option Value} {base : Heap} {k : Nat} {q__law_draw q__law_value q__law_like : FS} (T : Txt K mg) (h__law_draw : Has P w K mg base "_law_draw" k ["state", "many"] q__law_draw) (h__law_value : Has P w K mg base "_law_value" k ["state", "deep"] q__law_value) (h__law_like : Has P w K mg base "_law_like" k ["state", "pattern"] q__law_like) (S : FS) (lp : S.io.length = 2)
    (rd : ∀ pvs : List PV, pvs.length = S.io.length → S.pre pvs → rd__law_like q__law_draw q__law_value q__law_like (endsOf S pvs) (mk S.io pvs ++ uns 1)) : Has P w K mg base "_law_like" (k + 1) ["state", "pattern"] S := by
  obtain ⟨f, fd, F, m⟩ := T.d__law_like.ex
  refine ⟨f, fd, fn_p F sc__law_like lp (t := rd__law_like q__law_draw q__law_value q__law_like) (fun cdv A outer s H E hr => ?_) rd, m, F.kp, F.binds (ps := ["state", "pattern"]) fun _ _ _ _ _ _ us hl => match us, hl with | [_, _], _ => rfl, F.at⟩
  exact (qss_cons (qs_if (qw_or (qc_tru (qe_callB call_isiPT T.z_isinstance (qa_cons (qv 1) (qa_cons (qe_ty T.z_str) qa_nil)))) (qw_or1 (qc_cmp (op_eqP (room64 hr)) (qe_callH h__law_draw hr (qa_cons (qv 0) (qa_cons qe_int qa_nil))) qe_int))).qc (qss_one (qs_ret (qe_callH h__law_value hr (qa_cons (qv 0) (qa_cons qe_int qa_nil))))) qss_nil)
  (qss_one (qs_ret (qe_op op_addP (qe_tup (qa_cons (qe_ix ix_P (qv 1) qe_int) qa_nil)) (qe_callTy call_tupleP T.z_tuple (qa_cons (qe_lc rfl sc__law_like.nd (blkOk_by (N := N__law_like) (sc := defScope s__law_like) (own := [("part", 2)]) (by decide +kernel)) (qi_seq (qe_slice sl_seq (qv 1) (qo_some qe_int) qo_none)) (fun _ => (qg_name 2 sc__law_like.nd)) (fun _ => qcs_nil) (fun _ => (qe_callH h__law_like hr (qa_cons (qv 0) (qa_cons (qv 2) qa_nil))))) qa_nil))))))

/-! _law_first(row, values) -/
abbrev N__law_first : List Str := ["row", "values", "k"]
theorem sc__law_first : FnScope N__law_first ["row", "values"] (defScope s__law_first) := ⟨rfl, rfl, rfl, by decide +kernel, rfl, by decide +kernel, by decide +kernel⟩
def rd__law_first (q__law_taken : FS) : QTS := (qSeq (qFor (qRng1 (qCons (qCB gLen (qCons (qOp2 gIx (qVar 0) (qK (.int 5))) qNil)) qNil)) (qgN 2) (qIf (qB (qOp2 gIsNot (qCall q__law_taken (qCons (qOp2 gIx (qOp2 gIx (qOp2 gIx (qVar 0) (qK (.int 5))) (qVar 2)) (qK (.int 0))) (qCons (qVar 1) qNil))) (qK .non))) (qRet (qVar 2)) qNext))
  (qRet (qNeg (qK (.int 1)))))
theorem dv__law_first {P : Program} {w : World} {K : PySem.W.Frag} {mg : Str → Option Value} {base : Heap} {k : Nat} {q__law_taken : FS} (T : Txt K mg) (h__law_taken : Has P w K mg base "_law_taken" k ["patterns", "values"] q__law_taken) (S : FS) (lp : S.io.length = 2)
    (rd : ∀ pvs : List PV, pvs.length = S.io.length → S.pre pvs → rd__law_first q__law_taken (endsOf S pvs) (mk S.io pvs ++ uns 1)) : Has P w K mg base "_law_first" (k + 1) ["row", "values"] S := by
  obtain ⟨f, fd, F, m⟩ := T.d__law_first.ex
  refine ⟨f, fd, fn_p F sc__law_first lp (t := rd__law_first q__law_taken) (fun cdv A outer s H E hr => ?_) rd, m, F.kp, F.binds (ps := ["row", "values"]) fun _ _ _ _ _ _ us hl => match us, hl with | [_, _], _ => rfl, F.at⟩
  exact (qss_cons (qs_for PassesOwn.never rfl (qi_range1 T.z_range (qa_cons (qe_callB call_lenP T.z_len (qa_cons (qe_ix ix_P (qv 0) qe_int) qa_nil)) qa_nil)) (qg_name 2 sc__law_first.nd) (qss_one (qs_if (qc_cmp op_isNotP (qe_callH h__law_taken hr (qa_cons (qe_ix ix_P (qe_ix ix_P (qe_ix ix_P (qv 0) qe_int) (qv 2)) qe_int) (qa_cons (qv 1) qa_nil))) qe_non) (qss_one (qs_ret (qv 2))) qss_nil)))
  (qss_one (qs_ret (qe_neg qe_int))))

/-! _law_function_right(state, program, row)   owned: state -/
abbrev N__law_function_right : List Str := ["state", "program", "row", "values", "patterns", "body", "param", "pattern"]
theorem sc__law_function_right : FnScope N__law_function_right ["state", "program", "row"] (defScope s__law_function_right) := ⟨rfl, rfl, rfl, by decide +kernel, rfl, by decide +kernel, by decide +kernel⟩
def rd__law_function_right (q_calls_of q__law_next q_function_of q_group_of q__law_group q__law_value q__law_draw q__law_like q_taken q__law_taken q_names_in q__law_names q_clause_for q__law_first : FS) : QTS := (qSeq (qIf (qB (qOp2 gNe (qCall q_calls_of (qCons (qVar 1) (qCons (qOp2 gIx (qVar 2) (qK (.int 0))) qNil))) (qCB gTuple (qCons (qCB gSortSet (qCons (qCall q__law_next (qCons (qVar 1) (qCons (qOp2 gIx (qVar 2) (qK (.int 0))) qNil))) qNil)) qNil)))) (qRet (qK (.bl false))) qNext)
  (qSeq (qIf (qOr (qB (qOp2 gNe (qCall q_group_of (qCons (qVar 1) (qCons (qOp2 gIx (qVar 2) (qK (.int 0))) qNil))) (qCB gTuple (qCons (qCall q__law_group (qCons (qVar 1) (qCons (qOp2 gIx (qVar 2) (qK (.int 0))) qNil))) qNil)))) (qB (qOp2 gNe (qCall q_function_of (qCons (qVar 1) (qCons (qOp2 gIx (qVar 2) (qK (.int 0))) qNil))) (qVar 2)))) (qRet (qK (.bl false))) qNext)
  (qSeq (qSet 3 (qCB gTuple (qCons (qLc (qIt (qOp2 gIx (qVar 2) (qK (.int 1)))) (qgN 6) qYes (qCall q__law_value (qCons (qVar 0) (qCons (qK (.int 3)) qNil))) [6]) qNil)))
  (qSeq (qFor (qIt (qOp2 gIx (qVar 2) (qK (.int 5)))) (qgT 2 (qgCons (qgN 4) (qgCons (qgN 5) qgNil))) (qSeq (qIf (qB (qOp2 gGt (qCall q__law_draw (qCons (qVar 0) (qCons (qK (.int 3)) qNil))) (qK (.int 0)))) (qSet 3 (qCB gTuple (qCons (qLc (qIt (qVar 4)) (qgN 7) qYes (qCall q__law_like (qCons (qVar 0) (qCons (qVar 7) qNil))) [7]) qNil))) qNext)
  (qSeq (qIf (qB (qOp2 gNeX (qCall q_taken (qCons (qVar 4) (qCons (qVar 3) qNil))) (qCall q__law_taken (qCons (qVar 4) (qCons (qVar 3) qNil))))) (qRet (qK (.bl false))) qNext)
  (qIf (qB (qOp2 gNe (qLc (qIt (qVar 4)) (qgN 7) qYes (qCall q_names_in (qCons (qVar 7) qNil)) [7]) (qLc (qIt (qVar 4)) (qgN 7) qYes (qCB gTuple (qCons (qCall q__law_names (qCons (qVar 7) qNil)) qNil)) [7]))) (qRet (qK (.bl false))) qNext))))
  (qRet (qOp2 gEq (qCall q_clause_for (qCons (qVar 2) (qCons (qVar 3) qNil))) (qCall q__law_first (qCons (qVar 2) (qCons (qVar 3) qNil)))))))))
theorem dv__law_function_right {P : Program} {w : World} {K : PySem.W.Frag} {mg : Str → Option Value} {base : Heap} {k : Nat} {q_calls_of q__law_next q_function_of q_group_of q__law_group q__law_value q__law_draw q__law_like q_taken q__law_taken q_names_in q__law_names q_clause_for q__law_first : FS} (T : Txt K mg) (h_calls_of : Has P w K mg base "calls_of" k ["program", "word"] q_calls_of) (h__law_next : Has P w K mg base "_law_next" k ["program", "word"] q__law_next) (h_function_of : Has P w K mg base "function_of" k ["program", "word"] q_function_of) (h_group_of : Has P w K mg base "group_of" k ["program", "word"] q_group_of) (h__law_group : Has P w K mg base "_law_group" k ["program", "word"] q__law_group) (h__law_value : Has P w K mg base "_law_value" k ["state", "deep"] q__law_value) (h__law_draw : Has P w K mg base "_law_draw" k ["state", "many"] q__law_draw) (h__law_like : Has P w K mg base "_law_like" k ["state", "pattern"] q__law_like) (h_taken : Has P w K mg base "taken" k ["patterns", "values"] q_taken) (h__law_taken : Has P w K mg base "_law_taken" k ["patterns", "values"] q__law_taken) (h_names_in : Has P w K mg base "names_in" k ["pattern"] q_names_in) (h__law_names : Has P w K mg base "_law_names" k ["term"] q__law_names) (h_clause_for : Has P w K mg base "clause_for" k ["function", "values"] q_clause_for) (h__law_first : Has P w K mg base "_law_first" k ["row", "values"] q__law_first) (S : FS) (lp : S.io.length = 3)
    (rd : ∀ pvs : List PV, pvs.length = S.io.length → S.pre pvs → rd__law_function_right q_calls_of q__law_next q_function_of q_group_of q__law_group q__law_value q__law_draw q__law_like q_taken q__law_taken q_names_in q__law_names q_clause_for q__law_first (endsOf S pvs) (mk S.io pvs ++ uns 5)) : Has P w K mg base "_law_function_right" (k + 1) ["state", "program", "row"] S := by
  obtain ⟨f, fd, F, m⟩ := T.d__law_function_right.ex
  refine ⟨f, fd, fn_p F sc__law_function_right lp (t := rd__law_function_right q_calls_of q__law_next q_function_of q_group_of q__law_group q__law_value q__law_draw q__law_like q_taken q__law_taken q_names_in q__law_names q_clause_for q__law_first) (fun cdv A outer s H E hr => ?_) rd, m, F.kp, F.binds (ps := ["state", "program", "row"]) fun _ _ _ _ _ _ us hl => match us, hl with | [_, _, _], _ => rfl, F.at⟩
  exact (qss_cons (qs_if (qc_cmp (op_neP (room64 hr)) (qe_callH h_calls_of hr (qa_cons (qv 1) (qa_cons (qe_ix ix_P (qv 2) qe_int) qa_nil))) (qe_callTy call_tupleP T.z_tuple (qa_cons (qe_sortSet rfl T.z_sorted T.z_set (qa_cons (qe_callH h__law_next hr (qa_cons (qv 1) (qa_cons (qe_ix ix_P (qv 2) qe_int) qa_nil))) qa_nil)) qa_nil))) (qss_one (qs_ret qe_bl)) qss_nil)
  (qss_cons (qs_if (qw_or (qc_cmp (op_neP (room64 hr)) (qe_callH h_group_of hr (qa_cons (qv 1) (qa_cons (qe_ix ix_P (qv 2) qe_int) qa_nil))) (qe_callTy call_tupleP T.z_tuple (qa_cons (qe_callH h__law_group hr (qa_cons (qv 1) (qa_cons (qe_ix ix_P (qv 2) qe_int) qa_nil))) qa_nil))) (qw_or1 (qc_cmp (op_neP (room64 hr)) (qe_callH h_function_of hr (qa_cons (qv 1) (qa_cons (qe_ix ix_P (qv 2) qe_int) qa_nil))) (qv 2)))).qc (qss_one (qs_ret qe_bl)) qss_nil)
  (qss_cons (qs_set 3 sc__law_function_right.nd (qe_callTy call_tupleP T.z_tuple (qa_cons (qe_lc rfl sc__law_function_right.nd (blkOk_by (N := N__law_function_right) (sc := defScope s__law_function_right) (own := [("param", 6)]) (by decide +kernel)) (qi_seq (qe_ix ix_P (qv 2) qe_int)) (fun _ => (qg_name 6 sc__law_function_right.nd)) (fun _ => qcs_nil) (fun _ => (qe_callH h__law_value hr (qa_cons (qv 0) (qa_cons qe_int qa_nil))))) qa_nil)))
  (qss_cons (qs_for PassesOwn.never rfl (qi_seq (qe_ix ix_P (qv 2) qe_int)) (qg_tup rfl (qgs_cons (qg_name 4 sc__law_function_right.nd) (qgs_cons (qg_name 5 sc__law_function_right.nd) qgs_nil))) (qss_cons (qs_if (qc_cmp op_gtP (qe_callH h__law_draw hr (qa_cons (qv 0) (qa_cons qe_int qa_nil))) qe_int) (qss_one (qs_set 3 sc__law_function_right.nd (qe_callTy call_tupleP T.z_tuple (qa_cons (qe_lc rfl sc__law_function_right.nd (blkOk_by (N := N__law_function_right) (sc := defScope s__law_function_right) (own := [("pattern", 7)]) (by decide +kernel)) (qi_seq (qv 4)) (fun _ => (qg_name 7 sc__law_function_right.nd)) (fun _ => qcs_nil) (fun _ => (qe_callH h__law_like hr (qa_cons (qv 0) (qa_cons (qv 7) qa_nil))))) qa_nil)))) qss_nil)
  (qss_cons (qs_if (qc_cmp (op_neX (room191 hr)) (qe_callH h_taken hr (qa_cons (qv 4) (qa_cons (qv 3) qa_nil))) (qe_callH h__law_taken hr (qa_cons (qv 4) (qa_cons (qv 3) qa_nil)))) (qss_one (qs_ret qe_bl)) qss_nil)
  (qss_one (qs_if (qc_cmp (op_neP (room64 hr)) (qe_lc rfl sc__law_function_right.nd (blkOk_by (N := N__law_function_right) (sc := defScope s__law_function_right) (own := [("pattern", 7)]) (by decide +kernel)) (qi_seq (qv 4)) (fun _ => (qg_name 7 sc__law_function_right.nd)) (fun _ => qcs_nil) (fun _ => (qe_callH h_names_in hr (qa_cons (qv 7) qa_nil)))) (qe_lc rfl sc__law_function_right.nd (blkOk_by (N := N__law_function_right) (sc := defScope s__law_function_right) (own := [("pattern", 7)]) (by decide +kernel)) (qi_seq (qv 4)) (fun _ => (qg_name 7 sc__law_function_right.nd)) (fun _ => qcs_nil) (fun _ => (qe_callTy call_tupleP T.z_tuple (qa_cons (qe_callH h__law_names hr (qa_cons (qv 7) qa_nil)) qa_nil))))) (qss_one (qs_ret qe_bl)) qss_nil)))))
  (qss_one (qs_ret (qe_cmp (op_eqP (room64 hr)) (qe_callH h_clause_for hr (qa_cons (qv 2) (qa_cons (qv 3) qa_nil))) (qe_callH h__law_first hr (qa_cons (qv 2) (qa_cons (qv 3) qa_nil))))))))))

/-! law(script)   owned: state -/
abbrev N_law : List Str := ["script", "state", "turn", "program", "row"]
theorem sc_law : FnScope N_law ["script"] (defScope s_law) := ⟨rfl, rfl, rfl, by decide +kernel, rfl, by decide +kernel, by decide +kernel⟩
def rd_law (q__law_state q__law_graph_program q__law_function_right q_function_of : FS) : QTS := (qSeq (qFor (qRng1 (qCons (qK (.int 4)) qNil)) (qgN 2) (qSeq (qSet 3 (qCall q__law_graph_program (qCons (qVar 1) qNil)))
  (qSeq (qFor (qIt (qOp2 gIx (qVar 3) (qK (.int 1)))) (qgN 4) (qIf (qNot (qTru (qCall q__law_function_right (qCons (qVar 1) (qCons (qVar 3) (qCons (qVar 4) qNil)))))) (qRet (qK (.bl false))) qNext))
  (qIf (qB (qOp2 gIsNot (qCall q_function_of (qCons (qVar 3) (qCons (qK (.str (Str.ofString "other"))) qNil))) (qK .non))) (qRet (qK (.bl false))) qNext))))
  (qRet (qK (.bl true))))
def rd_law1 (q__law_state q__law_graph_program q__law_function_right q_function_of : FS) : QTS := (qOwn 1 (qCall q__law_state (qCons (qVar 0) qNil)))
theorem dv_law {P : Program} {w : World} {K : PySem.W.Frag} {mg : Str → Option Value} {base : Heap} {k : Nat} {q__law_state q__law_graph_program q__law_function_right q_function_of : FS} (h__law_state : Has P w K mg base "_law_state" k ["script"] q__law_state) (h__law_graph_program : Has P w K mg base "_law_graph_program" k ["state"] q__law_graph_program) (h__law_function_right : Has P w K mg base "_law_function_right" k ["state", "program", "row"] q__law_function_right) (h_function_of : Has P w K mg base "function_of" k ["program", "word"] q_function_of) (T : Txt K mg)
    (rd : ∀ ns : List Int, ns.length ≤ 63 → rd_law1 q__law_state q__law_graph_program q__law_function_right q_function_of (stEnds 1 (rd_law q__law_state q__law_graph_program q__law_function_right q_function_of)) (.val (.scr ns) :: uns 4)) : HasL P w K mg base "law" (k + 1) ["script"] := by
  obtain ⟨f, fd, F, m⟩ := T.d_law.ex
  refine ⟨f, fd, fn_law F sc_law rfl 1 rfl (t1 := rd_law1 q__law_state q__law_graph_program q__law_function_right q_function_of) (t2 := rd_law q__law_state q__law_graph_program q__law_function_right q_function_of) (fun cdv A outer s H E hr => ⟨?_, ?_⟩) rd, m, F.kp, F.binds (ps := ["script"]) fun _ _ _ _ _ _ us hl => match us, hl with | [_], _ => rfl, F.at⟩
  · exact (qs_own 1 sc_law.nd (qe_callH h__law_state hr (qa_cons (qv 0) qa_nil)))
  · exact (qss_cons (qs_for PassesOwn.never rfl (qi_range1 T.z_range (qa_cons qe_int qa_nil)) (qg_name 2 sc_law.nd) (qss_cons (qs_set 3 sc_law.nd (qe_callH h__law_graph_program hr (qa_cons (qv 1) qa_nil)))
  (qss_cons (qs_for PassesOwn.never rfl (qi_seq (qe_ix ix_P (qv 3) qe_int)) (qg_name 4 sc_law.nd) (qss_one (qs_if (qc_not (qc_tru (qe_callH h__law_function_right hr (qa_cons (qv 1) (qa_cons (qv 3) (qa_cons (qv 4) qa_nil)))))) (qss_one (qs_ret qe_bl)) qss_nil)))
  (qss_one (qs_if (qc_cmp op_isNotP (qe_callH h_function_of hr (qa_cons (qv 3) (qa_cons qe_str qa_nil))) qe_non) (qss_one (qs_ret qe_bl)) qss_nil)))))
  (qss_one (qs_ret qe_bl)))

end Lw
set_option maxHeartbeats 4000000
namespace Lw
open PySem L2 PyProof.Rows Px
local macro_rules | `(tactic| walk_at "px") => `(tactic| simp -dsimp only [qVar, qK, qNil, qCons, qTup, qLst, vals, looks, R.look, R.wk, qCB, qB, qOp2, qTru, truG, qAnd, qOr, qNot, qAndV, qOrV, qNotV, qIfE, qNo, qPart, qSl, gSl, qIt, qRng1, qRng2, qgN, qgNil, qgCons, qgT, notIo_zero, notIo_succ, notIo_nil', slOk_un, slOk_val, slOk_own, slOk_pl, slOk_pd, notIos_nil, notIos_cons, qYes, qLc, qNext, qSeq, qBreak, qCont, qFrz, frz, qDrop, retG, qRet, qRetN, qIf, qSet, qOwn, qAsg, qFor, qMut, ownTy, gAppend, gExtend, gPop, isOwn, qSetIx, qCall, splitArgs, putOuts, setOwn, finOk, endsOf, mk, outsOf, uns,
  gAdd, gInt, gInt0, gEq, gNe, gIn, gNotIn, gIs, gIsNot, Px.isNon, gIx, getP, gLen, gAbs, gIntC, gSum, gMax, gMax2, gMax3, gMinT, gAll, gAny, gList, gTuple, gIsi, qNeg, qDict0, wipeE, lcGo_nil, br_t, br_f, atI_0, atI_1, atI_2, atI_3, ixN_0, ixN_1, ixN_2, ixN_3, List.length_map, List.length_set, cut_from1, isTy, tyN, gIsiT, asTys, gListD, keyP, isDic, qGet1, qGet2, qLZ, gZip, qPairs, mergeP, qDisp, gDictC, gStr, qChain, qPar, qAug, qMeth, tyIs, gIndex, qLcK, qDc, qDcK, dicAt, qForK, qZipI, qCallB, qCallF, splitB, qTake, tkEnds, tkRt, tkBack, Px.isN, isNst, gIxN, gPop0, gInsert, qSetSeed, qStep, qPar3, qLcO, lcoK, stEnds, stGo, immS, Px.imm, endsLaw, Option.isSome_some, Option.isSome_none, isEmp_concat, List.getLast?_concat, List.dropLast_concat, List.isEmpty_nil, gEqX, gNeX, qEnumI, enumP, gSortSet, gLenSet, qSortSc, asStrs, List.any_cons, List.any_nil, tyOk_str, tyOk_tuple, tyOk_int, tyOk_bool, tyOk_list, tyOk_dict, Option.map_some, Option.map_none,
  eqOk_str, eqOk_int, eqOk_bl, eqOk_non, eqOkW_str, eqOkW_int, eqOkW_bl, eqOkW_non, gEqW, gNeW, qVals, ownDic, qLc2, gLtX, gGtX, gSortX, peq_str, peq_int, peq_bl, List.getElem?_cons_zero, List.getElem?_cons_succ, List.getElem?_nil, List.set_cons_zero, List.set_cons_succ, List.zipWith_cons_cons, List.zipWith_nil_left, List.replicate_succ, List.replicate_zero, List.cons_append, List.nil_append, List.length_cons, List.length_nil, List.map_cons, List.map_nil, ↓reduceIte, Bool.false_eq_true, and_true, true_and, Bool.not_true, Bool.not_false, Nat.reduceAdd, Nat.reduceLT, Nat.reduceLeDiff, Nat.zero_lt_succ, Nat.lt_add_one, ne_eq, not_true_eq_false, not_false_eq_true, String.reduceEq, String.reduceBEq, Bool.or_false, Bool.false_or, Bool.or_true, Bool.true_or, Bool.and_false, Bool.and_true, Bool.false_and, Bool.true_and, reduceCtorEq])
mutual
/-- data that isinstance may be asked of -/
def good : PV → Bool
  | .tup ps => goods ps
  | .lst ps => goods ps
  | .scr _ => false
  | .nst _ _ _ => false
  | .ty _ => false
  | .non => true
  | .bl _ => true
  | .int _ => true
  | .str _ => true
  | .dic _ _ => true
def goods : List PV → Bool
  | [] => true
  | p :: ps => good p && goods ps
end
mutual
/-- how many places data has -/
def psz : PV → Nat
  | .tup ps => pszs ps + 1
  | .lst ps => pszs ps + 1
  | .scr _ => 1
  | .nst _ _ _ => 1
  | .ty _ => 1
  | .non => 1
  | .bl _ => 1
  | .int _ => 1
  | .str _ => 1
  | .dic _ _ => 1
def pszs : List PV → Nat
  | [] => 0
  | p :: ps => psz p + pszs ps
end
theorem psz_pos (p : PV) : 0 < psz p := by cases p <;> simp [psz]
theorem pszs_append : ∀ ps qs : List PV, pszs (ps ++ qs) = pszs ps + pszs qs
  | [], qs => by simp [pszs]
  | p :: ps, qs => by simp [pszs, pszs_append ps qs]; omega
theorem goods_append : ∀ ps qs : List PV, goods (ps ++ qs) = (goods ps && goods qs)
  | [], qs => by simp [goods]
  | p :: ps, qs => by simp [goods, goods_append ps qs, Bool.and_assoc]
theorem good_ty {p : PV} (h : good p = true) : tyN p ≠ "" := by cases p <;> first | (simp [good] at h; done) | simp [tyN]
mutual
/-- the shape of a term -/
def tsh : PV → Bool
  | .str _ => true
  | .tup [] => false
  | .tup (p :: ps) => (match p with
    | .str _ => true
    | _ => false) && tshs ps
  | .lst _ => false
  | .scr _ => false
  | .nst _ _ _ => false
  | .ty _ => false
  | .non => false
  | .bl _ => false
  | .int _ => false
  | .dic _ _ => false
def tshs : List PV → Bool
  | [] => true
  | p :: ps => tsh p && tshs ps
end
theorem tsh_cases {p : PV} (h : tsh p = true) : (∃ s, p = .str s) ∨ ∃ v ps, p = .tup (.str v :: ps) ∧ tshs ps = true := by
  cases p with
  | str s => exact .inl ⟨s, rfl⟩
  | tup ps =>
    cases ps with
    | nil => simp [tsh] at h
    | cons q ps =>
      cases q with
      | str v => exact .inr ⟨v, ps, rfl, by rw [tsh] at h; simpa using h⟩
      | _ => simp [tsh] at h
  | _ => simp [tsh] at h
theorem tshs_mem {ps : List PV} (h : tshs ps = true) : ∀ p ∈ ps, tsh p = true := by
  induction ps with
  | nil => intro p hp; cases hp
  | cons q ps ih =>
    rw [tshs, Bool.and_eq_true] at h
    intro p hp
    rcases List.mem_cons.mp hp with rfl | hp
    · exact h.1
    · exact ih h.2 p hp
theorem dep_mem {ps : List PV} : ∀ p ∈ ps, dep p ≤ deps ps := by
  induction ps with
  | nil => intro p hp; cases hp
  | cons q ps ih =>
    intro p hp
    rw [deps]
    rcases List.mem_cons.mp hp with rfl | hp
    · omega
    · have := ih p hp; omega
theorem psz_mem {ps : List PV} : ∀ p ∈ ps, psz p ≤ pszs ps := by
  induction ps with
  | nil => intro p hp; cases hp
  | cons q ps ih =>
    intro p hp
    rw [pszs]
    rcases List.mem_cons.mp hp with rfl | hp
    · omega
    · have := ih p hp; omega
theorem len_pszs : ∀ xs : List PV, xs.length ≤ pszs xs
  | [] => by simp
  | x :: xs => by have := psz_pos x; have := len_pszs xs; simp only [List.length_cons, pszs]; omega
theorem plains_strs : ∀ ss : List Str, plains (ss.map PV.str) = true
  | [] => rfl
  | s :: ss => by simp [plains, Px.plain, plains_strs ss]
theorem deps_strs : ∀ ss : List Str, deps (ss.map PV.str) = 0
  | [] => rfl
  | s :: ss => by simp [deps, dep, deps_strs ss]
theorem eqOk_strs (ss : List Str) : eqOk (.lst (ss.map PV.str)) := ⟨by rw [Px.plain]; exact plains_strs ss, by rw [dep, deps_strs]; decide⟩
theorem memP_strs (s : Str) : ∀ ss : List Str, memP (.str s) (ss.map PV.str) = ss.contains s
  | [] => rfl
  | t :: ss => by
    have ih := memP_strs s ss
    unfold memP at ih ⊢
    rw [List.map_cons, List.any_cons, ih, peq_str, List.contains_cons, Bool.eq_iff_iff]
    simp only [Bool.or_eq_true, beq_iff_eq]
    constructor
    · rintro (h | h)
      · exact .inl h.symm
      · exact .inr h
    · rintro (h | h)
      · exact .inl h.symm
      · exact .inr h
theorem peqs_strs : ∀ as bs : List Str, peqs (as.map PV.str) (bs.map PV.str) = (as == bs)
  | [], [] => rfl
  | [], _ :: _ => rfl
  | _ :: _, [] => rfl
  | a :: as, b :: bs => by
    rw [List.map_cons, List.map_cons, peqs_cons, peq_str, peqs_strs as bs]
    rfl
mutual
theorem tsh_good : ∀ p : PV, tsh p = true → good p = true
  | .str _, _ => by rw [good]
  | .tup [], h => by simp [tsh] at h
  | .tup (p :: ps), h => by
    cases p with
    | str v =>
      rw [tsh, Bool.true_and] at h
      rw [good, goods, good, tshs_goods ps h]; rfl
    | _ => simp [tsh] at h
  | .lst _, h => by simp [tsh] at h
  | .scr _, h => by simp [tsh] at h
  | .nst _ _ _, h => by simp [tsh] at h
  | .ty _, h => by simp [tsh] at h
  | .non, h => by simp [tsh] at h
  | .bl _, h => by simp [tsh] at h
  | .int _, h => by simp [tsh] at h
  | .dic _ _, h => by simp [tsh] at h
theorem tshs_goods : ∀ ps : List PV, tshs ps = true → goods ps = true
  | [], _ => by rw [goods]
  | p :: ps, h => by
    rw [tshs, Bool.and_eq_true] at h
    rw [goods, tsh_good p h.1, tshs_goods ps h.2]; rfl
end
theorem goods_iff : ∀ ps : List PV, goods ps = true ↔ ∀ p ∈ ps, good p = true
  | [] => by simp [goods]
  | p :: ps => by simp [goods, goods_iff ps]
theorem deps_le {n : Nat} : ∀ ps : List PV, deps ps ≤ n ↔ ∀ p ∈ ps, dep p ≤ n
  | [] => by simp [deps]
  | p :: ps => by
    rw [deps, List.forall_mem_cons, ← deps_le ps]; omega
theorem deps_append (as bs : List PV) : deps (as ++ bs) = max (deps as) (deps bs) := by
  induction as with
  | nil => simp [deps]
  | cons a as ih => rw [List.cons_append, deps, deps, ih]; omega
theorem cut_sub {α : Type} (xs : List α) (lo hi : Option Int) : (cutP xs lo hi).Sublist xs := (List.take_sublist _ _).trans (List.drop_sublist _ _)
theorem pszs_sub {as bs : List PV} (h : as.Sublist bs) : pszs as ≤ pszs bs := by
  induction h with
  | slnil => exact Nat.le_refl _
  | cons a _ ih => rw [pszs]; omega
  | cons_cons a _ ih => rw [pszs, pszs]; omega
theorem deps_sub {as bs : List PV} (h : as.Sublist bs) : deps as ≤ deps bs := (deps_le as).mpr fun p hp => dep_mem p (h.subset hp)
theorem goods_sub {as bs : List PV} (h : as.Sublist bs) (g : goods bs = true) : goods as = true := (goods_iff as).mpr fun p hp => (goods_iff bs).mp g p (h.subset hp)
theorem getLast_split {α : Type} {xs : List α} {x : α} (h : xs.getLast? = some x) : xs = xs.dropLast ++ [x] := by
  have ne : xs ≠ [] := fun e => by rw [e] at h; cases h
  have := List.dropLast_concat_getLast ne
  rw [List.getLast?_eq_some_getLast ne] at h
  cases h
  exact this.symm
def big : Nat → Nat
  | 0 => 2
  | n + 1 => 2 * big n + 2
theorem big_pos : ∀ n : Nat, 2 ≤ big n
  | 0 => by simp [big]
  | n + 1 => by rw [big]; have := big_pos n; omega
theorem pszs_le {n : Nat} : ∀ ps : List PV, (∀ p ∈ ps, psz p ≤ n) → pszs ps ≤ ps.length * n
  | [], _ => by simp [pszs]
  | p :: ps, h => by
    have h1 := h p List.mem_cons_self
    have h2 := pszs_le ps fun q hq => h q (List.mem_cons_of_mem _ hq)
    rw [pszs, List.length_cons, Nat.succ_mul]; omega
theorem tshs_all : ∀ ps : List PV, (∀ p ∈ ps, tsh p = true) → tshs ps = true
  | [], _ => by rw [tshs]
  | p :: ps, h => by
    rw [tshs, h p List.mem_cons_self, tshs_all ps fun q hq => h q (List.mem_cons_of_mem _ hq)]; rfl
theorem big_mono {a b : Nat} (h : a ≤ b) : big a ≤ big b := by
  induction h with
  | refl => exact Nat.le_refl _
  | step _ ih => rw [big]; omega
mutual
theorem tsh_imm : ∀ p : PV, tsh p = true → Px.imm p = true
  | .str _, _ => by rw [Px.imm]
  | .tup [], h => by simp [tsh] at h
  | .tup (p :: ps), h => by
    cases p with
    | str v =>
      rw [tsh, Bool.true_and] at h
      rw [Px.imm, imms, Px.imm, tshs_imms ps h]; rfl
    | _ => simp [tsh] at h
  | .lst _, h => by simp [tsh] at h
  | .scr _, h => by simp [tsh] at h
  | .nst _ _ _, h => by simp [tsh] at h
  | .ty _, h => by simp [tsh] at h
  | .non, h => by simp [tsh] at h
  | .bl _, h => by simp [tsh] at h
  | .int _, h => by simp [tsh] at h
  | .dic _ _, h => by simp [tsh] at h
theorem tshs_imms : ∀ ps : List PV, tshs ps = true → imms ps = true
  | [], _ => by rw [imms]
  | p :: ps, h => by
    rw [tshs, Bool.and_eq_true] at h
    rw [imms, tsh_imm p h.1, tshs_imms ps h.2]; rfl
end
mutual
theorem tsh_plain : ∀ p : PV, tsh p = true → Px.plain p = true
  | .str _, _ => by rw [Px.plain]
  | .tup [], h => by simp [tsh] at h
  | .tup (p :: ps), h => by
    cases p with
    | str v =>
      rw [tsh, Bool.true_and] at h
      rw [Px.plain, plains, Px.plain, tshs_plains ps h]; rfl
    | _ => simp [tsh] at h
  | .lst _, h => by simp [tsh] at h
  | .scr _, h => by simp [tsh] at h
  | .nst _ _ _, h => by simp [tsh] at h
  | .ty _, h => by simp [tsh] at h
  | .non, h => by simp [tsh] at h
  | .bl _, h => by simp [tsh] at h
  | .int _, h => by simp [tsh] at h
  | .dic _ _, h => by simp [tsh] at h
theorem tshs_plains : ∀ ps : List PV, tshs ps = true → plains ps = true
  | [], _ => by rw [plains]
  | p :: ps, h => by
    rw [tshs, Bool.and_eq_true] at h
    rw [plains, tsh_plain p h.1, tshs_plains ps h.2]; rfl
end
theorem tsh_eqOk {p : PV} (h : tsh p = true) (d : dep p ≤ 64) : eqOk p := ⟨tsh_plain p h, d⟩
mutual
/-- == of terms -/
theorem peq_tsh : ∀ p q : PV, tsh p = true → tsh q = true → (peq p q = true ↔ p = q)
  | .str a, q, _, hq => by
    rcases tsh_cases hq with ⟨s, rfl⟩ | ⟨v, qs, rfl, _⟩
    · rw [peq_str]; simp
    · exact ⟨fun h => (by cases h), fun h => (by cases h)⟩
  | .tup [], _, h, _ => by simp [tsh] at h
  | .tup (p :: ps), q, h, hq => by
    cases p with
    | str a =>
      rw [tsh, Bool.true_and] at h
      rcases tsh_cases hq with ⟨s, rfl⟩ | ⟨v, qs, rfl, hqs⟩
      · exact ⟨fun h => (by cases h), fun h => (by cases h)⟩
      · rw [peq_tup, peqs_cons, peq_str, Bool.and_eq_true, beq_iff_eq, peqs_tshs ps qs h hqs]
        constructor
        · rintro ⟨rfl, rfl⟩; rfl
        · intro e; cases e; exact ⟨rfl, rfl⟩
    | _ => simp [tsh] at h
  | .lst _, _, h, _ => by simp [tsh] at h
  | .scr _, _, h, _ => by simp [tsh] at h
  | .nst _ _ _, _, h, _ => by simp [tsh] at h
  | .ty _, _, h, _ => by simp [tsh] at h
  | .non, _, h, _ => by simp [tsh] at h
  | .bl _, _, h, _ => by simp [tsh] at h
  | .int _, _, h, _ => by simp [tsh] at h
  | .dic _ _, _, h, _ => by simp [tsh] at h
theorem peqs_tshs : ∀ ps qs : List PV, tshs ps = true → tshs qs = true → (peqs ps qs = true ↔ ps = qs)
  | [], [], _, _ => ⟨fun _ => rfl, fun _ => rfl⟩
  | [], q :: qs, _, _ => ⟨fun h => (by cases h), fun h => (by cases h)⟩
  | p :: ps, [], _, _ => ⟨fun h => (by cases h), fun h => (by cases h)⟩
  | p :: ps, q :: qs, h, h' => by
    rw [tshs, Bool.and_eq_true] at h h'
    rw [peqs_cons, Bool.and_eq_true, peq_tsh p q h.1 h'.1, peqs_tshs ps qs h.2 h'.2]
    constructor
    · rintro ⟨rfl, rfl⟩; rfl
    · intro e; cases e; exact ⟨rfl, rfl⟩
end
/-! ### dicts with texts for keys -/
abbrev As := List (Str × PV)
def dKs (d : As) : List Key := d.map fun e => Sum.inr e.1
def dPs (d : As) : List PV := d.map (·.2)
def encD (d : As) : PV := .dic (dKs d) (dPs d)
def look : As → Str → Option PV
  | [], _ => none
  | (k, v) :: d, s => if k = s then some v else look d s
theorem getD_enc : ∀ (d : As) (s : Str), getD (dKs d) (dPs d) (.inr s) = look d s
  | [], s => rfl
  | (k, v) :: d, s => by
    show (if (Sum.inr k : Key) = Sum.inr s then some v else getD (dKs d) (dPs d) (.inr s)) = if k = s then some v else look d s
    rw [getD_enc d s]
    by_cases e : k = s
    · rw [if_pos e, if_pos (by rw [e])]
    · rw [if_neg e, if_neg (fun z => e (Sum.inr.inj z))]
def putD (d : As) (s : Str) (v : PV) : As := if (look d s).isSome = true then d.map fun e => if e.1 = s then (e.1, v) else e else d ++ [(s, v)]
theorem hasK_enc : ∀ (d : As) (s : Str), hasK (dKs d) (.inr s) = (look d s).isSome
  | [], s => rfl
  | (k, v) :: d, s => by
    show (decide ((Sum.inr k : Key) = Sum.inr s) || hasK (dKs d) (.inr s)) = (if k = s then some v else look d s).isSome
    rw [hasK_enc d s]
    by_cases e : k = s
    · rw [if_pos e, decide_eq_true (by rw [e])]; rfl
    · rw [if_neg e, decide_eq_false (fun z => e (Sum.inr.inj z))]; rfl
theorem put_enc (d : As) (s : Str) (v : PV) : PV.dic (putKs (dKs d) (.inr s)) (putPs (dKs d) (dPs d) (.inr s) v) = encD (putD d s v) := by
  unfold putKs putPs putD
  rw [hasK_enc]
  by_cases h : (look d s).isSome = true
  · rw [if_pos h, if_pos h, if_pos h]
    clear h
    unfold encD
    congr 1
    · unfold dKs
      rw [List.map_map]
      refine List.map_congr_left fun e _ => ?_
      show _ = Sum.inr (if e.1 = s then (e.1, v) else e).1
      split <;> rfl
    · induction d with
      | nil => rfl
      | cons e d ih =>
        show (if (Sum.inr e.1 : Key) = Sum.inr s then v else e.2) :: _ = (if e.1 = s then (e.1, v) else e).2 :: _
        rw [show List.zipWith (fun k p => if k = Sum.inr s then v else p) (List.map (fun e => Sum.inr e.1) d) (List.map (fun x => x.2) d) = dPs (d.map fun e => if e.1 = s then (e.1, v) else e) from ih]
        congr 1
        by_cases z : e.1 = s
        · rw [if_pos z, if_pos (by rw [z])]
        · rw [if_neg z, if_neg (fun y => z (Sum.inr.inj y))]
  · rw [if_neg h, if_neg h, if_neg h]
    unfold encD dKs dPs
    rw [List.map_append, List.map_append]; rfl
theorem look_put (d : As) (s : Str) (v : PV) (t : Str) : look (putD d s v) t = if s = t then some v else look d t := by
  unfold putD
  by_cases h : (look d s).isSome = true
  · rw [if_pos h]
    induction d with
    | nil => simp [look] at h
    | cons e d ih =>
      obtain ⟨k, w⟩ := e
      rw [List.map_cons]
      by_cases z : k = s
      · subst z
        simp only [if_true, look]
        by_cases y : k = t
        · rw [if_pos y, if_pos y]
        · rw [if_neg y, if_neg y, if_neg y]
          by_cases h2 : (look d k).isSome = true
          · rw [ih h2, if_neg y]
          · have : d.map (fun e => if e.1 = k then (e.1, v) else e) = d := by
              clear ih h
              induction d with
              | nil => rfl
              | cons f d ih2 =>
                have hf : f.1 ≠ k := fun q => h2 (by rw [look.eq_def]; simp only; rw [if_pos q]; rfl)
                have h3 : ¬ (look d k).isSome = true := fun q => h2 (by rw [look.eq_def]; simp only; rw [if_neg hf]; exact q)
                rw [List.map_cons, ih2 h3, if_neg hf]
            rw [this]
      · simp only [if_neg z, look] at h ⊢
        by_cases y : k = t
        · rw [if_pos y, if_pos y, if_neg (fun q => z (by rw [y, q]))]
        · rw [if_neg y, if_neg y, ih h]
  · rw [if_neg h]
    have hn : look d s = none := by cases e : look d s with
      | none => rfl
      | some _ => rw [e] at h; exact absurd rfl h
    clear h
    induction d with
    | nil => rfl
    | cons e d ih =>
      obtain ⟨k, w⟩ := e
      rw [List.cons_append]
      unfold look at hn ⊢
      by_cases z : k = s
      · rw [if_pos z] at hn; cases hn
      · rw [if_neg z] at hn
        by_cases y : k = t
        · rw [if_pos y, if_pos y, if_neg (fun q => z (by rw [y, q]))]
        · rw [if_neg y, if_neg y, ih hn]
theorem putD_keys (d : As) (s : Str) (v : PV) : (putD d s v).map (·.1) = if (look d s).isSome = true then d.map (·.1) else d.map (·.1) ++ [s] := by
  unfold putD
  by_cases h : (look d s).isSome = true
  · rw [if_pos h, if_pos h, List.map_map]
    refine List.map_congr_left fun e _ => ?_
    show (if e.1 = s then (e.1, v) else e).1 = e.1
    split <;> rfl
  · rw [if_neg h, if_neg h, List.map_append]; rfl
theorem look_some_mem : ∀ {d : As} {s : Str} {v : PV}, look d s = some v → (s, v) ∈ d
  | [], _, _, h => by cases h
  | (k, w) :: d, s, v, h => by
    unfold look at h
    split at h
    · rename_i e; cases h; rw [e]; exact List.mem_cons_self
    · exact List.mem_cons_of_mem _ (look_some_mem h)
theorem look_none : ∀ {d : As} {s : Str}, look d s = none ↔ s ∉ d.map (·.1)
  | [], s => by simp [look]
  | (k, w) :: d, s => by
    rw [look, List.map_cons, List.mem_cons]
    by_cases e : k = s
    · rw [if_pos e]; simp [e]
    · rw [if_neg e, look_none (d := d) (s := s)]
      constructor
      · rintro h (z | z)
        · exact e z.symm
        · exact h z
      · exact fun h z => h (.inr z)
theorem putD_nd {d : As} {s : Str} {v : PV} (h : (d.map (·.1)).Nodup) : ((putD d s v).map (·.1)).Nodup := by
  rw [putD_keys]
  split
  · exact h
  · rename_i n
    have hn : s ∉ d.map (·.1) := by
      rw [← look_none]
      cases e : look d s with
      | none => rfl
      | some _ => rw [e] at n; exact absurd rfl n
    refine List.nodup_append.mpr ⟨h, by simp, fun a ha b hb => ?_⟩
    have : b = s := by simpa using hb
    rw [this]
    exact fun z => hn (by rw [← z]; exact ha)
theorem putD_vals {d : As} {s : Str} {v : PV} {C : PV → Prop} (hv : C v) (h : ∀ e ∈ d, C e.2) : ∀ e ∈ putD d s v, C e.2 := by
  intro e he
  unfold putD at he
  split at he
  · obtain ⟨f, hf, rfl⟩ := List.mem_map.mp he
    split
    · exact hv
    · exact h f hf
  · rcases List.mem_append.mp he with he | he
    · exact h e he
    · have : e = (s, v) := by simpa using he
      rw [this]; exact hv
theorem putD_len (d : As) (s : Str) (v : PV) : (putD d s v).length ≤ d.length + 1 := by
  unfold putD
  split
  · simp
  · simp
theorem dKs_len (d : As) : (dKs d).length = d.length := by unfold dKs; rw [List.length_map]
theorem look_mem_of {d : As} {s : Str} {v : PV} (nd : (d.map (·.1)).Nodup) (h : (s, v) ∈ d) : look d s = some v := by
  induction d with
  | nil => cases h
  | cons e d ih =>
    obtain ⟨k, w⟩ := e
    rw [List.map_cons, List.nodup_cons] at nd
    unfold look
    rcases List.mem_cons.mp h with z | z
    · cases z; rw [if_pos rfl]
    · have ne : k ≠ s := fun y => nd.1 (by rw [y]; exact List.mem_map.mpr ⟨_, z, rfl⟩)
      rw [if_neg ne]; exact ih nd.2 z
/-! ### terms with names put -/
mutual
def putT (d : As) : PV → PV
  | .str s => match look d s with
    | some z => z
    | none => .str s
  | .tup [] => .tup []
  | .tup (p :: ps) => .tup (p :: putTs d ps)
  | .lst x => .lst x
  | .scr x => .scr x
  | .nst t c s => .nst t c s
  | .ty x => .ty x
  | .non => .non
  | .bl x => .bl x
  | .int x => .int x
  | .dic x y => .dic x y
def putTs (d : As) : List PV → List PV
  | [] => []
  | p :: ps => putT d p :: putTs d ps
end
theorem putTs_map (d : As) : ∀ ps : List PV, putTs d ps = ps.map (putT d)
  | [] => by rw [putTs]; rfl
  | p :: ps => by rw [putTs, putTs_map d ps]; rfl

end Lw
set_option maxHeartbeats 4000000
namespace Lw
open PySem L2 PyProof.Rows Px
local macro_rules | `(tactic| walk_at "px") => `(tactic| simp -dsimp only [qVar, qK, qNil, qCons, qTup, qLst, vals, looks, R.look, R.wk, qCB, qB, qOp2, qTru, truG, qAnd, qOr, qNot, qAndV, qOrV, qNotV, qIfE, qNo, qPart, qSl, gSl, qIt, qRng1, qRng2, qgN, qgNil, qgCons, qgT, notIo_zero, notIo_succ, notIo_nil', slOk_un, slOk_val, slOk_own, slOk_pl, slOk_pd, notIos_nil, notIos_cons, qYes, qLc, qNext, qSeq, qBreak, qCont, qFrz, frz, qDrop, retG, qRet, qRetN, qIf, qSet, qOwn, qAsg, qFor, qMut, ownTy, gAppend, gExtend, gPop, isOwn, qSetIx, qCall, splitArgs, putOuts, setOwn, finOk, endsOf, mk, outsOf, uns,
  gAdd, gInt, gInt0, gEq, gNe, gIn, gNotIn, gIs, gIsNot, Px.isNon, gIx, getP, gLen, gAbs, gIntC, gSum, gMax, gMax2, gMax3, gMinT, gAll, gAny, gList, gTuple, gIsi, qNeg, qDict0, wipeE, lcGo_nil, br_t, br_f, atI_0, atI_1, atI_2, atI_3, ixN_0, ixN_1, ixN_2, ixN_3, List.length_map, List.length_set, cut_from1, isTy, tyN, gIsiT, asTys, gListD, keyP, isDic, qGet1, qGet2, qLZ, gZip, qPairs, mergeP, qDisp, gDictC, gStr, qChain, qPar, qAug, qMeth, tyIs, gIndex, qLcK, qDc, qDcK, dicAt, qForK, qZipI, qCallB, qCallF, splitB, qTake, tkEnds, tkRt, tkBack, Px.isN, isNst, gIxN, gPop0, gInsert, qSetSeed, qStep, qPar3, qLcO, lcoK, stEnds, stGo, immS, Px.imm, endsLaw, Option.isSome_some, Option.isSome_none, isEmp_concat, List.getLast?_concat, List.dropLast_concat, List.isEmpty_nil, gEqX, gNeX, qEnumI, enumP, gSortSet, gLenSet, qSortSc, asStrs, List.any_cons, List.any_nil, tyOk_str, tyOk_tuple, tyOk_int, tyOk_bool, tyOk_list, tyOk_dict, Option.map_some, Option.map_none,
  eqOk_str, eqOk_int, eqOk_bl, eqOk_non, eqOkW_str, eqOkW_int, eqOkW_bl, eqOkW_non, gEqW, gNeW, qVals, ownDic, qLc2, gLtX, gGtX, gSortX, peq_str, peq_int, peq_bl, List.getElem?_cons_zero, List.getElem?_cons_succ, List.getElem?_nil, List.set_cons_zero, List.set_cons_succ, List.zipWith_cons_cons, List.zipWith_nil_left, List.replicate_succ, List.replicate_zero, List.cons_append, List.nil_append, List.length_cons, List.length_nil, List.map_cons, List.map_nil, ↓reduceIte, Bool.false_eq_true, and_true, true_and, Bool.not_true, Bool.not_false, Nat.reduceAdd, Nat.reduceLT, Nat.reduceLeDiff, Nat.zero_lt_succ, Nat.lt_add_one, ne_eq, not_true_eq_false, not_false_eq_true, String.reduceEq, String.reduceBEq, Bool.or_false, Bool.false_or, Bool.or_true, Bool.true_or, Bool.and_false, Bool.and_true, Bool.false_and, Bool.true_and, reduceCtorEq])
/-! ### draws -/
def NsOk (d : PV) : Prop := ∃ c s, d = .nst false c s
def S_draw : FS := { io := [true, false], pre := fun ps => ∃ d n, ps = [d, .int n] ∧ NsOk d ∧ 0 < n ∧ n < 1000000, post := fun ps r outs => ∃ k d', r = .int k ∧ outs = [d'] ∧ NsOk d' ∧ 0 ≤ k ∧ ∀ d n, ps = [d, .int n] → k < n }
def S_pick : FS := { io := [true, false], pre := fun ps => ∃ d row, ps = [d, row] ∧ isRow row ∧ NsOk d ∧ items row ≠ [] ∧ (items row).length < 1000000, post := fun ps r outs => ∃ d', outs = [d'] ∧ NsOk d' ∧ ∀ d row, ps = [d, row] → r ∈ items row }
theorem draw_i {ρ : En} {j : Nat} {b : Bool} {d : PV} {n : Int} {Q : PK1} {dm : Dum Q} (h : ρ[j]? = some (Sl.own b d)) (hd : NsOk d) (h0 : 0 < n) (h1 : n < 1000000) (k : ∀ m d', NsOk d' → 0 ≤ m → m < n → Q (.pv (.int m)) (setOwn ρ j d')) : callR S_draw [.sl j, .pv (.int n)] ρ Q dm := by
  refine call_1 (j := j) (ps := [d, .int n]) (by simp [S_draw, splitArgs, h]) rfl ⟨d, n, rfl, hd, h0, h1⟩ fun r d' hp => ?_
  obtain ⟨m, d2, rfl, e, hd', m0, m1⟩ := hp
  cases e
  exact k m d' hd' m0 (m1 _ _ rfl)
theorem pick_i {ρ : En} {j : Nat} {b : Bool} {d row : PV} {Q : PK1} {dm : Dum Q} (h : ρ[j]? = some (Sl.own b d)) (hd : NsOk d) (hr : isRow row) (hn : items row ≠ []) (hl : (items row).length < 1000000) (k : ∀ r d', NsOk d' → r ∈ items row → Q (.pv r) (setOwn ρ j d')) : callR S_pick [.sl j, .pv row] ρ Q dm := by
  refine call_1 (j := j) (ps := [d, row]) (by simp [S_pick, splitArgs, h]) rfl ⟨d, row, rfl, hr, hd, hn, hl⟩ fun r d' hp => ?_
  obtain ⟨d2, e, hd', hm⟩ := hp
  cases e
  exact k r d' hd' (hm _ _ rfl)
section
variable {P : Program} {w : World} {K : PySem.W.Frag} {mg : Str → Option Value} {base : Heap}
theorem ok_state (T : Txt K mg) : Has P w K mg base "_law_state" 1 ["script"] sState := by
  refine dv__law_state T sState rfl fun pvs lp pre => ?_
  obtain ⟨ns, rfl, hl⟩ := pre
  unfold rd__law_state sState
  walk_at "px"
  refine for_ind (fun qs ρ => ∃ (s : Int) (sl : Sl) (ms : List Int), Pl sl ∧ qs = ms.map PV.int ∧ ρ = [.val (.scr ns), .val (.int s), sl]) ?_ ?_ _ _ ⟨7, .un, ns, pl_un, rfl, rfl⟩
  · rintro ρ ⟨s, sl, ms, psl, e, rfl⟩
    have fin : ∀ sl : Sl, Pl sl → notIos [.val (.scr ns), .val (.int s), sl] [2] → True := fun _ _ _ => trivial
    rcases psl with rfl | ⟨q, rfl⟩
    all_goals
      walk_at "px"
      refine lcR_i (lc_ind (fun qs acc ρ => ∃ ms done : List Int, (∀ n ∈ done, 0 ≤ n) ∧ qs = ms.map PV.int ∧ acc = done.map PV.int ∧ done.length + ms.length ≤ 63 ∧ ρ = [.val (.scr ns), .val (.int s), .un]) ?_ ?_ _ _ _ ⟨ns, [], (fun n h => by simp at h), rfl, rfl, by simpa using hl, rfl⟩)
      · rintro acc ρ ⟨ms, done, nn, e1, rfl, _, rfl⟩
        walk_at "px"
        exact ⟨small_of (by decide), done, s + 1, rfl, nn⟩
      · rintro p ps acc ρ ⟨ms, done, nn, e1, rfl, hl2, rfl⟩ N ih
        cases ms with
        | nil => cases e1
        | cons m ms =>
          rw [List.map_cons] at e1
          injection e1 with e1 e2
          subst e1 e2
          walk_at "px"
          simp only [List.length_cons] at hl2
          exact ⟨small_of (by omega), ih _ _ ⟨ms, done ++ [if m < 0 then -m else m], fun n hn => by
            rcases List.mem_append.mp hn with hn | hn
            · exact nn n hn
            · have e := List.mem_singleton.mp hn
              subst e
              split <;> omega, rfl, by rw [List.map_append]; rfl, by simp only [List.length_append, List.length_cons, List.length_nil]; omega, rfl⟩⟩
  · rintro p ps ρ ⟨s, sl, ms, psl, e, rfl⟩ N ih
    cases ms with
    | nil => cases e
    | cons m ms =>
      rw [List.map_cons] at e
      injection e with e1 e2
      subst e1 e2
      have hm : ∀ c : Int, CMul c 31 := fun c => cmul_r ⟨by decide, by decide⟩
      have h21 : (0 : Int) < 1000003 := by decide
      rcases psl with rfl | ⟨q, rfl⟩
      all_goals
        walk_at "px"
        exact ⟨hm _, h21, ih _ ⟨_, _, ms, pl_val, rfl, rfl⟩⟩
theorem ok_draw (T : Txt K mg) : Has P w K mg base "_law_draw" 1 ["state", "many"] S_draw := by
  refine dv__law_draw T S_draw rfl fun pvs lp pre => ?_
  obtain ⟨d, n, rfl, ⟨c, s, rfl⟩, h0, h1⟩ := pre
  unfold rd__law_draw S_draw
  have hm2 : ∀ c : Int, CMul c 48271 := fun c => cmul_r ⟨by decide, by decide⟩
  have h22 : (0 : Int) < 2147483647 := by decide
  have h64 : (0 : Int) < 64 := by decide
  have hd64 : ∀ c : Int, CDiv c 64 := fun c => ⟨by decide, by decide⟩
  have hd : ∀ c : Int, CDiv c n := fun c => ⟨h0, by omega⟩
  have told : ∀ (c2 : Nat) (s2 x : Int), ∃ k d', PV.int (x % n) = PV.int k ∧ [PV.nst false c2 s2] = [d'] ∧ NsOk d' ∧ 0 ≤ k ∧ ∀ (d : PV) (m : Int), [PV.nst false c s, PV.int n] = [d, PV.int m] → k < m := fun c2 s2 x =>
    ⟨x % n, _, rfl, rfl, ⟨c2, s2, rfl⟩, Int.emod_nonneg _ (by omega), fun d m e => by
      have e2 : n = m := by injection e with _ e; injection e with e _; injection e
      subst e2
      exact Int.emod_lt_of_pos _ h0⟩
  walk_at "px"
  intro ns nn
  refine while_i (fun m ρ => ∃ ns : List Int, (∀ n ∈ ns, 0 ≤ n) ∧ m = ns.length ∧ ρ = [.own true (.nst true c s), .val (.int n), .own true (.lst (ns.map PV.int)), .un, .un]) _ ⟨ns, nn, rfl, rfl⟩ ?_
  rintro m ρ ⟨ns, nn, rfl, rfl⟩
  cases ns with
  | nil =>
    have hz : decide ((0 : Int) < ((0 : Nat) : Int)) = false := by decide
    walk_at "px"
    rw [hz]
    walk_at "px"
    exact ⟨hm2 _, h22, hd64 _, h0, ⟨[], rfl, fun n h => by simp at h⟩, told _ _ _⟩
  | cons x ns =>
    have nx : 0 ≤ x := nn x List.mem_cons_self
    have n1 : ∀ n ∈ ns, 0 ≤ n := fun n h => nn n (List.mem_cons_of_mem _ h)
    have up : ∀ z : Int, 0 ≤ z → ∃ ns_1 : List Int, PV.int z :: List.map PV.int ns = List.map PV.int ns_1 ∧ ∀ (n : Int), n ∈ ns_1 → 0 ≤ n := fun z hz => ⟨z :: ns, rfl, fun n h => by
      rcases List.mem_cons.mp h with rfl | h
      · exact hz
      · exact n1 n h⟩
    have ux := up x nx
    have ud := up (x / n) (Int.ediv_nonneg nx (by omega))
    walk_at "px"
    exact ⟨fun _ => ⟨fun _ => ⟨ns.length, by omega, ns, n1, rfl, rfl⟩, fun _ => ⟨fun _ => ⟨hd _, h0, ud, told _ _ _⟩, fun _ => ⟨hm2 _, h22, hd64 _, h0, ux, told _ _ _⟩⟩⟩, fun _ => ⟨fun _ => ⟨hd _, h0, ud, told _ _ _⟩, fun _ => ⟨hm2 _, h22, hd64 _, h0, ux, told _ _ _⟩⟩⟩
theorem ok_pick (T : Txt K mg) : Has P w K mg base "_law_pick" 2 ["state", "row"] S_pick := by
  refine dv__law_pick T (ok_draw T) S_pick rfl fun pvs lp pre => ?_
  obtain ⟨d, row, rfl, hr, hd, hne, hl⟩ := pre
  unfold rd__law_pick S_pick
  have h0 : 0 < (items row).length := List.length_pos_iff.mpr hne
  cases row with
  | lst qs =>
    have h0' : 0 < qs.length := h0
    have hl' : qs.length < 1000000 := hl
    walk_at "px"
    refine draw_i rfl hd (by omega) (by omega) fun k d' hd' k0 k1 => ?_
    walk_at "px"
    obtain ⟨x, e, m⟩ := atI_in k0 k1
    rw [e]
    exact ⟨d', rfl, hd', fun d2 row2 e2 => by injection e2 with _ e2; injection e2 with e2 _; subst e2; exact m⟩
  | tup qs =>
    have h0' : 0 < qs.length := h0
    have hl' : qs.length < 1000000 := hl
    walk_at "px"
    refine draw_i rfl hd (by omega) (by omega) fun k d' hd' k0 k1 => ?_
    walk_at "px"
    obtain ⟨x, e, m⟩ := atI_in k0 k1
    rw [e]
    exact ⟨d', rfl, hd', fun d2 row2 e2 => by injection e2 with _ e2; injection e2 with e2 _; subst e2; exact m⟩
  | _ => exact hr.elim
end

end Lw
set_option maxHeartbeats 4000000
namespace Lw
open PySem L2 PyProof.Rows Px
mutual
def nmP : PV → List Str
  | .str s => [s]
  | .tup [] => []
  | .tup (_ :: ps) => nmPs ps
  | .lst _ => []
  | .scr _ => []
  | .nst _ _ _ => []
  | .ty _ => []
  | .non => []
  | .bl _ => []
  | .int _ => []
  | .dic _ _ => []
def nmPs : List PV → List Str
  | [] => []
  | p :: ps => nmP p ++ nmPs ps
end
mutual
/-- the constructors and calls in a body -/
def subT : PV → List PV
  | .str _ => []
  | .tup [] => []
  | .tup (p :: ps) => .tup (p :: ps) :: subTs ps
  | .lst _ => []
  | .scr _ => []
  | .nst _ _ _ => []
  | .ty _ => []
  | .non => []
  | .bl _ => []
  | .int _ => []
  | .dic _ _ => []
def subTs : List PV → List PV
  | [] => []
  | p :: ps => subT p ++ subTs ps
end
structure Cl where
  pats : List PV
  body : PV
structure Fn where
  w : Str
  ps : List PV
  fam : PV
  ix : PV
  pl : Nat
  cl : List Cl
def encCl (c : Cl) : PV := .tup [.tup c.pats, c.body]
def encFn (f : Fn) : PV := .tup [.str f.w, .tup f.ps, f.fam, f.ix, .int (f.pl : Nat), .tup (f.cl.map encCl)]
def encPg (fns : List Fn) : PV := .tup [.str (Str.ofString "program"), .tup (fns.map encFn)]
def fnOf (fns : List Fn) (s : Str) : Option Fn := fns.find? fun f => f.w == s
structure ClOk (n : Nat) (c : Cl) : Prop where
  pats : tshs c.pats = true
  body : tsh c.body = true
  psz : pszs c.pats ≤ n
  bsz : Lw.psz c.body ≤ n
  pdep : deps c.pats ≤ 40
  bdep : dep c.body ≤ 40
structure FunOk (n : Nat) (f : Fn) : Prop where
  cl : ∀ c ∈ f.cl, ClOk n c
  len : f.cl.length ≤ 12
  ps : f.ps.length ≤ 3
structure PgOk (n : Nat) (fns : List Fn) : Prop where
  fn : ∀ f ∈ fns, FunOk n f
  nd : (fns.map (·.w)).Nodup
  len : fns.length ≤ 12
  n1 : n ≤ 300
def S_fn : FS := { io := [false, false], pre := fun ps => ∃ (fns : List Fn) (s : Str), ps = [encPg fns, .str s], post := fun ps r _ => ∀ (fns : List Fn) (s : Str), ps = [encPg fns, .str s] → r = ((fnOf fns s).map encFn).getD .non }
theorem S_fn_fr : S_fn.fr = false := rfl
theorem S_fn_io : S_fn.io = [false, false] := rfl
local macro_rules | `(tactic| walk_at "px") => `(tactic| simp -dsimp only [qVar, qK, qNil, qCons, qTup, qLst, vals, looks, R.look, R.wk, qCB, qB, qOp2, qTru, truG, qAnd, qOr, qNot, qAndV, qOrV, qNotV, qIfE, qNo, qPart, qSl, gSl, qIt, qRng1, qRng2, qgN, qgNil, qgCons, qgT, notIo_zero, notIo_succ, notIo_nil', slOk_un, slOk_val, slOk_own, slOk_pl, slOk_pd, notIos_nil, notIos_cons, qYes, qLc, qNext, qSeq, qBreak, qCont, qFrz, frz, qDrop, retG, qRet, qRetN, qIf, qSet, qOwn, qAsg, qFor, qMut, ownTy, gAppend, gExtend, gPop, isOwn, qSetIx, qCall, splitArgs, putOuts, setOwn, finOk, endsOf, mk, outsOf, uns,
  gAdd, gInt, gInt0, gEq, gNe, gIn, gNotIn, gIs, gIsNot, Px.isNon, gIx, getP, gLen, gAbs, gIntC, gSum, gMax, gMax2, gMax3, gMinT, gAll, gAny, gList, gTuple, gIsi, qNeg, qDict0, wipeE, lcGo_nil, br_t, br_f, atI_0, atI_1, atI_2, atI_3, ixN_0, ixN_1, ixN_2, ixN_3, List.length_map, List.length_set, cut_from1, isTy, tyN, gIsiT, asTys, gListD, keyP, isDic, qGet1, qGet2, qLZ, gZip, qPairs, mergeP, qDisp, gDictC, gStr, qChain, qPar, qAug, qMeth, tyIs, gIndex, qLcK, qDc, qDcK, dicAt, qForK, qZipI, qCallB, qCallF, splitB, qTake, tkEnds, tkRt, tkBack, Px.isN, isNst, gIxN, gPop0, gInsert, qSetSeed, qStep, qPar3, qLcO, lcoK, stEnds, stGo, immS, Px.imm, endsLaw, Option.isSome_some, Option.isSome_none, isEmp_concat, List.getLast?_concat, List.dropLast_concat, List.isEmpty_nil, gEqX, gNeX, qEnumI, enumP, gSortSet, gLenSet, qSortSc, asStrs, List.any_cons, List.any_nil, tyOk_str, tyOk_tuple, tyOk_int, tyOk_bool, tyOk_list, tyOk_dict, Option.map_some, Option.map_none,
  eqOk_str, eqOk_int, eqOk_bl, eqOk_non, eqOkW_str, eqOkW_int, eqOkW_bl, eqOkW_non, gEqW, gNeW, qVals, ownDic, qLc2, gLtX, gGtX, gSortX, peq_str, peq_int, peq_bl, List.getElem?_cons_zero, List.getElem?_cons_succ, List.getElem?_nil, List.set_cons_zero, List.set_cons_succ, List.zipWith_cons_cons, List.zipWith_nil_left, List.replicate_succ, List.replicate_zero, List.cons_append, List.nil_append, List.length_cons, List.length_nil, List.map_cons, List.map_nil, ↓reduceIte, Bool.false_eq_true, and_true, true_and, Bool.not_true, Bool.not_false, Nat.reduceAdd, Nat.reduceLT, Nat.reduceLeDiff, Nat.zero_lt_succ, Nat.lt_add_one, ne_eq, not_true_eq_false, not_false_eq_true, String.reduceEq, String.reduceBEq, Bool.or_false, Bool.false_or, Bool.or_true, Bool.true_or, Bool.and_false, Bool.and_true, Bool.false_and, Bool.true_and, reduceCtorEq, S_fn_fr, S_fn_io])
theorem map_inj {α β : Type} {f : α → β} (hf : ∀ a b, f a = f b → a = b) : ∀ {xs ys : List α}, xs.map f = ys.map f → xs = ys
  | [], [], _ => rfl
  | [], _ :: _, h => by simp at h
  | _ :: _, [], h => by simp at h
  | x :: xs, y :: ys, h => by
    simp only [List.map_cons, List.cons.injEq] at h
    rw [hf x y h.1, map_inj hf h.2]
theorem encCl_inj {a b : Cl} (h : encCl a = encCl b) : a = b := by
  cases a; cases b
  simpa [encCl] using h
theorem encFn_inj {a b : Fn} (h : encFn a = encFn b) : a = b := by
  obtain ⟨w, ps, fam, ix, pl, cl⟩ := a
  obtain ⟨w2, ps2, fam2, ix2, pl2, cl2⟩ := b
  simp only [encFn, PV.tup.injEq, List.cons.injEq, PV.str.injEq, PV.int.injEq, and_true] at h
  obtain ⟨h1, h2, h3, h4, h5, h6⟩ := h
  rw [h1, h2, h3, h4, show pl = pl2 by omega, map_inj (fun _ _ => encCl_inj) h6]
theorem encPg_inj {a b : List Fn} (h : encPg a = encPg b) : a = b := by
  simp only [encPg, PV.tup.injEq, List.cons.injEq, and_true, true_and] at h
  exact map_inj (fun _ _ => encFn_inj) h
/-! ### handy -/
theorem for_mapT {α : Type} {g : QTG} {body : QTS} {D : PEnds} (enc : α → PV) (I : List α → En → Prop) (xs : List α) (ρ0 : En) (h0 : I [] ρ0) (hn : ∀ ρ, I xs ρ → D.nx ρ)
    (hc : ∀ (done : List α) (x : α) (left : List α) (ρ : En), xs = done ++ x :: left → I done ρ → ∀ N : En → Prop, (∀ ρ', I (done ++ [x]) ρ' → N ρ') → g (enc x) ρ fun ρ1 => body { nx := N, rt := D.rt, bk := D.nx, ct := N } ρ1) : forGo g body D (xs.map enc) ρ0 := by
  refine for_ind (fun qs ρ => ∃ done left : List α, xs = done ++ left ∧ qs = left.map enc ∧ I done ρ) ?_ ?_ _ _ ⟨[], xs, rfl, rfl, h0⟩
  · rintro ρ ⟨done, left, e, eq, h⟩
    cases left with
    | nil => rw [List.append_nil] at e; subst e; exact hn ρ h
    | cons _ _ => simp at eq
  · rintro q qs ρ ⟨done, left, e, eq, h⟩ N ih
    cases left with
    | nil => simp at eq
    | cons x left =>
      simp only [List.map_cons, List.cons.injEq] at eq
      obtain ⟨rfl, rfl⟩ := eq
      exact hc done x left ρ e h N fun ρ' h' => ih _ ⟨done ++ [x], left, by rw [e]; simp, rfl, h'⟩
theorem for_mapP {g : QTG} {body : QTS} {D : PEnds} (I : List PV → En → Prop) (xs : List PV) (ρ0 : En) (h0 : I [] ρ0) (hn : ∀ ρ, I xs ρ → D.nx ρ)
    (hc : ∀ (done : List PV) (x : PV) (left : List PV) (ρ : En), xs = done ++ x :: left → I done ρ → ∀ N : En → Prop, (∀ ρ', I (done ++ [x]) ρ' → N ρ') → g x ρ fun ρ1 => body { nx := N, rt := D.rt, bk := D.nx, ct := N } ρ1) : forGo g body D xs ρ0 := by
  have := for_mapT (g := g) (body := body) (D := D) id I xs ρ0 h0 hn hc
  rwa [List.map_id] at this
/-- a comprehension that goes on with a list -/
theorem lc_mapA {α : Type} {g : QTG} {tt : QTT} {te : QT} {vs : List Nat} {Q : List PV → En → Prop} (enc f : α → PV) (xs : List α) (a0 : List PV) (ρ0 : En) (hl : a0.length + xs.length ≤ 999999) (hq : Q (a0 ++ xs.map f) ρ0)
    (hc : ∀ x ∈ xs, ∀ (acc : List PV) (N : List PV → En → Prop), small (acc.length + 1) → N (acc ++ [f x]) ρ0 → g (enc x) ρ0 fun ρ1 => tt ρ1 fun b ρ2 => Br b (te ρ2 fun r ρ3 => match r.wk with
      | .pv q => small (acc.length + 1) ∧ notIos ρ3 vs ∧ N (acc ++ [q]) (wipeE ρ3 vs)
      | _ => False) (notIos ρ2 vs ∧ N acc (wipeE ρ2 vs))) : lcGo g tt te vs Q (xs.map enc) a0 ρ0 := by
  refine lc_ind (fun qs acc ρ => ∃ done left : List α, xs = done ++ left ∧ qs = left.map enc ∧ acc = a0 ++ done.map f ∧ ρ = ρ0) ?_ ?_ _ _ _ ⟨[], xs, rfl, rfl, by simp, rfl⟩
  · rintro acc ρ ⟨done, left, e, eq, rfl, rfl⟩
    cases left with
    | nil => rw [List.append_nil] at e; subst e; exact hq
    | cons _ _ => simp at eq
  · rintro q qs acc ρ ⟨done, left, e, eq, rfl, rfl⟩ N ih
    cases left with
    | nil => simp at eq
    | cons x left =>
      simp only [List.map_cons, List.cons.injEq] at eq
      obtain ⟨rfl, rfl⟩ := eq
      have := congrArg List.length e
      simp only [List.length_append, List.length_cons] at this
      exact hc x (by rw [e]; simp) _ N (small_of (by simp only [List.length_append, List.length_map]; omega)) (ih _ _ ⟨done ++ [x], left, by rw [e]; simp, rfl, by simp, rfl⟩)
theorem lc_mapP {g : QTG} {tt : QTT} {te : QT} {vs : List Nat} {Q : List PV → En → Prop} (f : PV → PV) (xs : List PV) (a0 : List PV) (ρ0 : En) (hl : a0.length + xs.length ≤ 999999) (hq : Q (a0 ++ xs.map f) ρ0)
    (hc : ∀ x ∈ xs, ∀ (acc : List PV) (N : List PV → En → Prop), small (acc.length + 1) → N (acc ++ [f x]) ρ0 → g x ρ0 fun ρ1 => tt ρ1 fun b ρ2 => Br b (te ρ2 fun r ρ3 => match r.wk with
      | .pv q => small (acc.length + 1) ∧ notIos ρ3 vs ∧ N (acc ++ [q]) (wipeE ρ3 vs)
      | _ => False) (notIos ρ2 vs ∧ N acc (wipeE ρ2 vs))) : lcGo g tt te vs Q xs a0 ρ0 := by
  have := lc_mapA (g := g) (tt := tt) (te := te) (vs := vs) (Q := Q) id f xs a0 ρ0 hl hq hc
  rwa [List.map_id] at this
/-- one that makes of each code one, or none -/
theorem lc_fmT {α : Type} {g : QTG} {tt : QTT} {te : QT} {vs : List Nat} {Q : List PV → En → Prop} (enc : α → PV) (f : α → Option PV) (xs : List α) (ρ0 : En) (hl : xs.length ≤ 999999) (hq : Q (xs.filterMap f) ρ0)
    (hc : ∀ x ∈ xs, ∀ (acc : List PV) (N : List PV → En → Prop), small (acc.length + 1) → N (acc ++ (f x).toList) ρ0 → g (enc x) ρ0 fun ρ1 => tt ρ1 fun b ρ2 => Br b (te ρ2 fun r ρ3 => match r.wk with
      | .pv q => small (acc.length + 1) ∧ notIos ρ3 vs ∧ N (acc ++ [q]) (wipeE ρ3 vs)
      | _ => False) (notIos ρ2 vs ∧ N acc (wipeE ρ2 vs))) : lcGo g tt te vs Q (xs.map enc) [] ρ0 := by
  refine lc_ind (fun qs acc ρ => ∃ done left : List α, xs = done ++ left ∧ qs = left.map enc ∧ acc = done.filterMap f ∧ ρ = ρ0) ?_ ?_ _ _ _ ⟨[], xs, rfl, rfl, rfl, rfl⟩
  · rintro acc ρ ⟨done, left, e, eq, rfl, rfl⟩
    cases left with
    | nil => rw [List.append_nil] at e; subst e; exact hq
    | cons _ _ => simp at eq
  · rintro q qs acc ρ ⟨done, left, e, eq, rfl, rfl⟩ N ih
    cases left with
    | nil => simp at eq
    | cons x left =>
      simp only [List.map_cons, List.cons.injEq] at eq
      obtain ⟨rfl, rfl⟩ := eq
      have := congrArg List.length e
      simp only [List.length_append, List.length_cons] at this
      have hle : (done.filterMap f).length ≤ done.length := List.length_filterMap_le _ _
      exact hc x (by rw [e]; simp) _ N (small_of (by omega)) (ih _ _ ⟨done ++ [x], left, by rw [e]; simp, rfl, by rw [List.filterMap_append]; simp [List.filterMap_cons]; cases f x <;> rfl, rfl⟩)
theorem lc2_ind {g g1 : QTG} {tt tt1 : QTT} {ti1 : QTI} {te : QT} {vs vs1 : List Nat} {Q : List PV → En → Prop} (I : List PV → List PV → En → Prop) (hn : ∀ acc ρ, I [] acc ρ → Q acc ρ)
    (hc : ∀ p ps acc ρ, I (p :: ps) acc ρ → ∀ N : List PV → En → Prop, (∀ acc' ρ', I ps acc' ρ' → N acc' ρ') → g p ρ fun ρ1 => tt ρ1 fun b ρ2 => Br b (ti1 ρ2 fun qs ρ3 => notIos ρ3 vs1 ∧ lcGo g1 tt1 te vs1 (fun acc' ρ4 => notIos ρ4 vs ∧ N acc' (wipeE ρ4 vs)) qs acc (wipeE ρ3 vs1))
      (notIos ρ2 vs ∧ N acc (wipeE ρ2 vs))) : ∀ ps acc ρ, I ps acc ρ → lc2Go g tt ti1 g1 tt1 te vs vs1 Q ps acc ρ
  | [], acc, ρ, h => hn acc ρ h
  | p :: ps, acc, ρ, h => hc p ps acc ρ h (lc2Go g tt ti1 g1 tt1 te vs vs1 Q ps) fun acc' ρ' h' => lc2_ind I hn hc ps acc' ρ' h'
theorem lc2R_i {g g1 : QTG} {tt tt1 : QTT} {ti1 : QTI} {te : QT} {vs vs1 : List Nat} {ps : List PV} {ρ : En} {Q : PK1} {dm : Dum Q} (h : lc2Go g tt ti1 g1 tt1 te vs vs1 (fun acc ρ' => Q (.fr (.lst acc)) ρ') ps [] ρ) : lc2R g tt ti1 g1 tt1 te vs vs1 ps ρ Q dm := h
theorem lc2_mapP {g g1 : QTG} {tt tt1 : QTT} {ti1 : QTI} {te : QT} {vs vs1 : List Nat} {Q : List PV → En → Prop} (f : PV → List PV) (xs : List PV) (ρ0 : En) (hq : Q (xs.flatMap f) ρ0)
    (hc : ∀ (dn : List PV) (x : PV) (lf : List PV), xs = dn ++ x :: lf → ∀ N : List PV → En → Prop, N (dn.flatMap f ++ f x) ρ0 → g x ρ0 fun ρ1 => tt ρ1 fun b ρ2 => Br b (ti1 ρ2 fun qs ρ3 => notIos ρ3 vs1 ∧ lcGo g1 tt1 te vs1 (fun acc' ρ4 => notIos ρ4 vs ∧ N acc' (wipeE ρ4 vs)) qs (dn.flatMap f) (wipeE ρ3 vs1))
      (notIos ρ2 vs ∧ N (dn.flatMap f) (wipeE ρ2 vs))) : lc2Go g tt ti1 g1 tt1 te vs vs1 Q xs [] ρ0 := by
  refine lc2_ind (fun qs acc ρ => ∃ done : List PV, xs = done ++ qs ∧ acc = done.flatMap f ∧ ρ = ρ0) ?_ ?_ _ _ _ ⟨[], rfl, rfl, rfl⟩
  · rintro acc ρ ⟨done, e, rfl, rfl⟩
    rw [List.append_nil] at e; subst e; exact hq
  · rintro q qs acc ρ ⟨done, e, rfl, rfl⟩ N ih
    exact hc done q qs e N (ih _ _ ⟨done ++ [q], by rw [e]; simp, by rw [List.flatMap_append, List.flatMap_singleton], rfl⟩)
/-- sorted of a set that a comprehension fills: what goes in -/
theorem sc_mapT {α : Type} {g : QTG} {tt : QTT} {te : QT} {vs : List Nat} {Q : List Str → En → Prop} (enc : α → PV) (f : α → Option Str) (xs : List α) (ρ0 : En) (hl : xs.length ≤ 4000) (hq : Q (inss (xs.filterMap f) []) ρ0)
    (hc : ∀ x ∈ xs, ∀ (acc : List Str) (N : List Str → En → Prop), acc.length ≤ 4000 → N (match f x with | some k => insL k acc | none => acc) ρ0 → g (enc x) ρ0 fun ρ1 => tt ρ1 fun b ρ2 => Br b (te ρ2 fun r ρ3 => match r.wk with
      | .pv (.str k) => acc.length ≤ 4000 ∧ notIos ρ3 vs ∧ N (insL k acc) (wipeE ρ3 vs)
      | _ => False) (notIos ρ2 vs ∧ N acc (wipeE ρ2 vs))) : scGo g tt te vs Q (xs.map enc) [] ρ0 := by
  have key : ∀ (left done : List α), xs = done ++ left → scGo g tt te vs Q (left.map enc) (inss (done.filterMap f) []) ρ0 := by
    intro left
    induction left with
    | nil => intro done e; rw [List.append_nil] at e; subst e; exact hq
    | cons x left ih =>
      intro done e
      have hle : (inss (done.filterMap f) []).length ≤ 4000 := by
        have := inss_len (done.filterMap f) []
        have h2 : (done.filterMap f).length ≤ done.length := List.length_filterMap_le _ _
        have := congrArg List.length e
        simp only [List.length_append, List.length_cons, List.length_nil] at *
        omega
      refine hc x (by rw [e]; simp) _ (scGo g tt te vs Q (left.map enc)) hle ?_
      have := ih (done ++ [x]) (by rw [e]; simp)
      rw [List.filterMap_append] at this
      cases hf : f x with
      | none => simpa [hf] using this
      | some k =>
        simp only [List.filterMap_cons, hf, List.filterMap_nil] at this
        rw [inss_app] at this
        exact this
  exact key xs [] rfl
theorem scR_i {g : QTG} {tt : QTT} {te : QT} {vs : List Nat} {ps : List PV} {ρ : En} {Q : PK1} {dm : Dum Q} (h : scGo g tt te vs (fun acc ρ' => acc.length ≤ 4000 ∧ ∀ ys : List Str, ys.Perm acc → sortedS ys = true → Q (.fr (.lst (ys.map PV.str))) ρ') ps [] ρ) : scR g tt te vs ps ρ Q dm := h
theorem br_i {c : Bool} {A B : Prop} (h1 : c = true → A) (h2 : c = false → B) : Br c A B := ⟨h1, h2⟩
theorem ends_rt {S : FS} {ps : List PV} {r : PV} (hf : S.fr = false) (h : ∀ outs, S.post ps r outs) (ρ : En) : (endsOf S ps).rt (.pv r) ρ ∧ (endsOf S ps).rt (.fr r) ρ := by
  unfold endsOf finOk
  simp only
  rw [hf]
  exact ⟨h _, h _⟩
theorem fn_i {ρ : En} {fns : List Fn} {s : Str} {Q : PK1} {dm : Dum Q} (k : Q (.pv (((fnOf fns s).map encFn).getD .non)) ρ) : callR S_fn [.pv (encPg fns), .pv (.str s)] ρ Q dm :=
  call_p (ps := [encPg fns, .str s]) rfl rfl ⟨fns, s, rfl⟩ fun r hp => by rw [hp _ _ rfl]; exact k
theorem fnOf_mem {fns : List Fn} {s : Str} {f : Fn} (h : fnOf fns s = some f) : f ∈ fns ∧ f.w = s := by
  unfold fnOf at h
  have h1 := List.mem_of_find?_eq_some h
  have h2 := List.find?_some h
  exact ⟨h1, by simpa using h2⟩
theorem fnOf_own {fns : List Fn} (nd : (fns.map (·.w)).Nodup) {f : Fn} (h : f ∈ fns) : fnOf fns f.w = some f := by
  unfold fnOf
  induction fns with
  | nil => cases h
  | cons x fns ih =>
    rw [List.map_cons, List.nodup_cons] at nd
    rw [List.find?_cons]
    rcases List.mem_cons.mp h with rfl | h
    · simp
    · have ne : (x.w == f.w) = false := by
        rw [beq_eq_false_iff_ne]
        intro z
        exact nd.1 (List.mem_map.mpr ⟨f, h, z.symm⟩)
      rw [ne]
      exact ih nd.2 h
section
variable {P : Program} {w : World} {K : PySem.W.Frag} {mg : Str → Option Value} {base : Heap}
theorem ok_fn (T : Txt K mg) : Has P w K mg base "function_of" 1 ["program", "word"] S_fn := by
  refine dv_function_of T S_fn rfl fun pvs lp pre => ?_
  obtain ⟨fns, s, rfl⟩ := pre
  have told : ∀ {r : PV}, r = ((fnOf fns s).map encFn).getD .non → S_fn.post [encPg fns, .str s] r [] := fun {r} e fns2 s2 e2 => by
    injection e2 with e3 e2; injection e2 with e4 _; injection e4 with e4
    rw [← encPg_inj e3, ← e4]; exact e
  unfold rd_function_of
  generalize hE : endsOf S_fn _ = E
  have rt : ∀ r ρ, r = ((fnOf fns s).map encFn).getD .non → E.rt (.pv r) ρ := fun r ρ e => by rw [← hE]; exact (ends_rt rfl (fun _ => told e) ρ).1
  show qSeq _ _ E [.val (encPg fns), .val (.str s), .un]
  have h0 : encPg fns = .tup [.str (Str.ofString "program"), .tup (fns.map encFn)] := rfl
  rw [h0]
  walk_at "px"
  refine for_mapT encFn (fun dn ρ => ∃ o2 : Option PV, fnOf fns s = fnOf (fns.drop dn.length) s ∧ ρ = [.val (encPg fns), .val (.str s), plS o2]) _ _ ⟨none, rfl, rfl⟩ ?_ ?_
  · rintro ρ ⟨o2, e, rfl⟩
    walk_at "px"
    refine rt _ _ ?_
    rw [e, List.drop_length]; rfl
  · rintro dn f lf ρ e ⟨o2, e2, rfl⟩ N ih
    have ed : fns.drop dn.length = f :: lf := by rw [e, List.drop_left]
    have ed2 : fns.drop (dn.length + 1) = lf := by rw [e, ← List.drop_drop, List.drop_left]; rfl
    rw [ed] at e2
    have ef : encFn f = .tup [.str f.w, .tup f.ps, f.fam, f.ix, .int (f.pl : Nat), .tup (f.cl.map encCl)] := rfl
    rw [ef]
    walk_at "px"
    refine br_i (fun c => rt _ _ ?_) fun c => ih _ ⟨some (encFn f), ?_, rfl⟩
    · rw [e2]; unfold fnOf; rw [List.find?_cons, c]; rfl
    · rw [e2, List.length_append, List.length_singleton, ed2]; unfold fnOf; rw [List.find?_cons, c]
end

end Lw
set_option maxHeartbeats 4000000
namespace Lw
open PySem L2 PyProof.Rows Px
def S_nmin (n : Nat) : FS := { io := [false], pre := fun ps => ∃ t, ps = [t] ∧ tsh t = true ∧ dep t < n ∧ psz t ≤ 300, post := fun ps r _ => ∀ t, ps = [t] → r = .tup ((nmP t).map PV.str) }
theorem S_nmin_fr (n : Nat) : (S_nmin n).fr = false := rfl
theorem S_nmin_io (n : Nat) : (S_nmin n).io = [false] := rfl
/-- each once -/
def ddp : List Str → List Str → List Str
  | acc, [] => acc
  | acc, s :: r => ddp (if s ∈ acc then acc else acc ++ [s]) r
mutual
/-- the law's names of a term -/
def nmL : PV → List Str
  | .str s => [s]
  | .tup [] => []
  | .tup (_ :: ps) => nmLs [] ps
  | .lst _ => []
  | .scr _ => []
  | .nst _ _ _ => []
  | .ty _ => []
  | .non => []
  | .bl _ => []
  | .int _ => []
  | .dic _ _ => []
def nmLs (acc : List Str) : List PV → List Str
  | [] => acc
  | p :: ps => nmLs (acc ++ (nmL p).filter fun s => !acc.contains s) ps
end
def S_nml (n : Nat) : FS := { io := [false], pre := fun ps => ∃ t, ps = [t] ∧ tsh t = true ∧ dep t < n ∧ psz t ≤ 300, post := fun ps r _ => ∀ t, ps = [t] → r = .lst ((nmL t).map PV.str) }
theorem S_nml_fr (n : Nat) : (S_nml n).fr = false := rfl
theorem S_nml_io (n : Nat) : (S_nml n).io = [false] := rfl
def S_pob : FS := { io := [false], pre := fun ps => ∃ t, ps = [t] ∧ tsh t = true ∧ psz t ≤ 300, post := fun ps r _ => ∀ t, ps = [t] → ∃ L, r = .lst L ∧ (∀ p, p ∈ L ↔ p ∈ subT t) ∧ L.length ≤ 300 }
theorem S_pob_fr : S_pob.fr = false := rfl
theorem S_pob_io : S_pob.io = [false] := rfl
def hdS : PV → Str
  | .tup (.str s :: _) => s
  | _ => Str.ofString ""
def wds (fns : List Fn) : List Str := fns.map (·.w)
def S_lcl : FS := { io := [false, false], pre := fun ps => ∃ (fns : List Fn) (t : PV), ps = [encPg fns, t] ∧ fns.length ≤ 12 ∧ tsh t = true ∧ psz t ≤ 300, post := fun ps r _ => ∀ (fns : List Fn) (t : PV), ps = [encPg fns, t] → ∃ L, r = .lst L ∧ (∀ p, p ∈ L ↔ p ∈ subT t ∧ hdS p ∈ wds fns) ∧ L.length ≤ 300 }
theorem S_lcl_fr : S_lcl.fr = false := rfl
theorem S_lcl_io : S_lcl.io = [false, false] := rfl
local macro_rules | `(tactic| walk_at "px") => `(tactic| simp -dsimp only [qVar, qK, qNil, qCons, qTup, qLst, vals, looks, R.look, R.wk, qCB, qB, qOp2, qTru, truG, qAnd, qOr, qNot, qAndV, qOrV, qNotV, qIfE, qNo, qPart, qSl, gSl, qIt, qRng1, qRng2, qgN, qgNil, qgCons, qgT, notIo_zero, notIo_succ, notIo_nil', slOk_un, slOk_val, slOk_own, slOk_pl, slOk_pd, notIos_nil, notIos_cons, qYes, qLc, qNext, qSeq, qBreak, qCont, qFrz, frz, qDrop, retG, qRet, qRetN, qIf, qSet, qOwn, qAsg, qFor, qMut, ownTy, gAppend, gExtend, gPop, isOwn, qSetIx, qCall, splitArgs, putOuts, setOwn, finOk, endsOf, mk, outsOf, uns,
  gAdd, gInt, gInt0, gEq, gNe, gIn, gNotIn, gIs, gIsNot, Px.isNon, gIx, getP, gLen, gAbs, gIntC, gSum, gMax, gMax2, gMax3, gMinT, gAll, gAny, gList, gTuple, gIsi, qNeg, qDict0, wipeE, lcGo_nil, br_t, br_f, atI_0, atI_1, atI_2, atI_3, ixN_0, ixN_1, ixN_2, ixN_3, List.length_map, List.length_set, cut_from1, isTy, tyN, gIsiT, asTys, gListD, keyP, isDic, qGet1, qGet2, qLZ, gZip, qPairs, mergeP, qDisp, gDictC, gStr, qChain, qPar, qAug, qMeth, tyIs, gIndex, qLcK, qDc, qDcK, dicAt, qForK, qZipI, qCallB, qCallF, splitB, qTake, tkEnds, tkRt, tkBack, Px.isN, isNst, gIxN, gPop0, gInsert, qSetSeed, qStep, qPar3, qLcO, lcoK, stEnds, stGo, immS, Px.imm, endsLaw, Option.isSome_some, Option.isSome_none, isEmp_concat, List.getLast?_concat, List.dropLast_concat, List.isEmpty_nil, gEqX, gNeX, qEnumI, enumP, gSortSet, gLenSet, qSortSc, asStrs, List.any_cons, List.any_nil, tyOk_str, tyOk_tuple, tyOk_int, tyOk_bool, tyOk_list, tyOk_dict, Option.map_some, Option.map_none,
  eqOk_str, eqOk_int, eqOk_bl, eqOk_non, eqOkW_str, eqOkW_int, eqOkW_bl, eqOkW_non, gEqW, gNeW, qVals, ownDic, qLc2, gLtX, gGtX, gSortX, peq_str, peq_int, peq_bl, List.getElem?_cons_zero, List.getElem?_cons_succ, List.getElem?_nil, List.set_cons_zero, List.set_cons_succ, List.zipWith_cons_cons, List.zipWith_nil_left, List.replicate_succ, List.replicate_zero, List.cons_append, List.nil_append, List.length_cons, List.length_nil, List.map_cons, List.map_nil, ↓reduceIte, Bool.false_eq_true, and_true, true_and, Bool.not_true, Bool.not_false, Nat.reduceAdd, Nat.reduceLT, Nat.reduceLeDiff, Nat.zero_lt_succ, Nat.lt_add_one, ne_eq, not_true_eq_false, not_false_eq_true, String.reduceEq, String.reduceBEq, Bool.or_false, Bool.false_or, Bool.or_true, Bool.true_or, Bool.and_false, Bool.and_true, Bool.false_and, Bool.true_and, reduceCtorEq, S_nmin_fr, S_nmin_io, S_nml_fr, S_nml_io, S_pob_fr, S_pob_io, S_lcl_fr, S_lcl_io, S_fn_fr, S_fn_io])
theorem nmPs_map : ∀ ps : List PV, nmPs ps = ps.flatMap nmP
  | [] => by rw [nmPs]; rfl
  | p :: ps => by rw [nmPs, nmPs_map ps]; rfl
theorem nmin_i {n : Nat} {ρ : En} {t : PV} {Q : PK1} {dm : Dum Q} (h : tsh t = true) (hd : dep t < n) (hz : psz t ≤ 300) (k : Q (.pv (.tup ((nmP t).map PV.str))) ρ) : callR (S_nmin n) [.pv t] ρ Q dm :=
  call_p (ps := [t]) rfl rfl ⟨t, rfl, h, hd, hz⟩ fun r hp => by rw [hp _ rfl]; exact k
theorem nml_i {n : Nat} {ρ : En} {t : PV} {Q : PK1} {dm : Dum Q} (h : tsh t = true) (hd : dep t < n) (hz : psz t ≤ 300) (k : Q (.pv (.lst ((nmL t).map PV.str))) ρ) : callR (S_nml n) [.pv t] ρ Q dm :=
  call_p (ps := [t]) rfl rfl ⟨t, rfl, h, hd, hz⟩ fun r hp => by rw [hp _ rfl]; exact k
theorem pob_i {ρ : En} {t : PV} {Q : PK1} {dm : Dum Q} (h : tsh t = true) (hz : psz t ≤ 300) (k : ∀ L, (∀ p, p ∈ L ↔ p ∈ subT t) → L.length ≤ 300 → Q (.pv (.lst L)) ρ) : callR S_pob [.pv t] ρ Q dm :=
  call_p (ps := [t]) rfl rfl ⟨t, rfl, h, hz⟩ fun r hp => by
    obtain ⟨L, rfl, h1, h2⟩ := hp _ rfl
    exact k L h1 h2
theorem lcl_i {ρ : En} {fns : List Fn} {t : PV} {Q : PK1} {dm : Dum Q} (hl : fns.length ≤ 12) (h : tsh t = true) (hz : psz t ≤ 300) (k : ∀ L, (∀ p, p ∈ L ↔ p ∈ subT t ∧ hdS p ∈ wds fns) → L.length ≤ 300 → Q (.pv (.lst L)) ρ) : callR S_lcl [.pv (encPg fns), .pv t] ρ Q dm :=
  call_p (ps := [encPg fns, t]) rfl rfl ⟨fns, t, rfl, hl, h, hz⟩ fun r hp => by
    obtain ⟨L, rfl, h1, h2⟩ := hp _ _ rfl
    exact k L h1 h2
theorem psz_tup (p : PV) (ps : List PV) : psz (.tup (p :: ps)) = psz p + pszs ps + 1 := by rw [psz, pszs]
mutual
theorem nmP_len : ∀ p : PV, (nmP p).length ≤ psz p
  | .str s => by rw [nmP, psz]; simp
  | .tup [] => by rw [nmP]; simp
  | .tup (q :: ps) => by
    have := nmPs_len ps
    have := psz_tup q ps
    rw [nmP]; omega
  | .lst _ => by rw [nmP]; simp
  | .scr _ => by rw [nmP]; simp
  | .nst _ _ _ => by rw [nmP]; simp
  | .ty _ => by rw [nmP]; simp
  | .non => by rw [nmP]; simp
  | .bl _ => by rw [nmP]; simp
  | .int _ => by rw [nmP]; simp
  | .dic _ _ => by rw [nmP]; simp
theorem nmPs_len : ∀ ps : List PV, (nmPs ps).length ≤ pszs ps
  | [] => by rw [nmPs]; simp
  | p :: ps => by
    have := nmP_len p
    have := nmPs_len ps
    rw [nmPs, pszs, List.length_append]; omega
end
mutual
theorem nmL_len : ∀ p : PV, (nmL p).length ≤ psz p
  | .str s => by rw [nmL, psz]; simp
  | .tup [] => by rw [nmL]; simp
  | .tup (q :: ps) => by
    have := nmLs_len [] ps
    have := psz_tup q ps
    simp only [List.length_nil] at *
    rw [nmL]; omega
  | .lst _ => by rw [nmL]; simp
  | .scr _ => by rw [nmL]; simp
  | .nst _ _ _ => by rw [nmL]; simp
  | .ty _ => by rw [nmL]; simp
  | .non => by rw [nmL]; simp
  | .bl _ => by rw [nmL]; simp
  | .int _ => by rw [nmL]; simp
  | .dic _ _ => by rw [nmL]; simp
theorem nmLs_len : ∀ (acc : List Str) (ps : List PV), (nmLs acc ps).length ≤ acc.length + pszs ps
  | acc, [] => by rw [nmLs]; simp
  | acc, p :: ps => by
    have h1 := nmL_len p
    have h2 := nmLs_len (acc ++ (nmL p).filter fun s => !acc.contains s) ps
    have h3 := List.length_filter_le (fun s => !acc.contains s) (nmL p)
    rw [nmLs, pszs]
    rw [List.length_append] at h2
    omega
end
theorem subTs_iff : ∀ (ps : List PV) (q : PV), q ∈ subTs ps ↔ ∃ p ∈ ps, q ∈ subT p
  | [], q => by simp [subTs]
  | p :: ps, q => by rw [subTs, List.mem_append, subTs_iff ps]; simp
theorem subTs_append (as bs : List PV) : subTs (as ++ bs) = subTs as ++ subTs bs := by
  induction as with
  | nil => rw [List.nil_append, subTs]; rfl
  | cons a as ih => rw [List.cons_append, subTs, subTs, ih, List.append_assoc]
theorem memP_strs' (s : Str) (ss : List Str) : memP (.str s) (ss.map PV.str) = ss.contains s := memP_strs s ss
section
variable {P : Program} {w : World} {K : PySem.W.Frag} {mg : Str → Option Value} {base : Heap}
theorem ok_nmin (T : Txt K mg) : ∀ n : Nat, Has P w K mg base "names_in" n ["pattern"] (S_nmin n)
  | 0 => by
    refine (Px.has_none T.d_names_in (fun F => F.binds (ps := ["pattern"]) fun _ _ _ _ _ _ us hl => match us, hl with | [_], _ => rfl) fun pvs h => ?_ : Has P w K mg base "names_in" 0 _ _)
    obtain ⟨_, _, _, h, _⟩ := h
    omega
  | n + 1 => by
    refine dv_names_in T (ok_nmin T n) (S_nmin (n + 1)) rfl fun pvs lp pre => ?_
    obtain ⟨t, rfl, ht, hd, hz⟩ := pre
    unfold rd_names_in
    generalize hE : endsOf (S_nmin (n + 1)) _ = E
    have rt : ∀ r ρ, r = PV.tup ((nmP t).map PV.str) → E.rt (.pv r) ρ := fun r ρ e => by
      rw [← hE]; exact (ends_rt rfl (fun _ t2 e2 => by injection e2 with e2 _; rw [← e2]; exact e) ρ).1
    show qSeq _ _ E [.val t, .un, .un]
    have tn : tyN t ≠ "" := good_ty (tsh_good _ ht)
    rcases tsh_cases ht with ⟨s, rfl⟩ | ⟨v, ps, rfl, hps⟩
    · walk_at "px"
      exact ⟨small_of (by omega), rt _ _ (by rw [nmP]; rfl)⟩
    · rw [psz_tup] at hz
      have hzl := len_pszs ps
      walk_at "px"
      refine lc2R_i (lc2_mapP (fun p => (nmP p).map PV.str) ps _ ?_ fun dn x lf e N k => ?_)
      · walk_at "px"
        refine rt _ _ ?_
        rw [nmP, nmPs_map, List.map_flatMap]
      · have hx : x ∈ ps := by rw [e]; simp
        have hxz := psz_mem x hx
        have hxd := dep_mem x hx
        have hxt := tshs_mem hps x hx
        rw [dep, deps] at hd
        have hdn : (dn.flatMap fun p => (nmP p).map PV.str).length + (nmP x).length ≤ 300 := by
          have h1 : (ps.flatMap nmP).length ≤ pszs ps := by rw [← nmPs_map]; exact nmPs_len ps
          have h3 : (ps.flatMap nmP).length = (dn.flatMap nmP).length + ((nmP x).length + (lf.flatMap nmP).length) := by rw [e, List.flatMap_append, List.flatMap_cons, List.length_append, List.length_append]
          have h2 : (dn.flatMap fun p => (nmP p).map PV.str).length = (dn.flatMap nmP).length := by
            rw [← List.map_flatMap, List.length_map]
          omega
        walk_at "px"
        refine nmin_i hxt (by omega) (by omega) ?_
        walk_at "px"
        refine lc_mapA PV.str PV.str (nmP x) _ _ (by omega) ?_ fun s hs acc N2 sm k2 => ?_
        · walk_at "px"
          exact k
        · walk_at "px"
          exact ⟨sm, k2⟩
theorem ok_nml (T : Txt K mg) : ∀ n : Nat, Has P w K mg base "_law_names" n ["term"] (S_nml n)
  | 0 => by
    refine (Px.has_none T.d__law_names (fun F => F.binds (ps := ["term"]) fun _ _ _ _ _ _ us hl => match us, hl with | [_], _ => rfl) fun pvs h => ?_ : Has P w K mg base "_law_names" 0 _ _)
    obtain ⟨_, _, _, h, _⟩ := h
    omega
  | n + 1 => by
    refine dv__law_names T (ok_nml T n) (S_nml (n + 1)) rfl fun pvs lp pre => ?_
    obtain ⟨t, rfl, ht, hd, hz⟩ := pre
    unfold rd__law_names
    generalize hE : endsOf (S_nml (n + 1)) _ = E
    have tol : ∀ r ρ, r = PV.lst ((nmL t).map PV.str) → E.rt (.pv r) ρ ∧ E.rt (.fr r) ρ := fun r ρ e => by
      rw [← hE]; exact ends_rt rfl (fun _ t2 e2 => by injection e2 with e2 _; rw [← e2]; exact e) ρ
    show qSeq _ _ E [.val t, .un, .un, .un]
    have tn : tyN t ≠ "" := good_ty (tsh_good _ ht)
    rcases tsh_cases ht with ⟨s, rfl⟩ | ⟨v, ps, rfl, hps⟩
    · walk_at "px"
      exact ⟨small_of (by omega), (tol _ _ (by rw [nmL]; rfl)).2⟩
    · rw [psz_tup] at hz
      have hzl := len_pszs ps
      walk_at "px"
      refine ⟨small_of (by omega), for_mapP (fun dn ρ => ∃ (acc : List Str) (o2 : Option PV), (∀ lf, ps = dn ++ lf → nmLs [] ps = nmLs acc lf ∧ acc.length + pszs lf ≤ 300) ∧ ρ = [.val (.tup (.str v :: ps)), .val (.lst (acc.map PV.str)), plS o2, .un]) _ _ ⟨[], none, fun lf e => ?_, rfl⟩ ?_ ?_⟩
      · rw [List.nil_append] at e; subst e; exact ⟨rfl, by simp only [List.length_nil]; omega⟩
      · rintro ρ ⟨acc, o2, h, rfl⟩
        obtain ⟨h1, h2⟩ := h [] (by simp)
        walk_at "px"
        refine (tol _ _ ?_).1
        rw [nmL, h1, nmLs]
      · rintro dn x lf ρ e ⟨acc, o2, h, rfl⟩ N ih
        obtain ⟨h1, h2⟩ := h (x :: lf) e
        have hx : x ∈ ps := by rw [e]; simp
        have hxz := psz_mem x hx
        have hxd := dep_mem x hx
        have hxt := tshs_mem hps x hx
        rw [dep, deps] at hd
        rw [pszs] at h2
        have hl := nmL_len x
        have hf := List.length_filter_le (fun s => !acc.contains s) (nmL x)
        walk_at "px"
        refine nml_i hxt (by omega) (by omega) ?_
        walk_at "px"
        refine lcR_i (lc_fmT PV.str (fun s => if acc.contains s = true then none else some (PV.str s)) (nmL x) _ (by omega) ?_ fun s hs acc2 N2 sm k2 => ?_)
        · have ef : ∀ L : List Str, L.filterMap (fun s => if acc.contains s = true then none else some (PV.str s)) = (L.filter fun s => !acc.contains s).map PV.str := fun L => by
            induction L with
            | nil => rfl
            | cons s L ihL =>
              rw [List.filterMap_cons, List.filter_cons, ihL]
              cases acc.contains s <;> rfl
          rw [ef]
          walk_at "px"
          refine ⟨small_of (by omega), ih _ ⟨acc ++ (nmL x).filter fun s => !acc.contains s, some x, fun lf2 e2 => ?_, by rw [List.map_append]; rfl⟩⟩
          have e3 : lf2 = lf := by
            rw [e, List.append_assoc] at e2
            have := List.append_cancel_left e2
            simpa using this.symm
          subst e3
          refine ⟨by rw [h1, nmLs], ?_⟩
          rw [List.length_append]
          omega
        · walk_at "px"
          rw [memP_strs']
          refine ⟨eqOk_strs _, ?_⟩
          cases hc : acc.contains s with
          | true => rw [hc] at k2; exact ⟨fun h => (by cases h), fun _ => by simpa using k2⟩
          | false => rw [hc] at k2; exact ⟨fun _ => ⟨sm, k2⟩, fun h => by cases h⟩
theorem ok_pob (T : Txt K mg) : Has P w K mg base "parts_of_body" 1 ["body"] S_pob := by
  refine dv_parts_of_body T S_pob rfl fun pvs lp pre => ?_
  obtain ⟨t, rfl, ht, hz⟩ := pre
  unfold rd_parts_of_body
  generalize hE : endsOf S_pob _ = E
  have rt : ∀ L ρ, (∀ p, p ∈ L ↔ p ∈ subT t) → L.length ≤ 300 → E.rt (.fr (.lst L)) ρ := fun L ρ h1 h2 => by
    rw [← hE]; exact (ends_rt rfl (fun _ t2 e2 => by injection e2 with e2 _; rw [← e2]; exact ⟨L, rfl, h1, h2⟩) ρ).2
  show qSeq _ _ E [.val t, .un, .un, .un]
  walk_at "px"
  refine ⟨small_of (by omega), small_of (by omega), ?_⟩
  refine while_i (fun m ρ => ∃ (F W : List PV) (o3 : Option PV), m = pszs W ∧ tshs W = true ∧ (∀ p, p ∈ subT t ↔ p ∈ F ∨ p ∈ subTs W) ∧ F.length + pszs W ≤ 300 ∧ ρ = [.val t, .own false (.lst F), .own false (.lst W), plS o3]) _ ⟨[], [t], none, rfl, by rw [tshs, ht, tshs]; rfl, fun p => by simp [subTs], by simp [pszs]; exact hz, rfl⟩ ?_
  rintro m ρ ⟨F, W, o3, rfl, hW, hin, hsz, rfl⟩
  rcases List.eq_nil_or_concat W with rfl | ⟨W, x, rfl⟩
  · rw [pszs] at hsz
    walk_at "px"
    exact rt _ _ (fun p => by rw [hin p]; simp [subTs]) (by omega)
  · rw [List.concat_eq_append] at *
    rw [pszs_append, pszs, pszs] at hsz ⊢
    have hx : tsh x = true := tshs_mem hW x (by simp)
    have hW' : tshs W = true := tshs_all W fun p hp => tshs_mem hW p (by simp [hp])
    have hxp := psz_pos x
    have tn : tyN x ≠ "" := good_ty (tsh_good _ hx)
    have hin' : ∀ p, p ∈ subT t ↔ p ∈ F ∨ p ∈ subTs W ∨ p ∈ subT x := fun p => by
      rw [hin p, subTs_append, List.mem_append]; simp [subTs]
    rcases tsh_cases hx with ⟨s, rfl⟩ | ⟨v, ps, rfl, hps⟩
    · walk_at "px"
      exact ⟨pszs W, by omega, F, W, some _, rfl, hW', fun p => by rw [hin' p]; simp [subT], by omega, rfl⟩
    · rw [psz_tup] at *
      have := len_pszs ps
      have := len_pszs W
      walk_at "px"
      refine ⟨small_of (by omega), small_of (by omega), pszs (W ++ ps), by rw [pszs_append]; omega, F ++ [.tup (.str v :: ps)], W ++ ps, some _, rfl, tshs_all _ fun p hp => ?_, fun p => ?_, ?_, rfl⟩
      · rcases List.mem_append.mp hp with hp | hp
        · exact tshs_mem hW' p hp
        · exact tshs_mem hps p hp
      · rw [hin' p, subT, subTs_append, List.mem_append, List.mem_append, List.mem_cons, List.mem_singleton]
        constructor
        · rintro (h | h | h | h)
          · exact .inl (.inl h)
          · exact .inr (.inl h)
          · exact .inl (.inr h)
          · exact .inr (.inr h)
        · rintro ((h | h) | h | h)
          · exact .inl h
          · exact .inr (.inr (.inl h))
          · exact .inr (.inl h)
          · exact .inr (.inr (.inr h))
      · rw [List.length_append, List.length_singleton, pszs_append]; omega
theorem ok_lcl (T : Txt K mg) : Has P w K mg base "_law_calls" 1 ["program", "body"] S_lcl := by
  refine dv__law_calls T S_lcl rfl fun pvs lp pre => ?_
  obtain ⟨fns, t, rfl, hfl, ht, hz⟩ := pre
  unfold rd__law_calls
  generalize hE : endsOf S_lcl _ = E
  have rt : ∀ L ρ, (∀ p, p ∈ L ↔ p ∈ subT t ∧ hdS p ∈ wds fns) → L.length ≤ 300 → E.rt (.fr (.lst L)) ρ := fun L ρ h1 h2 => by
    rw [← hE]
    refine (ends_rt rfl (fun _ fns2 t2 e2 => ?_) ρ).2
    injection e2 with e3 e2; injection e2 with e4 _
    rw [← encPg_inj e3, ← e4]
    exact ⟨L, rfl, h1, h2⟩
  show qSeq _ _ E [.val (encPg fns), .val t, .un, .un, .un, .un, .un]
  have h0 : encPg fns = .tup [.str (Str.ofString "program"), .tup (fns.map encFn)] := rfl
  rw [h0]
  walk_at "px"
  refine ⟨small_of (by omega), small_of (by omega), ?_⟩
  refine lcR_i (lc_mapA encFn (fun f => .str f.w) fns [] _ (by simp only [List.length_nil]; omega) ?_ fun f hf acc N sm k => ?_)
  rotate_left
  · have ef : encFn f = .tup [.str f.w, .tup f.ps, f.fam, f.ix, .int (f.pl : Nat), .tup (f.cl.map encCl)] := rfl
    rw [ef]
    walk_at "px"
    exact ⟨sm, k⟩
  have ew : ([] : List PV) ++ fns.map (fun f => PV.str f.w) = (wds fns).map PV.str := by unfold wds; rw [List.map_map]; rfl
  rw [ew]
  rw [← h0]
  walk_at "px"
  refine while_i (fun m ρ => ∃ (F W : List PV) (o5 : Option PV), m = pszs W ∧ tshs W = true ∧ (∀ p, (p ∈ subT t ∧ hdS p ∈ wds fns) ↔ p ∈ F ∨ (p ∈ subTs W ∧ hdS p ∈ wds fns)) ∧ F.length + pszs W ≤ 300 ∧ ρ = [.val (encPg fns), .val t, .own false (.lst F), .own false (.lst W), .val (.lst ((wds fns).map PV.str)), plS o5, .un]) _ ⟨[], [t], none, rfl, by rw [tshs, ht, tshs]; rfl, fun p => by simp [subTs], by simp [pszs]; exact hz, rfl⟩ ?_
  rintro m ρ ⟨F, W, o5, rfl, hW, hin, hsz, rfl⟩
  rcases List.eq_nil_or_concat W with rfl | ⟨W, x, rfl⟩
  · rw [pszs] at hsz
    walk_at "px"
    refine br_i (fun h => by simp at h) fun _ => ?_
    exact rt _ _ (fun p => by rw [hin p]; simp [subTs]) (by omega)
  · rw [List.concat_eq_append] at *
    rw [pszs_append, pszs, pszs] at hsz ⊢
    have hx : tsh x = true := tshs_mem hW x (by simp)
    have hW' : tshs W = true := tshs_all W fun p hp => tshs_mem hW p (by simp [hp])
    have hxp := psz_pos x
    have tn : tyN x ≠ "" := good_ty (tsh_good _ hx)
    have hin' : ∀ p, (p ∈ subT t ∧ hdS p ∈ wds fns) ↔ p ∈ F ∨ ((p ∈ subTs W ∨ p ∈ subT x) ∧ hdS p ∈ wds fns) := fun p => by
      rw [hin p, subTs_append, List.mem_append]; simp [subTs]
    have gt : decide ((0 : Int) < (((W ++ [x]).length : Nat) : Int)) = true := by rw [decide_eq_true_eq, List.length_append, List.length_singleton]; omega
    rcases tsh_cases hx with ⟨s, rfl⟩ | ⟨v, ps, rfl, hps⟩
    · walk_at "px"
      rw [gt]
      exact ⟨fun _ => ⟨pszs W, by omega, F, W, some (.str s), rfl, hW', fun p => by rw [hin' p]; simp [subT], by omega, rfl⟩, fun h => by cases h⟩
    · rw [psz_tup] at *
      have := len_pszs ps
      have := len_pszs W
      have hin2 : ∀ F' : List PV, (∀ p, p ∈ F' ↔ p ∈ F ∨ (p = .tup (.str v :: ps) ∧ v ∈ wds fns)) → ∀ p, (p ∈ subT t ∧ hdS p ∈ wds fns) ↔ p ∈ F' ∨ (p ∈ subTs (W ++ ps) ∧ hdS p ∈ wds fns) := fun F' hF p => by
        rw [hin' p, hF p, subT, subTs_append, List.mem_append, List.mem_cons]
        constructor
        · rintro (h | ⟨h | h | h, h2⟩)
          · exact .inl (.inl h)
          · exact .inr ⟨.inl h, h2⟩
          · subst h; exact .inl (.inr ⟨rfl, h2⟩)
          · exact .inr ⟨.inr h, h2⟩
        · rintro ((h | ⟨h, h2⟩) | ⟨h | h, h2⟩)
          · exact .inl h
          · subst h; exact .inr ⟨.inr (.inl rfl), h2⟩
          · exact .inr ⟨.inl h, h2⟩
          · exact .inr ⟨.inr (.inr h), h2⟩
      have hts : tshs (W ++ ps) = true := tshs_all _ fun p hp => by
        rcases List.mem_append.mp hp with hp | hp
        · exact tshs_mem hW' p hp
        · exact tshs_mem hps p hp
      walk_at "px"
      rw [gt, memP_strs']
      refine ⟨fun _ => ⟨eqOk_strs _, br_i (fun c => ?_) fun c => ?_⟩, fun h => by cases h⟩
      · have hv : v ∈ wds fns := by simpa using c
        refine ⟨small_of (by omega), small_of (by omega), pszs (W ++ ps), by rw [pszs_append]; omega, F ++ [.tup (.str v :: ps)], W ++ ps, some (.tup (.str v :: ps)), rfl, hts, hin2 _ fun p => ?_, by rw [List.length_append, List.length_singleton, pszs_append]; omega, rfl⟩
        rw [List.mem_append, List.mem_singleton]
        exact or_congr Iff.rfl ⟨fun h => ⟨h, hv⟩, fun h => h.1⟩
      · have hv : v ∉ wds fns := by simpa using c
        refine ⟨small_of (by omega), pszs (W ++ ps), by rw [pszs_append]; omega, F, W ++ ps, some (.tup (.str v :: ps)), rfl, hts, hin2 _ fun p => ?_, by rw [pszs_append]; omega, rfl⟩
        exact ⟨.inl, fun h => h.elim id fun h => absurd h.2 hv⟩
end

end Lw
set_option maxHeartbeats 4000000
namespace Lw
open PySem L2 PyProof.Rows Px
mutual
def takP : PV → PV → As → Option As
  | .str s, t, d => some (putD d s t)
  | .tup [], _, _ => none
  | .tup (p :: ps), t, d => match p, t with
    | .str v, .tup (.str w :: qs) => if v = w then takPs ps qs d else none
    | _, _ => none
  | .lst _, _, _ => none
  | .scr _, _, _ => none
  | .nst _ _ _, _, _ => none
  | .ty _, _, _ => none
  | .non, _, _ => none
  | .bl _, _, _ => none
  | .int _, _, _ => none
  | .dic _ _, _, _ => none
def takPs : List PV → List PV → As → Option As
  | p :: ps, q :: qs, d => match takPs ps qs d with
    | some e => takP p q e
    | none => none
  | [], _, d => some d
  | _ :: _, [], d => some d
end
def encF : Option As → PV
  | none => .non
  | some d => encD d
mutual
/-- of the right number of parts, by the words -/
def okT (ar : Str → Option Nat) : PV → Bool
  | .str _ => true
  | .tup [] => false
  | .tup (p :: ps) => (match p with
    | .str s => (match ar s with
      | some k => ps.length == k
      | none => false)
    | _ => false) && okTs ar ps
  | .lst _ => false
  | .scr _ => false
  | .nst _ _ _ => false
  | .ty _ => false
  | .non => false
  | .bl _ => false
  | .int _ => false
  | .dic _ _ => false
def okTs (ar : Str → Option Nat) : List PV → Bool
  | [] => true
  | p :: ps => okT ar p && okTs ar ps
end
def isTup : PV → Bool
  | .tup _ => true
  | _ => false
mutual
/-- without names -/
def okV (ar : Str → Option Nat) : PV → Bool
  | .str _ => false
  | .tup [] => false
  | .tup (p :: ps) => (match p with
    | .str s => (match ar s with
      | some k => ps.length == k
      | none => false)
    | _ => false) && okVs ar ps
  | .lst _ => false
  | .scr _ => false
  | .nst _ _ _ => false
  | .ty _ => false
  | .non => false
  | .bl _ => false
  | .int _ => false
  | .dic _ _ => false
def okVs (ar : Str → Option Nat) : List PV → Bool
  | [] => true
  | p :: ps => okV ar p && okVs ar ps
end
structure TakOk (ar : Str → Option Nat) (ps qs : List PV) : Prop where
  len : ps.length = qs.length
  p : okTs ar ps = true
  q : okVs ar qs = true
  psz : pszs ps ≤ 300
  dep : deps qs ≤ 60
def S_tak : FS := { io := [false, false], pre := fun pvs => ∃ (ar : Str → Option Nat) (ps qs : List PV), pvs = [.tup ps, .tup qs] ∧ TakOk ar ps qs, post := fun pvs r _ => ∀ (ps qs : List PV), pvs = [.tup ps, .tup qs] → r = encF (takPs ps qs []) }
def S_ltak : FS := { io := [false, false], pre := fun pvs => ∃ (ar : Str → Option Nat) (ps qs : List PV), pvs = [.tup ps, .tup qs] ∧ TakOk ar ps qs, post := fun pvs r _ => ∀ (ps qs : List PV), pvs = [.tup ps, .tup qs] → r = encF (takPs ps qs []) }
theorem S_tak_fr : S_tak.fr = false := rfl
theorem S_tak_io : S_tak.io = [false, false] := rfl
theorem S_ltak_fr : S_ltak.fr = false := rfl
theorem S_ltak_io : S_ltak.io = [false, false] := rfl
local macro_rules | `(tactic| walk_at "px") => `(tactic| simp -dsimp only [qVar, qK, qNil, qCons, qTup, qLst, vals, looks, R.look, R.wk, qCB, qB, qOp2, qTru, truG, qAnd, qOr, qNot, qAndV, qOrV, qNotV, qIfE, qNo, qPart, qSl, gSl, qIt, qRng1, qRng2, qgN, qgNil, qgCons, qgT, notIo_zero, notIo_succ, notIo_nil', slOk_un, slOk_val, slOk_own, slOk_pl, slOk_pd, notIos_nil, notIos_cons, qYes, qLc, qNext, qSeq, qBreak, qCont, qFrz, frz, qDrop, retG, qRet, qRetN, qIf, qSet, qOwn, qAsg, qFor, qMut, ownTy, gAppend, gExtend, gPop, isOwn, qSetIx, qCall, splitArgs, putOuts, setOwn, finOk, endsOf, mk, outsOf, uns,
  gAdd, gInt, gInt0, gEq, gNe, gIn, gNotIn, gIs, gIsNot, Px.isNon, gIx, getP, gLen, gAbs, gIntC, gSum, gMax, gMax2, gMax3, gMinT, gAll, gAny, gList, gTuple, gIsi, qNeg, qDict0, wipeE, lcGo_nil, br_t, br_f, atI_0, atI_1, atI_2, atI_3, ixN_0, ixN_1, ixN_2, ixN_3, List.length_map, List.length_set, cut_from1, isTy, tyN, gIsiT, asTys, gListD, keyP, isDic, qGet1, qGet2, qLZ, gZip, qPairs, mergeP, qDisp, gDictC, gStr, qChain, qPar, qAug, qMeth, tyIs, gIndex, qLcK, qDc, qDcK, dicAt, qForK, qZipI, qCallB, qCallF, splitB, qTake, tkEnds, tkRt, tkBack, Px.isN, isNst, gIxN, gPop0, gInsert, qSetSeed, qStep, qPar3, qLcO, lcoK, stEnds, stGo, immS, Px.imm, endsLaw, Option.isSome_some, Option.isSome_none, isEmp_concat, List.getLast?_concat, List.dropLast_concat, List.isEmpty_nil, gEqX, gNeX, qEnumI, enumP, gSortSet, gLenSet, qSortSc, asStrs, List.any_cons, List.any_nil, tyOk_str, tyOk_tuple, tyOk_int, tyOk_bool, tyOk_list, tyOk_dict, Option.map_some, Option.map_none,
  eqOk_str, eqOk_int, eqOk_bl, eqOk_non, eqOkW_str, eqOkW_int, eqOkW_bl, eqOkW_non, gEqW, gNeW, qVals, ownDic, qLc2, gLtX, gGtX, gSortX, peq_str, peq_int, peq_bl, List.getElem?_cons_zero, List.getElem?_cons_succ, List.getElem?_nil, List.set_cons_zero, List.set_cons_succ, List.zipWith_cons_cons, List.zipWith_nil_left, List.replicate_succ, List.replicate_zero, List.cons_append, List.nil_append, List.length_cons, List.length_nil, List.map_cons, List.map_nil, ↓reduceIte, Bool.false_eq_true, and_true, true_and, Bool.not_true, Bool.not_false, Nat.reduceAdd, Nat.reduceLT, Nat.reduceLeDiff, Nat.zero_lt_succ, Nat.lt_add_one, ne_eq, not_true_eq_false, not_false_eq_true, String.reduceEq, String.reduceBEq, Bool.or_false, Bool.false_or, Bool.or_true, Bool.true_or, Bool.and_false, Bool.and_true, Bool.false_and, Bool.true_and, reduceCtorEq, S_tak_fr, S_tak_io, S_ltak_fr, S_ltak_io])
theorem tak_i {ρ : En} {ar : Str → Option Nat} {ps qs : List PV} {Q : PK1} {dm : Dum Q} (h : TakOk ar ps qs) (k : Q (.pv (encF (takPs ps qs []))) ρ) : callR S_tak [.pv (.tup ps), .pv (.tup qs)] ρ Q dm :=
  call_p (ps := [.tup ps, .tup qs]) rfl rfl ⟨ar, ps, qs, rfl, h⟩ fun r hp => by rw [hp _ _ rfl]; exact k
theorem ltak_i {ρ : En} {ar : Str → Option Nat} {ps qs : List PV} {Q : PK1} {dm : Dum Q} (h : TakOk ar ps qs) (k : Q (.pv (encF (takPs ps qs []))) ρ) : callR S_ltak [.pv (.tup ps), .pv (.tup qs)] ρ Q dm :=
  call_p (ps := [.tup ps, .tup qs]) rfl rfl ⟨ar, ps, qs, rfl, h⟩ fun r hp => by rw [hp _ _ rfl]; exact k
theorem okT_cases {ar : Str → Option Nat} {p : PV} (h : okT ar p = true) : (∃ s, p = .str s) ∨ ∃ w ps, p = .tup (.str w :: ps) ∧ ar w = some ps.length ∧ okTs ar ps = true := by
  cases p with
  | str s => exact .inl ⟨s, rfl⟩
  | tup ps =>
    cases ps with
    | nil => simp [okT] at h
    | cons q ps =>
      cases q with
      | str v =>
        rw [okT, Bool.and_eq_true] at h
        cases e : ar v with
        | none => rw [e] at h; cases h.1
        | some k =>
          rw [e] at h
          have : ps.length = k := by simpa using h.1
          exact .inr ⟨v, ps, rfl, by rw [this]; exact e, h.2⟩
      | _ => simp [okT] at h
  | _ => simp [okT] at h
theorem okV_cases {ar : Str → Option Nat} {p : PV} (h : okV ar p = true) : ∃ w ps, p = .tup (.str w :: ps) ∧ ar w = some ps.length ∧ okVs ar ps = true := by
  cases p with
  | tup ps =>
    cases ps with
    | nil => simp [okV] at h
    | cons q ps =>
      cases q with
      | str v =>
        rw [okV, Bool.and_eq_true] at h
        cases e : ar v with
        | none => rw [e] at h; cases h.1
        | some k =>
          rw [e] at h
          have : ps.length = k := by simpa using h.1
          exact ⟨v, ps, rfl, by rw [this]; exact e, h.2⟩
      | _ => simp [okV] at h
  | _ => simp [okV] at h
theorem okTs_iff (ar : Str → Option Nat) : ∀ ps : List PV, okTs ar ps = true ↔ ∀ p ∈ ps, okT ar p = true
  | [] => by simp [okTs]
  | p :: ps => by simp [okTs, okTs_iff ar ps]
theorem okVs_iff (ar : Str → Option Nat) : ∀ ps : List PV, okVs ar ps = true ↔ ∀ p ∈ ps, okV ar p = true
  | [] => by simp [okVs]
  | p :: ps => by simp [okVs, okVs_iff ar ps]
theorem okT_mk {ar : Str → Option Nat} {w : Str} {ps : List PV} (h : ar w = some ps.length) (g : okTs ar ps = true) : okT ar (.tup (.str w :: ps)) = true := by rw [okT, h, g]; simp
theorem okV_mk {ar : Str → Option Nat} {w : Str} {ps : List PV} (h : ar w = some ps.length) (g : okVs ar ps = true) : okV ar (.tup (.str w :: ps)) = true := by rw [okV, h, g]; simp
mutual
theorem okT_tsh (ar : Str → Option Nat) : ∀ p : PV, okT ar p = true → tsh p = true
  | .str _, _ => by rw [tsh]
  | .tup [], h => by simp [okT] at h
  | .tup (p :: ps), h => by
    cases p with
    | str v =>
      rw [okT, Bool.and_eq_true] at h
      rw [tsh, okTs_tshs ar ps h.2]; rfl
    | _ => simp [okT] at h
  | .lst _, h => by simp [okT] at h
  | .scr _, h => by simp [okT] at h
  | .nst _ _ _, h => by simp [okT] at h
  | .ty _, h => by simp [okT] at h
  | .non, h => by simp [okT] at h
  | .bl _, h => by simp [okT] at h
  | .int _, h => by simp [okT] at h
  | .dic _ _, h => by simp [okT] at h
theorem okTs_tshs (ar : Str → Option Nat) : ∀ ps : List PV, okTs ar ps = true → tshs ps = true
  | [], _ => by rw [tshs]
  | p :: ps, h => by
    rw [okTs, Bool.and_eq_true] at h
    rw [tshs, okT_tsh ar p h.1, okTs_tshs ar ps h.2]; rfl
end
mutual
theorem okV_okT (ar : Str → Option Nat) : ∀ p : PV, okV ar p = true → okT ar p = true
  | .str _, h => by simp [okV] at h
  | .tup [], h => by simp [okV] at h
  | .tup (p :: ps), h => by
    cases p with
    | str v =>
      rw [okV, Bool.and_eq_true] at h
      rw [okT, okVs_okTs ar ps h.2, Bool.and_true]; exact h.1
    | _ => simp [okV] at h
  | .lst _, h => by simp [okV] at h
  | .scr _, h => by simp [okV] at h
  | .nst _ _ _, h => by simp [okV] at h
  | .ty _, h => by simp [okV] at h
  | .non, h => by simp [okV] at h
  | .bl _, h => by simp [okV] at h
  | .int _, h => by simp [okV] at h
  | .dic _ _, h => by simp [okV] at h
theorem okVs_okTs (ar : Str → Option Nat) : ∀ ps : List PV, okVs ar ps = true → okTs ar ps = true
  | [], _ => by rw [okTs]
  | p :: ps, h => by
    rw [okVs, Bool.and_eq_true] at h
    rw [okTs, okV_okT ar p h.1, okVs_okTs ar ps h.2]; rfl
end
theorem okV_tsh {ar : Str → Option Nat} {p : PV} (h : okV ar p = true) : tsh p = true := okT_tsh ar p (okV_okT ar p h)
theorem okVs_tshs {ar : Str → Option Nat} {ps : List PV} (h : okVs ar ps = true) : tshs ps = true := okTs_tshs ar ps (okVs_okTs ar ps h)
def takW : List (PV × PV) → As → Option As
  | [], d => some d
  | x :: W, d => match takW W d with
    | some e => takP x.1 x.2 e
    | none => none
theorem takW_append : ∀ (U W : List (PV × PV)) (d : As), takW (U ++ W) d = match takW W d with
    | some e => takW U e
    | none => none
  | [], W, d => by
    rw [List.nil_append]
    cases takW W d <;> rfl
  | x :: U, W, d => by
    rw [List.cons_append, takW, takW_append U W d]
    cases takW W d with
    | none => rfl
    | some e => rfl
theorem takW_zip : ∀ (ps qs : List PV) (d : As), takW (ps.zip qs) d = takPs ps qs d
  | [], qs, d => by rw [List.zip_nil_left, takW, takPs]
  | p :: ps, [], d => by rw [List.zip_nil_right, takW, takPs]
  | p :: ps, q :: qs, d => by rw [List.zip_cons_cons, takW, takW_zip ps qs d, takPs]
theorem takW_last (W : List (PV × PV)) (p t : PV) (d : As) : takW (W ++ [(p, t)]) d = match takP p t d with
    | some e => takW W e
    | none => none := by
  rw [takW_append]
  rfl
theorem takW_step (W : List (PV × PV)) (v : Str) (ps qs : List PV) (d : As) : takW (W ++ [(.tup (.str v :: ps), .tup (.str v :: qs))]) d = takW (W ++ ps.zip qs) d := by
  rw [takW_last, takW_append, takW_zip, takP, if_pos rfl]
def pairP (x : PV × PV) : PV := .tup [x.1, x.2]
theorem zipP_zip : ∀ ps qs : List PV, zipP ps qs = (ps.zip qs).map pairP
  | [], qs => by rw [List.zip_nil_left]; cases qs <;> rfl
  | p :: ps, [] => rfl
  | p :: ps, q :: qs => by rw [List.zip_cons_cons, List.map_cons, zipP, zipP_zip ps qs]; rfl
def pszW : List (PV × PV) → Nat
  | [] => 0
  | x :: W => psz x.1 + pszW W
theorem pszW_append : ∀ U W : List (PV × PV), pszW (U ++ W) = pszW U + pszW W
  | [], W => by simp [pszW]
  | x :: U, W => by simp [pszW, pszW_append U W]; omega
theorem pszW_zip : ∀ ps qs : List PV, pszW (ps.zip qs) ≤ pszs ps
  | [], qs => by rw [List.zip_nil_left]; simp [pszW]
  | p :: ps, [] => by rw [List.zip_nil_right]; simp [pszW]
  | p :: ps, q :: qs => by rw [List.zip_cons_cons, pszW, pszs]; have := pszW_zip ps qs; show psz p + _ ≤ _; omega
theorem len_pszW : ∀ W : List (PV × PV), W.length ≤ pszW W
  | [] => by simp
  | x :: W => by rw [List.length_cons, pszW]; have := psz_pos x.1; have := len_pszW W; omega
def arOk (ar : Str → Option Nat) (x : PV × PV) : Prop := okT ar x.1 = true ∧ okV ar x.2 = true ∧ dep x.2 ≤ 60
theorem zip_arOk {ar : Str → Option Nat} {ps qs : List PV} (h1 : okTs ar ps = true) (h2 : okVs ar qs = true) (h3 : deps qs ≤ 60) : ∀ x ∈ ps.zip qs, arOk ar x := fun x hx => by
  obtain ⟨a, b⟩ := x
  have := List.of_mem_zip hx
  exact ⟨(okTs_iff ar ps).mp h1 a this.1, (okVs_iff ar qs).mp h2 b this.2, by have := dep_mem b this.2; show dep b ≤ 60; omega⟩
theorem zip_at {ps qs : List PV} {dn r : List (PV × PV)} {x : PV × PV} (e : ps.zip qs = dn ++ x :: r) : ps[dn.length]? = some x.1 ∧ qs[dn.length]? = some x.2 := by
  have gx : (ps.zip qs)[dn.length]? = some x := by rw [e, List.getElem?_append_right (Nat.le_refl _)]; simp
  rwa [List.getElem?_zip_eq_some] at gx
theorem at0 {ps : List PV} {n : Nat} {x : PV} (h : ps[n]? = some x) : atI ps (0 + ((n : Nat) : Int)) = some x := by
  have : (0 : Int) + ((n : Nat) : Int) = ((n : Nat) : Int) := by omega
  rw [this]
  exact atI_nat h
theorem at1 {ps : List PV} {v : PV} {n : Nat} {x : PV} (h : ps[n]? = some x) : atI (v :: ps) (1 + ((n : Nat) : Int)) = some x := by
  have : (1 : Int) + ((n : Nat) : Int) = ((n + 1 : Nat) : Int) := by omega
  rw [this]
  exact atI_nat (by rw [List.getElem?_cons_succ]; exact h)
theorem encD_inj {d e : As} (h : encD d = encD e) : d = e := by
  unfold encD at h
  injection h with h1 h2
  have h1' : d.map (·.1) = e.map (·.1) := by
    have := congrArg (List.map fun k : Key => match k with | .inr s => s | .inl _ => Str.ofString "") h1
    unfold dKs at this
    rw [List.map_map, List.map_map] at this
    exact this
  unfold dPs at h2
  clear h1
  induction d generalizing e with
  | nil => cases e with
    | nil => rfl
    | cons _ _ => simp at h2
  | cons x d ih =>
    cases e with
    | nil => simp at h2
    | cons y e =>
      simp only [List.map_cons, List.cons.injEq] at h1' h2
      rw [Prod.ext h1'.1 h2.1, ih h2.2 h1'.2]
section
variable {P : Program} {w : World} {K : PySem.W.Frag} {mg : Str → Option Value} {base : Heap}
/-- what the loops of both keep -/
structure TkI (ar : Str → Option Nat) (ps qs : List PV) (W : List (PV × PV)) (d : As) : Prop where
  eq : takW W d = takPs ps qs []
  ok : ∀ x ∈ W, arOk ar x
  sz : pszW W + d.length ≤ 300
theorem TkI.start {ar : Str → Option Nat} {ps qs : List PV} (h : TakOk ar ps qs) : TkI ar ps qs (ps.zip qs) [] := ⟨takW_zip _ _ _, zip_arOk h.p h.q h.dep, by
  have := pszW_zip ps qs
  have := h.psz
  simp only [List.length_nil]; omega⟩
theorem TkI.bind {ar : Str → Option Nat} {ps qs : List PV} {W : List (PV × PV)} {d : As} {s : Str} {t : PV} (h : TkI ar ps qs (W ++ [(.str s, t)]) d) : TkI ar ps qs W (putD d s t) := by
  obtain ⟨h1, h2, h3⟩ := h
  refine ⟨by rw [← h1, takW_last, takP], fun x hx => h2 x (by simp [hx]), ?_⟩
  rw [pszW_append] at h3
  have := putD_len d s t
  simp only [pszW, psz] at h3
  omega
theorem TkI.step {ar : Str → Option Nat} {ps qs : List PV} {W : List (PV × PV)} {d : As} {v : Str} {us zs : List PV} (h : TkI ar ps qs (W ++ [(.tup (.str v :: us), .tup (.str v :: zs))]) d) (h1 : okTs ar us = true) (h2 : okVs ar zs = true) (h3 : deps zs ≤ 60) : TkI ar ps qs (W ++ us.zip zs) d := by
  obtain ⟨g1, g2, g3⟩ := h
  refine ⟨by rw [← g1, takW_step], fun x hx => ?_, ?_⟩
  · rcases List.mem_append.mp hx with hx | hx
    · exact g2 x (by simp [hx])
    · exact zip_arOk h1 h2 h3 x hx
  · rw [pszW_append] at g3 ⊢
    have := pszW_zip us zs
    simp only [pszW, psz, pszs] at g3
    omega
theorem TkI.no {ar : Str → Option Nat} {ps qs : List PV} {W : List (PV × PV)} {d : As} {v u : Str} {us zs : List PV} (h : TkI ar ps qs (W ++ [(.tup (.str v :: us), .tup (.str u :: zs))]) d) (n : v ≠ u) : PV.non = encF (takPs ps qs []) := by
  rw [← h.eq, takW_last, takP, if_neg n]; rfl
theorem tak_told {ps qs : List PV} {r : PV} (e : r = encF (takPs ps qs [])) : ∀ outs, S_tak.post [.tup ps, .tup qs] r outs := fun _ ps2 qs2 e2 => by
  injection e2 with e3 e2; injection e2 with e4 _; injection e3 with e3; injection e4 with e4
  rw [← e3, ← e4]; exact e
theorem ltak_told {ps qs : List PV} {r : PV} (e : r = encF (takPs ps qs [])) : ∀ outs, S_ltak.post [.tup ps, .tup qs] r outs := tak_told e
theorem ok_tak (T : Txt K mg) : Has P w K mg base "taken" 1 ["patterns", "values"] S_tak := by
  refine dv_taken T S_tak rfl fun pvs lp pre => ?_
  obtain ⟨ar, ps, qs, rfl, tk⟩ := pre
  unfold rd_taken
  generalize hE : endsOf S_tak _ = E
  have tol : ∀ r ρ, r = encF (takPs ps qs []) → E.rt (.pv r) ρ ∧ E.rt (.fr r) ρ := fun r ρ e => by rw [← hE]; exact ends_rt rfl (tak_told e) ρ
  show qSeq _ _ E [.val (.tup ps), .val (.tup qs), .un, .un, .un, .un]
  walk_at "px"
  rw [zipP_zip]
  refine while_i (fun m ρ => ∃ (W : List (PV × PV)) (d : As) (o4 o5 : Option PV), TkI ar ps qs W d ∧ m = pszW W ∧ ρ = [.val (.tup ps), .val (.tup qs), .own false (encD d), .own false (.lst (W.map pairP)), plS o4, plS o5]) _ ⟨ps.zip qs, [], none, none, .start tk, rfl, rfl⟩ ?_
  rintro m ρ ⟨W, d, o4, o5, fi, rfl, rfl⟩
  rcases List.eq_nil_or_concat W with rfl | ⟨W, x, rfl⟩
  · walk_at "px"
    exact (tol _ _ (by rw [← fi.eq]; rfl)).2
  · obtain ⟨p, t⟩ := x
    rw [List.concat_eq_append] at fi ⊢
    obtain ⟨hp, ht, hdt⟩ := fi.ok (p, t) (by simp)
    have hs := fi.sz
    rw [pszW_append] at hs ⊢
    have hpp := psz_pos p
    simp only [pszW] at hs
    rw [List.map_append]
    have eP : [(p, t)].map pairP = [PV.tup [p, t]] := rfl
    rw [eP]
    have lW := len_pszW W
    obtain ⟨u, zs, rfl, ar2, okz⟩ := okV_cases ht
    rcases okT_cases hp with ⟨s, rfl⟩ | ⟨v, us, rfl, ar1, oku⟩
    · unfold encD
      walk_at "px"
      refine ⟨small_of (by rw [dKs_len]; omega), pszW W, by simp only [pszW, psz]; omega, W, putD d s (.tup (.str u :: zs)), some (.str s), some (.tup (.str u :: zs)), fi.bind, rfl, ?_⟩
      rw [put_enc]; rfl
    · simp only [psz, pszs] at hs hpp
      have lu := len_pszs us
      have lz := zipP_zip us zs
      have lz2 : (us.zip zs).length ≤ us.length := by rw [List.length_zip]; omega
      have hdz : deps zs ≤ 60 := by
        have h1 : dep (.tup (.str u :: zs)) ≤ 60 := hdt
        rw [dep, deps] at h1; omega
      walk_at "px"
      refine br_i (fun h => (tol _ _ (fi.no ?_)).1) fun h => ?_
      · simpa using h
      · have e : v = u := by simpa using h
        subst e
        have hz1 := pszW_zip us zs
        rw [lz]
        refine ⟨small_of (by first | omega | (simp only [List.length_map]; omega)), pszW (W ++ us.zip zs), by rw [pszW_append]; simp only [pszW, psz, pszs]; omega, W ++ us.zip zs, d, some (.tup (.str v :: us)), some (.tup (.str v :: zs)), fi.step oku okz hdz, rfl, ?_⟩
        rw [List.map_append]
        rfl
theorem ok_ltak (T : Txt K mg) : Has P w K mg base "_law_taken" 1 ["patterns", "values"] S_ltak := by
  refine dv__law_taken T S_ltak rfl fun pvs lp pre => ?_
  obtain ⟨ar, ps, qs, rfl, tk⟩ := pre
  unfold rd__law_taken
  generalize hE : endsOf S_ltak _ = E
  have tol : ∀ r ρ, r = encF (takPs ps qs []) → E.rt (.pv r) ρ ∧ E.rt (.fr r) ρ := fun r ρ e => by rw [← hE]; exact ends_rt rfl (ltak_told e) ρ
  have w0 := pszW_zip ps qs
  have lps := len_pszs ps
  have tz := tk.psz
  have tl := tk.len
  have lz : (ps.zip qs).length = ps.length := by rw [List.length_zip]; omega
  show qSeq _ _ E [.val (.tup ps), .val (.tup qs), .un, .un, .un, .un, .un]
  walk_at "px"
  refine ⟨by unfold rngOk; omega, ?_⟩
  have er : rng 0 ((ps.length : Nat) : Int).toNat = (List.range ps.length).map fun k => PV.int (0 + (k : Nat)) := by rw [Int.toNat_natCast]; rfl
  rw [er]
  refine lcR_i (lc_mapA (fun k : Nat => PV.int (0 + (k : Nat))) (fun k => pairP ((ps.zip qs).getD k (.non, .non))) (List.range ps.length) [] _ (by simp only [List.length_nil, List.length_range]; omega) ?_ fun k hk acc N sm kk => ?_)
  rotate_left
  · rw [List.mem_range] at hk
    have g0 : (ps.zip qs)[k]? = some (ps.zip qs)[k] := List.getElem?_eq_getElem (by omega)
    have g1 : ps[k]? = some ((ps.zip qs).getD k (.non, .non)).1 := by
      rw [List.getD_eq_getElem?_getD, g0]; exact (List.getElem?_zip_eq_some.mp g0).1
    have g2 : qs[k]? = some ((ps.zip qs).getD k (.non, .non)).2 := by
      rw [List.getD_eq_getElem?_getD, g0]; exact (List.getElem?_zip_eq_some.mp g0).2
    walk_at "px"
    rw [at0 g1, at0 g2]
    walk_at "px"
    exact ⟨small_of (by omega), sm, kk⟩
  have e0 : ([] : List PV) ++ (List.range ps.length).map (fun k => pairP ((ps.zip qs).getD k (.non, .non))) = (ps.zip qs).map pairP := by
    rw [List.nil_append]
    apply List.ext_getElem?
    intro i
    rw [List.getElem?_map, List.getElem?_map]
    by_cases hi : i < ps.length
    · rw [List.getElem?_range hi, Option.map_some, List.getD_eq_getElem?_getD, List.getElem?_eq_getElem (by omega)]; rfl
    · rw [List.getElem?_eq_none (by rw [List.length_range]; omega), List.getElem?_eq_none (by omega)]; rfl
  rw [e0]
  walk_at "px"
  refine while_i (fun m ρ => ∃ (W : List (PV × PV)) (d : As) (o4 o5 : Option PV), TkI ar ps qs W d ∧ m = pszW W ∧ ρ = [.val (.tup ps), .val (.tup qs), .own false (encD d), .own false (.lst (W.map pairP)), plS o4, plS o5, .un]) _ ⟨ps.zip qs, [], none, none, .start tk, rfl, rfl⟩ ?_
  rintro m ρ ⟨W, d, o4, o5, fi, rfl, rfl⟩
  rcases List.eq_nil_or_concat W with rfl | ⟨W, x, rfl⟩
  · walk_at "px"
    refine br_i (fun h => by simp at h) fun _ => ?_
    exact (tol _ _ (by rw [← fi.eq]; rfl)).2
  · obtain ⟨p, t⟩ := x
    rw [List.concat_eq_append] at fi ⊢
    obtain ⟨hp, ht, hdt⟩ := fi.ok (p, t) (by simp)
    have hs := fi.sz
    rw [pszW_append] at hs ⊢
    have hpp := psz_pos p
    simp only [pszW] at hs
    rw [List.map_append]
    have eP : [(p, t)].map pairP = [PV.tup [p, t]] := rfl
    rw [eP]
    have lW := len_pszW W
    have gt : ∀ q : PV, decide ((0 : Int) < (((W.map pairP ++ [q]).length : Nat) : Int)) = true := fun q => by rw [decide_eq_true_eq, List.length_append, List.length_singleton]; omega
    obtain ⟨u, zs, rfl, ar2, okz⟩ := okV_cases ht
    rcases okT_cases hp with ⟨s, rfl⟩ | ⟨v, us, rfl, ar1, oku⟩
    · unfold encD
      walk_at "px"
      rw [gt]
      refine ⟨fun _ => ⟨small_of (by rw [dKs_len]; omega), pszW W, by simp only [pszW, psz]; omega, W, putD d s (.tup (.str u :: zs)), some (.str s), some (.tup (.str u :: zs)), fi.bind, rfl, ?_⟩, fun h => by cases h⟩
      rw [put_enc]; rfl
    · simp only [psz, pszs] at hs hpp
      have lu := len_pszs us
      have hdz : deps zs ≤ 60 := by
        have h1 : dep (.tup (.str u :: zs)) ≤ 60 := hdt
        rw [dep, deps] at h1; omega
      walk_at "px"
      rw [gt]
      refine ⟨fun _ => br_i (fun h => (tol _ _ (fi.no ?_)).1) fun h => ?_, fun h => by cases h⟩
      · simpa using h
      · have e : v = u := by simpa using h
        subst e
        have hz1 := pszW_zip us zs
        rw [ar1] at ar2
        have lu2 : us.length = zs.length := Option.some.inj ar2
        have lz2 : (us.zip zs).length = us.length := by rw [List.length_zip]; omega
        have ek : (((us.length + 1 : Nat) : Int) - 1).toNat = us.length := by omega
        have er1 : rng 1 us.length = (List.range us.length).map fun k => PV.int (1 + (k : Nat)) := rfl
        rw [ek, er1]
        refine ⟨⟨by unfold rngOk; omega, by unfold rngOk; omega⟩, ?_⟩
        refine lcR_i (lc_mapA (fun k : Nat => PV.int (1 + (k : Nat))) (fun k => pairP ((us.zip zs).getD k (.non, .non))) (List.range us.length) [] _ (by simp only [List.length_nil, List.length_range]; omega) ?_ fun k hk acc N sm kk => ?_)
        · have e1 : ([] : List PV) ++ (List.range us.length).map (fun k => pairP ((us.zip zs).getD k (.non, .non))) = (us.zip zs).map pairP := by
            rw [List.nil_append]
            apply List.ext_getElem?
            intro i
            rw [List.getElem?_map, List.getElem?_map]
            by_cases hi : i < us.length
            · rw [List.getElem?_range hi, Option.map_some, List.getD_eq_getElem?_getD, List.getElem?_eq_getElem (by omega)]; rfl
            · rw [List.getElem?_eq_none (by rw [List.length_range]; omega), List.getElem?_eq_none (by omega)]; rfl
          rw [e1]
          walk_at "px"
          refine ⟨small_of (by first | omega | (simp only [List.length_map]; omega)), pszW (W ++ us.zip zs), by rw [pszW_append]; simp only [pszW, psz, pszs]; omega, W ++ us.zip zs, d, some (.tup (.str v :: us)), some (.tup (.str v :: zs)), fi.step oku okz hdz, rfl, ?_⟩
          rw [List.map_append]
          rfl
        · rw [List.mem_range] at hk
          have g0 : (us.zip zs)[k]? = some (us.zip zs)[k] := List.getElem?_eq_getElem (by omega)
          have g1 : us[k]? = some ((us.zip zs).getD k (.non, .non)).1 := by
            rw [List.getD_eq_getElem?_getD, g0]; exact (List.getElem?_zip_eq_some.mp g0).1
          have g2 : zs[k]? = some ((us.zip zs).getD k (.non, .non)).2 := by
            rw [List.getD_eq_getElem?_getD, g0]; exact (List.getElem?_zip_eq_some.mp g0).2
          walk_at "px"
          rw [at1 g1, at1 g2]
          walk_at "px"
          exact ⟨small_of (by omega), sm, kk⟩
end

end Lw
set_option maxHeartbeats 4000000
namespace Lw
open PySem L2 PyProof.Rows Px
local macro_rules | `(tactic| walk_at "px") => `(tactic| simp -dsimp only [qVar, qK, qNil, qCons, qTup, qLst, vals, looks, R.look, R.wk, qCB, qB, qOp2, qTru, truG, qAnd, qOr, qNot, qAndV, qOrV, qNotV, qIfE, qNo, qPart, qSl, gSl, qIt, qRng1, qRng2, qgN, qgNil, qgCons, qgT, notIo_zero, notIo_succ, notIo_nil', slOk_un, slOk_val, slOk_own, slOk_pl, slOk_pd, notIos_nil, notIos_cons, qYes, qLc, qNext, qSeq, qBreak, qCont, qFrz, frz, qDrop, retG, qRet, qRetN, qIf, qSet, qOwn, qAsg, qFor, qMut, ownTy, gAppend, gExtend, gPop, isOwn, qSetIx, qCall, splitArgs, putOuts, setOwn, finOk, endsOf, mk, outsOf, uns,
  gAdd, gInt, gInt0, gEq, gNe, gIn, gNotIn, gIs, gIsNot, Px.isNon, gIx, getP, gLen, gAbs, gIntC, gSum, gMax, gMax2, gMax3, gMinT, gAll, gAny, gList, gTuple, gIsi, qNeg, qDict0, wipeE, lcGo_nil, br_t, br_f, atI_0, atI_1, atI_2, atI_3, ixN_0, ixN_1, ixN_2, ixN_3, List.length_map, List.length_set, cut_from1, isTy, tyN, gIsiT, asTys, gListD, keyP, isDic, qGet1, qGet2, qLZ, gZip, qPairs, mergeP, qDisp, gDictC, gStr, qChain, qPar, qAug, qMeth, tyIs, gIndex, qLcK, qDc, qDcK, dicAt, qForK, qZipI, qCallB, qCallF, splitB, qTake, tkEnds, tkRt, tkBack, Px.isN, isNst, gIxN, gPop0, gInsert, qSetSeed, qStep, qPar3, qLcO, lcoK, stEnds, stGo, immS, Px.imm, endsLaw, Option.isSome_some, Option.isSome_none, isEmp_concat, List.getLast?_concat, List.dropLast_concat, List.isEmpty_nil, gEqX, gNeX, qEnumI, enumP, gSortSet, gLenSet, qSortSc, asStrs, List.any_cons, List.any_nil, tyOk_str, tyOk_tuple, tyOk_int, tyOk_bool, tyOk_list, tyOk_dict, Option.map_some, Option.map_none,
  eqOk_str, eqOk_int, eqOk_bl, eqOk_non, eqOkW_str, eqOkW_int, eqOkW_bl, eqOkW_non, gEqW, gNeW, qVals, ownDic, qLc2, gLtX, gGtX, gSortX, peq_str, peq_int, peq_bl, List.getElem?_cons_zero, List.getElem?_cons_succ, List.getElem?_nil, List.set_cons_zero, List.set_cons_succ, List.zipWith_cons_cons, List.zipWith_nil_left, List.replicate_succ, List.replicate_zero, List.cons_append, List.nil_append, List.length_cons, List.length_nil, List.map_cons, List.map_nil, ↓reduceIte, Bool.false_eq_true, and_true, true_and, Bool.not_true, Bool.not_false, Nat.reduceAdd, Nat.reduceLT, Nat.reduceLeDiff, Nat.zero_lt_succ, Nat.lt_add_one, ne_eq, not_true_eq_false, not_false_eq_true, String.reduceEq, String.reduceBEq, Bool.or_false, Bool.false_or, Bool.or_true, Bool.true_or, Bool.and_false, Bool.and_true, Bool.false_and, Bool.true_and, reduceCtorEq])
/-! ### sorted texts are one -/
theorem lt_anti : ∀ a b : List Nat, PySem.Spec.ltCps a b = false → PySem.Spec.ltCps b a = false → a = b
  | [], [], _, _ => rfl
  | [], _ :: _, h, _ => by cases h
  | _ :: _, [], _, h => by cases h
  | a :: r, b :: t, h, h' => by
    simp only [PySem.Spec.ltCps, Bool.or_eq_false_iff, Bool.and_eq_false_iff, decide_eq_false_iff_not, beq_eq_false_iff_ne] at h h'
    have e : a = b := by omega
    subst e
    rw [lt_anti r t (by rcases h.2 with z | z; exact absurd rfl z; exact z) (by rcases h'.2 with z | z; exact absurd rfl z; exact z)]
theorem lt_trans' : ∀ a b c : List Nat, PySem.Spec.ltCps b a = false → PySem.Spec.ltCps c b = false → PySem.Spec.ltCps c a = false
  | [], _, [], _, _ => rfl
  | [], [], c :: s, _, h => h
  | [], b :: t, c :: s, h, h' => rfl
  | a :: r, [], _, h, _ => by cases h
  | a :: r, b :: t, [], _, h => by cases h
  | a :: r, b :: t, c :: s, h, h' => by
    simp only [PySem.Spec.ltCps, Bool.or_eq_false_iff, Bool.and_eq_false_iff, decide_eq_false_iff_not, beq_eq_false_iff_ne] at h h' ⊢
    refine ⟨by omega, ?_⟩
    by_cases e : c = a
    · right
      have e1 : b = a := by omega
      subst e1 e
      exact lt_trans' r t s (by rcases h.2 with z | z; exact absurd rfl z; exact z) (by rcases h'.2 with z | z; exact absurd rfl z; exact z)
    · exact .inl e
def leS (a b : Str) : Prop := PySem.Spec.ltCps b.cps.toList a.cps.toList = false
theorem leS_anti {a b : Str} (h : leS a b) (h' : leS b a) : a = b := by
  have := lt_anti _ _ h' h
  obtain ⟨x⟩ := a
  obtain ⟨y⟩ := b
  have : x = y := Array.toList_inj.mp this
  rw [this]
theorem rising_all : ∀ (p : Str) (l : List Str), risingS p l = true → (∀ x ∈ l, leS p x) ∧ l.Pairwise leS
  | p, [], _ => ⟨fun x hx => (by cases hx), List.Pairwise.nil⟩
  | p, x :: r, h => by
    rw [risingS, Bool.and_eq_true] at h
    obtain ⟨h1, h2⟩ := rising_all x r h.2
    have h0 : leS p x := by unfold leS; simpa using h.1
    refine ⟨fun y hy => ?_, List.pairwise_cons.mpr ⟨h1, h2⟩⟩
    rcases List.mem_cons.mp hy with rfl | hy
    · exact h0
    · exact lt_trans' _ _ _ h0 (h1 y hy)
theorem sortedS_pw {l : List Str} (h : sortedS l = true) : l.Pairwise leS := by
  cases l with
  | nil => exact List.Pairwise.nil
  | cons x r =>
    obtain ⟨h1, h2⟩ := rising_all x r h
    exact List.pairwise_cons.mpr ⟨h1, h2⟩
theorem sorted_one : ∀ {l m : List Str}, l.Pairwise leS → m.Pairwise leS → l.Perm m → l = m
  | [], m, _, _, p => (List.Perm.nil_eq p)
  | a :: l, [], _, _, p => absurd p.length_eq (by simp)
  | a :: l, b :: m, hl, hm, p => by
    have e : a = b := by
      rw [List.pairwise_cons] at hl hm
      rcases List.mem_cons.mp (p.mem_iff.mp (List.mem_cons_self (a := a))) with z | z
      · exact z
      · rcases List.mem_cons.mp (p.mem_iff.mpr (List.mem_cons_self (a := b))) with y | y
        · exact y.symm
        · exact leS_anti (hl.1 b y) (hm.1 a z)
    subst e
    rw [sorted_one (List.pairwise_cons.mp hl).2 (List.pairwise_cons.mp hm).2 ((List.perm_cons a).mp p)]
theorem asStrs_map : ∀ ss : List Str, asStrs (ss.map PV.str) = some ss
  | [] => rfl
  | s :: ss => by
    show (asStrs (ss.map PV.str)).map (s :: ·) = _
    rw [asStrs_map ss]; rfl

end Lw
set_option maxHeartbeats 4000000
namespace Lw
open PySem L2 PyProof.Rows Px
def firstC : Nat → List Cl → List PV → Int
  | _, [], _ => -1
  | k, c :: cl, vs => match takPs c.pats vs [] with
    | some _ => (k : Nat)
    | none => firstC (k + 1) cl vs
structure CfOk (ar : Str → Option Nat) (f : Fn) (vs : List PV) : Prop where
  cl : ∀ c ∈ f.cl, TakOk ar c.pats vs
  len : f.cl.length ≤ 12
def S_cf : FS := { io := [false, false], pre := fun pvs => ∃ (ar : Str → Option Nat) (f : Fn) (vs : List PV), pvs = [encFn f, .tup vs] ∧ CfOk ar f vs, post := fun pvs r _ => ∀ (f : Fn) (vs : List PV), pvs = [encFn f, .tup vs] → r = .int (firstC 0 f.cl vs) }
def S_lfi : FS := { io := [false, false], pre := fun pvs => ∃ (ar : Str → Option Nat) (f : Fn) (vs : List PV), pvs = [encFn f, .tup vs] ∧ CfOk ar f vs, post := fun pvs r _ => ∀ (f : Fn) (vs : List PV), pvs = [encFn f, .tup vs] → r = .int (firstC 0 f.cl vs) }
/-- what a function's clauses call -/
def Cal (fns : List Fn) (w s : Str) : Prop := s ∈ wds fns ∧ ∃ f, fnOf fns w = some f ∧ ∃ c ∈ f.cl, ∃ p ∈ subT c.body, hdS p = s
def S_cal : FS := { io := [false, false], pre := fun pvs => ∃ (n : Nat) (fns : List Fn) (s : Str), pvs = [encPg fns, .str s] ∧ PgOk n fns ∧ s ∈ wds fns, post := fun pvs r _ => ∀ (fns : List Fn) (s : Str), pvs = [encPg fns, .str s] → ∃ L : List Str, r = .tup (L.map PV.str) ∧ (∀ t, t ∈ L ↔ Cal fns s t) ∧ L.Nodup ∧ L.Pairwise leS }
def S_nx : FS := { io := [false, false], pre := fun pvs => ∃ (n : Nat) (fns : List Fn) (s : Str), pvs = [encPg fns, .str s] ∧ PgOk n fns ∧ s ∈ wds fns, post := fun pvs r _ => ∀ (fns : List Fn) (s : Str), pvs = [encPg fns, .str s] → ∃ L : List Str, r = .lst (L.map PV.str) ∧ (∀ t, t ∈ L ↔ Cal fns s t) ∧ L.length ≤ 3600 }
theorem S_cf_fr : S_cf.fr = false := rfl
theorem S_cf_io : S_cf.io = [false, false] := rfl
theorem S_lfi_fr : S_lfi.fr = false := rfl
theorem S_lfi_io : S_lfi.io = [false, false] := rfl
theorem S_cal_fr : S_cal.fr = false := rfl
theorem S_cal_io : S_cal.io = [false, false] := rfl
theorem S_nx_fr : S_nx.fr = false := rfl
theorem S_nx_io : S_nx.io = [false, false] := rfl
local macro_rules | `(tactic| walk_at "px") => `(tactic| simp -dsimp only [qVar, qK, qNil, qCons, qTup, qLst, vals, looks, R.look, R.wk, qCB, qB, qOp2, qTru, truG, qAnd, qOr, qNot, qAndV, qOrV, qNotV, qIfE, qNo, qPart, qSl, gSl, qIt, qRng1, qRng2, qgN, qgNil, qgCons, qgT, notIo_zero, notIo_succ, notIo_nil', slOk_un, slOk_val, slOk_own, slOk_pl, slOk_pd, notIos_nil, notIos_cons, qYes, qLc, qNext, qSeq, qBreak, qCont, qFrz, frz, qDrop, retG, qRet, qRetN, qIf, qSet, qOwn, qAsg, qFor, qMut, ownTy, gAppend, gExtend, gPop, isOwn, qSetIx, qCall, splitArgs, putOuts, setOwn, finOk, endsOf, mk, outsOf, uns,
  gAdd, gInt, gInt0, gEq, gNe, gIn, gNotIn, gIs, gIsNot, Px.isNon, gIx, getP, gLen, gAbs, gIntC, gSum, gMax, gMax2, gMax3, gMinT, gAll, gAny, gList, gTuple, gIsi, qNeg, qDict0, wipeE, lcGo_nil, br_t, br_f, atI_0, atI_1, atI_2, atI_3, ixN_0, ixN_1, ixN_2, ixN_3, List.length_map, List.length_set, cut_from1, isTy, tyN, gIsiT, asTys, gListD, keyP, isDic, qGet1, qGet2, qLZ, gZip, qPairs, mergeP, qDisp, gDictC, gStr, qChain, qPar, qAug, qMeth, tyIs, gIndex, qLcK, qDc, qDcK, dicAt, qForK, qZipI, qCallB, qCallF, splitB, qTake, tkEnds, tkRt, tkBack, Px.isN, isNst, gIxN, gPop0, gInsert, qSetSeed, qStep, qPar3, qLcO, lcoK, stEnds, stGo, immS, Px.imm, endsLaw, Option.isSome_some, Option.isSome_none, isEmp_concat, List.getLast?_concat, List.dropLast_concat, List.isEmpty_nil, gEqX, gNeX, qEnumI, enumP, gSortSet, gLenSet, qSortSc, asStrs, List.any_cons, List.any_nil, tyOk_str, tyOk_tuple, tyOk_int, tyOk_bool, tyOk_list, tyOk_dict, Option.map_some, Option.map_none,
  eqOk_str, eqOk_int, eqOk_bl, eqOk_non, eqOkW_str, eqOkW_int, eqOkW_bl, eqOkW_non, gEqW, gNeW, qVals, ownDic, qLc2, gLtX, gGtX, gSortX, peq_str, peq_int, peq_bl, List.getElem?_cons_zero, List.getElem?_cons_succ, List.getElem?_nil, List.set_cons_zero, List.set_cons_succ, List.zipWith_cons_cons, List.zipWith_nil_left, List.replicate_succ, List.replicate_zero, List.cons_append, List.nil_append, List.length_cons, List.length_nil, List.map_cons, List.map_nil, ↓reduceIte, Bool.false_eq_true, and_true, true_and, Bool.not_true, Bool.not_false, Nat.reduceAdd, Nat.reduceLT, Nat.reduceLeDiff, Nat.zero_lt_succ, Nat.lt_add_one, ne_eq, not_true_eq_false, not_false_eq_true, String.reduceEq, String.reduceBEq, Bool.or_false, Bool.false_or, Bool.or_true, Bool.true_or, Bool.and_false, Bool.and_true, Bool.false_and, Bool.true_and, reduceCtorEq, S_cf_fr, S_cf_io, S_lfi_fr, S_lfi_io, S_cal_fr, S_cal_io, S_nx_fr, S_nx_io])
theorem cf_i {ρ : En} {ar : Str → Option Nat} {f : Fn} {vs : List PV} {Q : PK1} {dm : Dum Q} (h : CfOk ar f vs) (k : Q (.pv (.int (firstC 0 f.cl vs))) ρ) : callR S_cf [.pv (encFn f), .pv (.tup vs)] ρ Q dm :=
  call_p (ps := [encFn f, .tup vs]) rfl rfl ⟨ar, f, vs, rfl, h⟩ fun r hp => by rw [hp _ _ rfl]; exact k
theorem lfi_i {ρ : En} {ar : Str → Option Nat} {f : Fn} {vs : List PV} {Q : PK1} {dm : Dum Q} (h : CfOk ar f vs) (k : Q (.pv (.int (firstC 0 f.cl vs))) ρ) : callR S_lfi [.pv (encFn f), .pv (.tup vs)] ρ Q dm :=
  call_p (ps := [encFn f, .tup vs]) rfl rfl ⟨ar, f, vs, rfl, h⟩ fun r hp => by rw [hp _ _ rfl]; exact k
theorem cal_i {n : Nat} {ρ : En} {fns : List Fn} {s : Str} {Q : PK1} {dm : Dum Q} (h : PgOk n fns) (hs : s ∈ wds fns) (k : ∀ L : List Str, (∀ t, t ∈ L ↔ Cal fns s t) → L.Nodup → L.Pairwise leS → Q (.pv (.tup (L.map PV.str))) ρ) : callR S_cal [.pv (encPg fns), .pv (.str s)] ρ Q dm :=
  call_p (ps := [encPg fns, .str s]) rfl rfl ⟨n, fns, s, rfl, h, hs⟩ fun r hp => by
    obtain ⟨L, rfl, h1, h2, h3⟩ := hp _ _ rfl
    exact k L h1 h2 h3
theorem nx_i {n : Nat} {ρ : En} {fns : List Fn} {s : Str} {Q : PK1} {dm : Dum Q} (h : PgOk n fns) (hs : s ∈ wds fns) (k : ∀ L : List Str, (∀ t, t ∈ L ↔ Cal fns s t) → L.length ≤ 3600 → Q (.pv (.lst (L.map PV.str))) ρ) : callR S_nx [.pv (encPg fns), .pv (.str s)] ρ Q dm :=
  call_p (ps := [encPg fns, .str s]) rfl rfl ⟨n, fns, s, rfl, h, hs⟩ fun r hp => by
    obtain ⟨L, rfl, h1, h2⟩ := hp _ _ rfl
    exact k L h1 h2
theorem lc_fmP {g : QTG} {tt : QTT} {te : QT} {vs : List Nat} {Q : List PV → En → Prop} (f : PV → Option PV) (xs : List PV) (ρ0 : En) (hl : xs.length ≤ 999999) (hq : Q (xs.filterMap f) ρ0)
    (hc : ∀ x ∈ xs, ∀ (acc : List PV) (N : List PV → En → Prop), small (acc.length + 1) → N (acc ++ (f x).toList) ρ0 → g x ρ0 fun ρ1 => tt ρ1 fun b ρ2 => Br b (te ρ2 fun r ρ3 => match r.wk with
      | .pv q => small (acc.length + 1) ∧ notIos ρ3 vs ∧ N (acc ++ [q]) (wipeE ρ3 vs)
      | _ => False) (notIos ρ2 vs ∧ N acc (wipeE ρ2 vs))) : lcGo g tt te vs Q xs [] ρ0 := by
  have := lc_fmT (g := g) (tt := tt) (te := te) (vs := vs) (Q := Q) id f xs ρ0 hl hq hc
  rwa [List.map_id] at this
theorem mem_insL {k s : Str} {l : List Str} : s ∈ insL k l ↔ s = k ∨ s ∈ l := by
  unfold insL
  split
  · rename_i h
    constructor
    · exact .inr
    · rintro (rfl | h2)
      · simpa using h
      · exact h2
  · rw [List.mem_cons]
theorem mem_inss {s : Str} : ∀ {xs l : List Str}, s ∈ inss xs l ↔ s ∈ xs ∨ s ∈ l
  | [], l => by simp [inss]
  | x :: xs, l => by
    have e : inss (x :: xs) l = inss xs (insL x l) := rfl
    rw [e, mem_inss, mem_insL, List.mem_cons]
    constructor
    · rintro (h | h | h)
      · exact .inl (.inr h)
      · exact .inl (.inl h)
      · exact .inr h
    · rintro ((h | h) | h)
      · exact .inr (.inl h)
      · exact .inl h
      · exact .inr (.inr h)
theorem insL_nd {k : Str} {l : List Str} (h : l.Nodup) : (insL k l).Nodup := by
  unfold insL
  split
  · exact h
  · rename_i g
    exact List.nodup_cons.mpr ⟨by simpa using g, h⟩
theorem inss_nd : ∀ {xs l : List Str}, l.Nodup → (inss xs l).Nodup
  | [], l, h => h
  | x :: xs, l, h => inss_nd (xs := xs) (insL_nd h)
mutual
theorem subT_tup : ∀ t : PV, tsh t = true → ∀ p ∈ subT t, ∃ v ps, p = .tup (.str v :: ps)
  | .str _, _, p, hp => by rw [subT] at hp; cases hp
  | .tup [], _, p, hp => by rw [subT] at hp; cases hp
  | .tup (q :: ps), h, p, hp => by
    cases q with
    | str v =>
      rw [tsh, Bool.and_eq_true] at h
      rw [subT, List.mem_cons] at hp
      rcases hp with rfl | hp
      · exact ⟨v, ps, rfl⟩
      · exact subTs_tup ps h.2 p hp
    | _ => simp [tsh] at h
  | .lst _, _, p, hp => by rw [subT] at hp; cases hp
  | .scr _, _, p, hp => by rw [subT] at hp; cases hp
  | .nst _ _ _, _, p, hp => by rw [subT] at hp; cases hp
  | .ty _, _, p, hp => by rw [subT] at hp; cases hp
  | .non, _, p, hp => by rw [subT] at hp; cases hp
  | .bl _, _, p, hp => by rw [subT] at hp; cases hp
  | .int _, _, p, hp => by rw [subT] at hp; cases hp
  | .dic _ _, _, p, hp => by rw [subT] at hp; cases hp
theorem subTs_tup : ∀ ts : List PV, tshs ts = true → ∀ p ∈ subTs ts, ∃ v ps, p = .tup (.str v :: ps)
  | [], _, p, hp => by rw [subTs] at hp; cases hp
  | t :: ts, h, p, hp => by
    rw [tshs, Bool.and_eq_true] at h
    rw [subTs, List.mem_append] at hp
    rcases hp with hp | hp
    · exact subT_tup t h.1 p hp
    · exact subTs_tup ts h.2 p hp
end
theorem fnOf_some {fns : List Fn} {s : Str} (h : s ∈ wds fns) : ∃ f, fnOf fns s = some f := by
  unfold wds at h
  obtain ⟨f, hf, rfl⟩ := List.mem_map.mp h
  unfold fnOf
  cases e : fns.find? fun g => g.w == f.w with
  | some g => exact ⟨g, rfl⟩
  | none => exact absurd (List.find?_eq_none.mp e f hf) (by simp)
theorem fnOf_none {fns : List Fn} {s : Str} (h : s ∉ wds fns) : fnOf fns s = none := by
  cases e : fnOf fns s with
  | none => rfl
  | some f => obtain ⟨h1, h2⟩ := fnOf_mem e; exact absurd (List.mem_map.mpr ⟨f, h1, h2⟩) h
theorem fm_none {fns : List Fn} {s : Str} (h : s ∉ fns.map (·.w)) : fns.filterMap (fun g => if g.w = s then some (encFn g) else none) = [] := by
  rw [List.filterMap_eq_nil_iff]
  intro g hg
  rw [if_neg]
  rintro rfl
  exact h (List.mem_map.mpr ⟨g, hg, rfl⟩)
theorem fm_one : ∀ {fns : List Fn} {s : Str} {f : Fn}, (fns.map (·.w)).Nodup → fnOf fns s = some f → fns.filterMap (fun g => if g.w = s then some (encFn g) else none) = [encFn f]
  | [], s, f, _, h => by cases h
  | g :: fns, s, f, nd, h => by
    rw [List.map_cons, List.nodup_cons] at nd
    unfold fnOf at h
    rw [List.find?_cons] at h
    by_cases e : g.w = s
    · have e2 : (g.w == s) = true := by simpa using e
      rw [e2] at h
      cases h
      rw [List.filterMap_cons_some (by rw [if_pos e]), fm_none (by rw [← e]; exact nd.1)]
    · have e2 : (g.w == s) = false := by simpa using e
      rw [e2] at h
      rw [List.filterMap_cons_none (by rw [if_neg e])]
      exact fm_one nd.2 h
section
variable {P : Program} {w : World} {K : PySem.W.Frag} {mg : Str → Option Value} {base : Heap}
theorem ok_cf (T : Txt K mg) : Has P w K mg base "clause_for" 2 ["function", "values"] S_cf := by
  refine dv_clause_for T (ok_tak T) S_cf rfl fun pvs lp pre => ?_
  obtain ⟨ar, f, vs, rfl, hf⟩ := pre
  unfold rd_clause_for
  generalize hE : endsOf S_cf _ = E
  have rt : ∀ r ρ, r = PV.int (firstC 0 f.cl vs) → E.rt (.pv r) ρ := fun r ρ e => by
    rw [← hE]
    exact (ends_rt rfl (fun _ f2 v2 e2 => by
      injection e2 with e3 e2; injection e2 with e4 _; injection e4 with e4
      rw [← encFn_inj e3, ← e4]; exact e) ρ).1
  show qSeq _ _ E [.val (encFn f), .val (.tup vs), .un, .un]
  have ef : encFn f = .tup [.str f.w, .tup f.ps, f.fam, f.ix, .int (f.pl : Nat), .tup (f.cl.map encCl)] := rfl
  rw [ef]
  walk_at "px"
  rw [← ef]
  refine for_mapP (fun dn ρ => ∃ (o2 o3 : Option PV), firstC 0 f.cl vs = firstC dn.length (f.cl.drop dn.length) vs ∧ ρ = [.val (encFn f), .val (.tup vs), plS o2, plS o3]) _ _ ⟨none, none, rfl, rfl⟩ ?_ ?_
  · rintro ρ ⟨o2, o3, h, rfl⟩
    walk_at "px"
    refine rt _ _ ?_
    rw [h, enumP_len, List.length_map, List.drop_length]; rfl
  · rintro dn x lf ρ e ⟨o2, o3, h, rfl⟩ N ih
    have gx : (enumP 0 (f.cl.map encCl))[dn.length]? = some x := by rw [e, List.getElem?_append_right (Nat.le_refl _)]; simp
    obtain ⟨p, hp, rfl⟩ := enumP_get gx
    rw [List.getElem?_map, Option.map_eq_some_iff] at hp
    obtain ⟨c, hc, rfl⟩ := hp
    obtain ⟨hlt, hce⟩ := List.getElem?_eq_some_iff.mp hc
    have hd : f.cl.drop dn.length = c :: f.cl.drop (dn.length + 1) := by rw [List.drop_eq_getElem_cons hlt, hce]
    have hm : c ∈ f.cl := List.mem_of_getElem? hc
    rw [hd, firstC] at h
    have ec : encCl c = .tup [.tup c.pats, c.body] := rfl
    walk_at "px"
    rw [ec]
    walk_at "px"
    refine tak_i (hf.cl c hm) ?_
    cases ht : takPs c.pats vs [] with
    | none =>
      rw [ht] at h
      rw [show encF none = PV.non from rfl]
      walk_at "px"
      refine ih _ ⟨some (.int _), some (encCl c), ?_, rfl⟩
      rw [h, List.length_append]; rfl
    | some d =>
      rw [ht] at h
      rw [show encF (some d) = encD d from rfl]
      unfold encD
      walk_at "px"
      refine rt _ _ ?_
      rw [h, Nat.zero_add]
theorem ok_lfi (T : Txt K mg) : Has P w K mg base "_law_first" 2 ["row", "values"] S_lfi := by
  refine dv__law_first T (ok_ltak T) S_lfi rfl fun pvs lp pre => ?_
  obtain ⟨ar, f, vs, rfl, hf⟩ := pre
  unfold rd__law_first
  generalize hE : endsOf S_lfi _ = E
  have rt : ∀ r ρ, r = PV.int (firstC 0 f.cl vs) → E.rt (.pv r) ρ := fun r ρ e => by
    rw [← hE]
    exact (ends_rt rfl (fun _ f2 v2 e2 => by
      injection e2 with e3 e2; injection e2 with e4 _; injection e4 with e4
      rw [← encFn_inj e3, ← e4]; exact e) ρ).1
  show qSeq _ _ E [.val (encFn f), .val (.tup vs), .un]
  have ef : encFn f = .tup [.str f.w, .tup f.ps, f.fam, f.ix, .int (f.pl : Nat), .tup (f.cl.map encCl)] := rfl
  rw [ef]
  have hl := hf.len
  walk_at "px"
  rw [← ef]
  refine ⟨by unfold rngOk; simp only [List.length_map]; omega, ?_⟩
  rw [List.length_map]
  have er : rng 0 ((f.cl.length : Nat) : Int).toNat = (List.range f.cl.length).map fun k => PV.int (0 + (k : Nat)) := by rw [Int.toNat_natCast]; rfl
  rw [er]
  refine for_mapT (fun k : Nat => PV.int (0 + (k : Nat))) (fun dn ρ => ∃ (o2 : Option PV), firstC 0 f.cl vs = firstC dn.length (f.cl.drop dn.length) vs ∧ ρ = [.val (encFn f), .val (.tup vs), plS o2]) _ _ ⟨none, rfl, rfl⟩ ?_ ?_
  · rintro ρ ⟨o2, h, rfl⟩
    walk_at "px"
    refine rt _ _ ?_
    rw [h, List.length_range, List.drop_length]; rfl
  · rintro dn k lf ρ e ⟨o2, h, rfl⟩ N ih
    have gx : (List.range f.cl.length)[dn.length]? = some k := by rw [e, List.getElem?_append_right (Nat.le_refl _)]; simp
    have hk : dn.length = k ∧ k < f.cl.length := by
      obtain ⟨h1, h2⟩ := List.getElem?_eq_some_iff.mp gx
      rw [List.getElem_range] at h2
      rw [List.length_range] at h1
      omega
    obtain ⟨hk, hlt⟩ := hk
    have hc : f.cl[k]? = some f.cl[k] := List.getElem?_eq_getElem hlt
    have hd : f.cl.drop k = f.cl[k] :: f.cl.drop (k + 1) := List.drop_eq_getElem_cons hlt
    have hm : f.cl[k] ∈ f.cl := List.getElem_mem hlt
    generalize f.cl[k] = c at hc hd hm
    rw [hk, hd, firstC] at h
    have g0 : (f.cl.map encCl)[k]? = some (encCl c) := by rw [List.getElem?_map, hc]; rfl
    have ec : encCl c = .tup [.tup c.pats, c.body] := rfl
    rw [ef]
    have g5 : atI [PV.str f.w, PV.tup f.ps, f.fam, f.ix, PV.int (f.pl : Nat), PV.tup (f.cl.map encCl)] 5 = some (PV.tup (f.cl.map encCl)) := rfl
    walk_at "px"
    rw [g5]
    walk_at "px"
    rw [at0 g0, ec]
    walk_at "px"
    rw [← ef]
    refine ltak_i (hf.cl c hm) ?_
    cases ht : takPs c.pats vs [] with
    | none =>
      rw [ht] at h
      rw [show encF none = PV.non from rfl]
      walk_at "px"
      refine ih _ ⟨some (.int _), ?_, rfl⟩
      rw [h, List.length_append, hk]; rfl
    | some d =>
      rw [ht] at h
      rw [show encF (some d) = encD d from rfl]
      unfold encD
      walk_at "px"
      refine rt _ _ ?_
      rw [h, Int.zero_add]
/-- the clauses' bodies -/
theorem cal_iff {fns : List Fn} {s : Str} {f : Fn} (h : fnOf fns s = some f) (t : Str) : Cal fns s t ↔ t ∈ wds fns ∧ ∃ c ∈ f.cl, ∃ p ∈ subT c.body, hdS p = t := by
  unfold Cal
  rw [h]
  constructor
  · rintro ⟨h1, f2, e, h2⟩
    cases e
    exact ⟨h1, h2⟩
  · rintro ⟨h1, h2⟩
    exact ⟨h1, f, rfl, h2⟩
theorem ok_cal (T : Txt K mg) : Has P w K mg base "calls_of" 2 ["program", "word"] S_cal := by
  refine dv_calls_of T (ok_fn T) (ok_pob T) S_cal rfl fun pvs lp pre => ?_
  obtain ⟨n, fns, s, rfl, pg, hs⟩ := pre
  unfold rd_calls_of
  generalize hE : endsOf S_cal _ = E
  have rt : ∀ (L : List Str) ρ, (∀ t, t ∈ L ↔ Cal fns s t) → L.Nodup → L.Pairwise leS → E.rt (.pv (.tup (L.map PV.str))) ρ ∧ E.rt (.fr (.tup (L.map PV.str))) ρ := fun L ρ h1 h2 h3 => by
    rw [← hE]
    exact ends_rt rfl (fun _ fns2 s2 e2 => by
      injection e2 with e3 e2; injection e2 with e4 _; injection e4 with e4
      rw [← encPg_inj e3, ← e4]; exact ⟨L, rfl, h1, h2, h3⟩) ρ
  show qSeq _ _ E [.val (encPg fns), .val (.str s), .un, .un, .un, .un, .un, .un]
  obtain ⟨f, hf⟩ := fnOf_some hs
  have hfm := (fnOf_mem hf).1
  have fok := pg.fn f hfm
  have hlen := fok.len
  have n1 := pg.n1
  have ef : encFn f = .tup [.str f.w, .tup f.ps, f.fam, f.ix, .int (f.pl : Nat), .tup (f.cl.map encCl)] := rfl
  walk_at "px"
  refine fn_i ?_
  rw [hf, Option.map_some, Option.getD_some, ef]
  walk_at "px"
  refine lcR_i (lc_mapA encCl (fun c => c.body) f.cl [] _ (by simp only [List.length_nil]; omega) ?_ fun c hc acc N sm k => ?_)
  rotate_left
  · have ec : encCl c = .tup [.tup c.pats, c.body] := rfl
    rw [ec]
    walk_at "px"
    exact ⟨sm, k⟩
  rw [List.nil_append]
  walk_at "px"
  refine lc2R_i (lc2_ind (fun qs acc ρ => ∃ (dn lf : List Cl) (W : List Str), f.cl = dn ++ lf ∧ qs = lf.map (fun c => c.body) ∧ acc = W.map PV.str ∧ (∀ t, t ∈ W ↔ ∃ c ∈ dn, ∃ p ∈ subT c.body, hdS p = t) ∧ W.length ≤ 300 * dn.length ∧ ρ = [.val (encPg fns), .val (.str s), .val (.lst (f.cl.map fun c => c.body)), .un, .un, .un, .un, .un]) ?_ ?_ _ _ _ ⟨[], f.cl, [], rfl, rfl, rfl, fun t => by simp, by simp, rfl⟩)
  · rintro acc ρ ⟨dn, lf, W, e, eq, rfl, hW, hWl, rfl⟩
    have hd : f.cl = dn := by
      cases lf with
      | nil => rw [e, List.append_nil]
      | cons _ _ => simp at eq
    have hW2 : W.length ≤ 3600 := by rw [← hd] at hWl; omega
    walk_at "px"
    refine scR_i (sc_mapT PV.str (fun t => if t ∈ wds fns then some t else none) W _ (by omega) ?_ fun t ht acc N hac k => ?_)
    · have hl := inss_len (W.filterMap fun t => if t ∈ wds fns then some t else none) []
      have hl2 := List.length_filterMap_le (fun t => if t ∈ wds fns then some t else none) W
      refine ⟨by simp only [List.length_nil] at hl; omega, fun ys hp hso => ?_⟩
      walk_at "px"
      refine (rt ys _ (fun t => ?_) (hp.nodup_iff.mpr (inss_nd List.nodup_nil)) (sortedS_pw hso)).1
      rw [hp.mem_iff, mem_inss, cal_iff hf, List.mem_filterMap]
      constructor
      · rintro (⟨u, hu, e⟩ | h)
        · split at e
          · rename_i hw
            cases e
            rw [hW, ← hd] at hu
            exact ⟨hw, hu⟩
          · cases e
        · cases h
      · rintro ⟨h1, h2⟩
        rw [hd] at h2
        exact .inl ⟨t, (hW t).mpr h2, if_pos h1⟩
    · walk_at "px"
      refine fn_i ?_
      by_cases hw : t ∈ wds fns
      · rw [if_pos hw] at k
        obtain ⟨g, hg⟩ := fnOf_some hw
        have eg : encFn g = .tup [.str g.w, .tup g.ps, g.fam, g.ix, .int (g.pl : Nat), .tup (g.cl.map encCl)] := rfl
        rw [hg, Option.map_some, Option.getD_some, eg]
        walk_at "px"
        exact ⟨hac, k⟩
      · rw [if_neg hw] at k
        rw [fnOf_none hw, Option.map_none, Option.getD_none]
        walk_at "px"
        exact k
  · rintro b qs acc ρ ⟨dn, lf, W, e, eq, rfl, hW, hWl, rfl⟩ N ih
    cases lf with
    | nil => simp at eq
    | cons c lf =>
      simp only [List.map_cons, List.cons.injEq] at eq
      obtain ⟨rfl, rfl⟩ := eq
      have hcm : c ∈ f.cl := by rw [e]; simp
      have cok := fok.cl c hcm
      have hlt : dn.length < f.cl.length := by rw [e, List.length_append, List.length_cons]; omega
      have hb := cok.bsz
      walk_at "px"
      refine pob_i cok.body (by omega) fun L hL hLl => ?_
      walk_at "px"
      refine lc_mapP (fun p => .str (hdS p)) L _ _ (by rw [List.length_map]; omega) ?_ fun p hp acc N2 sm k2 => ?_
      · walk_at "px"
        refine ih _ _ ⟨dn ++ [c], lf, W ++ L.map hdS, by rw [e]; simp, rfl, by rw [List.map_append, List.map_map]; rfl, fun t => ?_, by rw [List.length_append, List.length_append, List.length_map, List.length_singleton]; omega, rfl⟩
        rw [List.mem_append, hW t, List.mem_map]
        constructor
        · rintro (⟨c2, h2, h3⟩ | ⟨p, hp, e2⟩)
          · exact ⟨c2, by simp [h2], h3⟩
          · exact ⟨c, by simp, p, (hL p).mp hp, e2⟩
        · rintro ⟨c2, h2, p, hp, e2⟩
          rcases List.mem_append.mp h2 with h2 | h2
          · exact .inl ⟨c2, h2, p, hp, e2⟩
          · rw [List.mem_singleton] at h2
            subst h2
            exact .inr ⟨p, (hL p).mpr hp, e2⟩
      · obtain ⟨v, ps, rfl⟩ := subT_tup _ cok.body p ((hL p).mp hp)
        walk_at "px"
        exact ⟨sm, k2⟩
theorem ok_nx (T : Txt K mg) : Has P w K mg base "_law_next" 2 ["program", "word"] S_nx := by
  refine dv__law_next T (ok_lcl T) S_nx rfl fun pvs lp pre => ?_
  obtain ⟨n, fns, s, rfl, pg, hs⟩ := pre
  unfold rd__law_next
  generalize hE : endsOf S_nx _ = E
  have rt : ∀ (L : List Str) ρ, (∀ t, t ∈ L ↔ Cal fns s t) → L.length ≤ 3600 → E.rt (.pv (.lst (L.map PV.str))) ρ := fun L ρ h1 h2 => by
    rw [← hE]
    exact (ends_rt rfl (fun _ fns2 s2 e2 => by
      injection e2 with e3 e2; injection e2 with e4 _; injection e4 with e4
      rw [← encPg_inj e3, ← e4]; exact ⟨L, rfl, h1, h2⟩) ρ).1
  show qSeq _ _ E [.val (encPg fns), .val (.str s), .un, .un, .un, .un, .un, .un]
  obtain ⟨f, hf⟩ := fnOf_some hs
  have hfm := (fnOf_mem hf).1
  have fok := pg.fn f hfm
  have hlen := fok.len
  have n1 := pg.n1
  have pl := pg.len
  have h0 : encPg fns = .tup [.str (Str.ofString "program"), .tup (fns.map encFn)] := rfl
  rw [h0]
  walk_at "px"
  refine lcR_i (lc_fmT encFn (fun g => if g.w = s then some (encFn g) else none) fns _ (by omega) ?_ fun g hg acc N sm k => ?_)
  rotate_left
  · have eg : encFn g = .tup [.str g.w, .tup g.ps, g.fam, g.ix, .int (g.pl : Nat), .tup (g.cl.map encCl)] := rfl
    by_cases hw : g.w = s
    · rw [if_pos hw] at k
      rw [eg] at k ⊢
      walk_at "px"
      refine br_i (fun _ => ⟨sm, k⟩) fun h => ?_
      exact absurd hw (by simpa using h)
    · rw [if_neg hw] at k
      rw [eg]
      walk_at "px"
      refine br_i (fun h => absurd (by simpa using h) hw) fun h => by simpa using k
  have efm : fns.filterMap (fun g => if g.w = s then some (encFn g) else none) = [encFn f] := by
    exact fm_one pg.nd hf
  rw [efm]
  have ef : encFn f = .tup [.str f.w, .tup f.ps, f.fam, f.ix, .int (f.pl : Nat), .tup (f.cl.map encCl)] := rfl
  rw [← h0]
  walk_at "px"
  have g5 : atI [PV.str f.w, PV.tup f.ps, f.fam, f.ix, PV.int (f.pl : Nat), PV.tup (f.cl.map encCl)] 5 = some (PV.tup (f.cl.map encCl)) := rfl
  rw [ef]
  walk_at "px"
  rw [g5]
  refine ⟨small_of (by decide), ?_⟩
  walk_at "px"
  refine for_mapT encCl (fun dn ρ => ∃ (W : List Str) (o4 o5 : Option PV), (∀ t, t ∈ W ↔ t ∈ wds fns ∧ ∃ c ∈ dn, ∃ p ∈ subT c.body, hdS p = t) ∧ W.length ≤ 300 * dn.length ∧ ρ = [.val (encPg fns), .val (.str s), .val (encFn f), .val (.lst (W.map PV.str)), plS o4, plS o5, .un, .un]) _ _ ⟨[], none, none, fun t => by simp, by simp, rfl⟩ ?_ ?_
  · rintro ρ ⟨W, o4, o5, hW, hWl, rfl⟩
    walk_at "px"
    exact rt _ _ (fun t => by rw [hW t, cal_iff hf]) (by omega)
  · rintro dn c lf ρ e ⟨W, o4, o5, hW, hWl, rfl⟩ N ih
    have hcm : c ∈ f.cl := by rw [e]; simp
    have cok := fok.cl c hcm
    have hlt : dn.length < f.cl.length := by rw [e, List.length_append, List.length_cons]; omega
    have hb := cok.bsz
    have ec : encCl c = .tup [.tup c.pats, c.body] := rfl
    rw [ec]
    walk_at "px"
    refine lcl_i pl cok.body (by omega) fun L hL hLl => ?_
    walk_at "px"
    refine lcR_i (lc_fmP (fun p => if W.contains (hdS p) = true then none else some (.str (hdS p))) L _ (by omega) ?_ fun p hp acc N2 sm k => ?_)
    · have ef2 : ∀ L : List PV, L.filterMap (fun p => if W.contains (hdS p) = true then none else some (PV.str (hdS p))) = ((L.map hdS).filter fun s => !W.contains s).map PV.str := fun L => by
        induction L with
        | nil => rfl
        | cons s L ihL =>
          rw [List.filterMap_cons, List.map_cons, List.filter_cons, ihL]
          cases W.contains (hdS s) <;> rfl
      rw [ef2]
      have hf2 := List.length_filter_le (fun s => !W.contains s) (L.map hdS)
      rw [List.length_map] at hf2
      walk_at "px"
      refine ⟨small_of (by omega), ih _ ⟨W ++ (L.map hdS).filter fun s => !W.contains s, some (.tup c.pats), some c.body, fun t => ?_, by rw [List.length_append, List.length_append, List.length_singleton]; omega, by rw [List.map_append]; rfl⟩⟩
      rw [List.mem_append, List.mem_filter, List.mem_map, hW t]
      constructor
      · rintro (⟨h1, c2, h2, h3⟩ | ⟨⟨p, hp, e2⟩, _⟩)
        · exact ⟨h1, c2, by simp [h2], h3⟩
        · obtain ⟨h1, h2⟩ := (hL p).mp hp
          rw [e2] at h2
          exact ⟨h2, c, by simp, p, h1, e2⟩
      · rintro ⟨h1, c2, h2, p, hp, e2⟩
        by_cases hin : t ∈ W
        · exact .inl ((hW t).mp hin)
        · rcases List.mem_append.mp h2 with h2 | h2
          · exact .inl ⟨h1, c2, h2, p, hp, e2⟩
          · rw [List.mem_singleton] at h2
            subst h2
            exact .inr ⟨⟨p, (hL p).mpr ⟨hp, by rw [e2]; exact h1⟩, e2⟩, by simpa using hin⟩
    · obtain ⟨v, ps, rfl⟩ := subT_tup _ cok.body p ((hL p).mp hp).1
      have hv : hdS (.tup (.str v :: ps)) = v := rfl
      rw [hv] at k
      walk_at "px"
      rw [memP_strs']
      refine ⟨eqOk_strs _, ?_⟩
      cases hc : W.contains v with
      | true => rw [hc] at k; exact ⟨fun h => (by cases h), fun _ => by simpa using k⟩
      | false => rw [hc] at k; exact ⟨fun _ => ⟨sm, k⟩, fun h => by cases h⟩
end

end Lw
set_option maxHeartbeats 4000000
namespace Lw
open PySem L2 PyProof.Rows Px
inductive Rch (fns : List Fn) (w : Str) : Str → Prop where
  | one {s : Str} (h : Cal fns w s) : Rch fns w s
  | more {t s : Str} (h : Rch fns w t) (g : Cal fns t s) : Rch fns w s
def preW (pvs : List PV) : Prop := ∃ (n : Nat) (fns : List Fn) (s : Str), pvs = [encPg fns, .str s] ∧ PgOk n fns ∧ s ∈ wds fns
def S_rch : FS := { io := [false, false], pre := preW, post := fun pvs r _ => ∀ (fns : List Fn) (s : Str), pvs = [encPg fns, .str s] → ∃ L : List Str, r = .lst (L.map PV.str) ∧ (∀ t, t ∈ L ↔ Rch fns s t) ∧ L.Nodup ∧ L.length ≤ 12 }
def S_lrch : FS := { io := [false, false], pre := preW, post := fun pvs r _ => ∀ (fns : List Fn) (s : Str), pvs = [encPg fns, .str s] → ∃ L : List Str, r = .lst (L.map PV.str) ∧ (∀ t, t ∈ L ↔ Rch fns s t) ∧ L.Nodup ∧ L.length ≤ 12 }
def Grp (fns : List Fn) (s t : Str) : Prop := t = s ∨ (Rch fns s t ∧ Rch fns t s)
def S_grp : FS := { io := [false, false], pre := preW, post := fun pvs r _ => ∀ (fns : List Fn) (s : Str), pvs = [encPg fns, .str s] → ∃ L : List Str, r = .tup (L.map PV.str) ∧ (∀ t, t ∈ L ↔ Grp fns s t) ∧ L.Nodup ∧ L.Pairwise leS }
def S_lgrp : FS := { io := [false, false], pre := preW, post := fun pvs r _ => ∀ (fns : List Fn) (s : Str), pvs = [encPg fns, .str s] → ∃ L : List Str, r = .lst (L.map PV.str) ∧ (∀ t, t ∈ L ↔ Grp fns s t) ∧ L.Nodup ∧ L.Pairwise leS }
theorem S_rch_fr : S_rch.fr = false := rfl
theorem S_rch_io : S_rch.io = [false, false] := rfl
theorem S_lrch_fr : S_lrch.fr = false := rfl
theorem S_lrch_io : S_lrch.io = [false, false] := rfl
theorem S_grp_fr : S_grp.fr = false := rfl
theorem S_grp_io : S_grp.io = [false, false] := rfl
theorem S_lgrp_fr : S_lgrp.fr = false := rfl
theorem S_lgrp_io : S_lgrp.io = [false, false] := rfl
local macro_rules | `(tactic| walk_at "px") => `(tactic| simp -dsimp only [qVar, qK, qNil, qCons, qTup, qLst, vals, looks, R.look, R.wk, qCB, qB, qOp2, qTru, truG, qAnd, qOr, qNot, qAndV, qOrV, qNotV, qIfE, qNo, qPart, qSl, gSl, qIt, qRng1, qRng2, qgN, qgNil, qgCons, qgT, notIo_zero, notIo_succ, notIo_nil', slOk_un, slOk_val, slOk_own, slOk_pl, slOk_pd, notIos_nil, notIos_cons, qYes, qLc, qNext, qSeq, qBreak, qCont, qFrz, frz, qDrop, retG, qRet, qRetN, qIf, qSet, qOwn, qAsg, qFor, qMut, ownTy, gAppend, gExtend, gPop, isOwn, qSetIx, qCall, splitArgs, putOuts, setOwn, finOk, endsOf, mk, outsOf, uns,
  gAdd, gInt, gInt0, gEq, gNe, gIn, gNotIn, gIs, gIsNot, Px.isNon, gIx, getP, gLen, gAbs, gIntC, gSum, gMax, gMax2, gMax3, gMinT, gAll, gAny, gList, gTuple, gIsi, qNeg, qDict0, wipeE, lcGo_nil, br_t, br_f, atI_0, atI_1, atI_2, atI_3, ixN_0, ixN_1, ixN_2, ixN_3, List.length_map, List.length_set, cut_from1, isTy, tyN, gIsiT, asTys, gListD, keyP, isDic, qGet1, qGet2, qLZ, gZip, qPairs, mergeP, qDisp, gDictC, gStr, qChain, qPar, qAug, qMeth, tyIs, gIndex, qLcK, qDc, qDcK, dicAt, qForK, qZipI, qCallB, qCallF, splitB, qTake, tkEnds, tkRt, tkBack, Px.isN, isNst, gIxN, gPop0, gInsert, qSetSeed, qStep, qPar3, qLcO, lcoK, stEnds, stGo, immS, Px.imm, endsLaw, Option.isSome_some, Option.isSome_none, isEmp_concat, List.getLast?_concat, List.dropLast_concat, List.isEmpty_nil, gEqX, gNeX, qEnumI, enumP, gSortSet, gLenSet, qSortSc, asStrs, List.any_cons, List.any_nil, tyOk_str, tyOk_tuple, tyOk_int, tyOk_bool, tyOk_list, tyOk_dict, Option.map_some, Option.map_none,
  eqOk_str, eqOk_int, eqOk_bl, eqOk_non, eqOkW_str, eqOkW_int, eqOkW_bl, eqOkW_non, gEqW, gNeW, qVals, ownDic, qLc2, gLtX, gGtX, gSortX, peq_str, peq_int, peq_bl, List.getElem?_cons_zero, List.getElem?_cons_succ, List.getElem?_nil, List.set_cons_zero, List.set_cons_succ, List.zipWith_cons_cons, List.zipWith_nil_left, List.replicate_succ, List.replicate_zero, List.cons_append, List.nil_append, List.length_cons, List.length_nil, List.map_cons, List.map_nil, ↓reduceIte, Bool.false_eq_true, and_true, true_and, Bool.not_true, Bool.not_false, Nat.reduceAdd, Nat.reduceLT, Nat.reduceLeDiff, Nat.zero_lt_succ, Nat.lt_add_one, ne_eq, not_true_eq_false, not_false_eq_true, String.reduceEq, String.reduceBEq, Bool.or_false, Bool.false_or, Bool.or_true, Bool.true_or, Bool.and_false, Bool.and_true, Bool.false_and, Bool.true_and, reduceCtorEq, S_rch_fr, S_rch_io, S_lrch_fr, S_lrch_io, S_grp_fr, S_grp_io, S_lgrp_fr, S_lgrp_io])
theorem rch_i {n : Nat} {ρ : En} {fns : List Fn} {s : Str} {Q : PK1} {dm : Dum Q} (h : PgOk n fns) (hs : s ∈ wds fns) (k : ∀ L : List Str, (∀ t, t ∈ L ↔ Rch fns s t) → L.Nodup → L.length ≤ 12 → Q (.pv (.lst (L.map PV.str))) ρ) : callR S_rch [.pv (encPg fns), .pv (.str s)] ρ Q dm :=
  call_p (ps := [encPg fns, .str s]) rfl rfl ⟨n, fns, s, rfl, h, hs⟩ fun r hp => by
    obtain ⟨L, rfl, h1, h2, h3⟩ := hp _ _ rfl
    exact k L h1 h2 h3
theorem lrch_i {n : Nat} {ρ : En} {fns : List Fn} {s : Str} {Q : PK1} {dm : Dum Q} (h : PgOk n fns) (hs : s ∈ wds fns) (k : ∀ L : List Str, (∀ t, t ∈ L ↔ Rch fns s t) → L.Nodup → L.length ≤ 12 → Q (.pv (.lst (L.map PV.str))) ρ) : callR S_lrch [.pv (encPg fns), .pv (.str s)] ρ Q dm :=
  call_p (ps := [encPg fns, .str s]) rfl rfl ⟨n, fns, s, rfl, h, hs⟩ fun r hp => by
    obtain ⟨L, rfl, h1, h2, h3⟩ := hp _ _ rfl
    exact k L h1 h2 h3
theorem grp_i {n : Nat} {ρ : En} {fns : List Fn} {s : Str} {Q : PK1} {dm : Dum Q} (h : PgOk n fns) (hs : s ∈ wds fns) (k : ∀ L : List Str, (∀ t, t ∈ L ↔ Grp fns s t) → L.Nodup → L.Pairwise leS → Q (.pv (.tup (L.map PV.str))) ρ) : callR S_grp [.pv (encPg fns), .pv (.str s)] ρ Q dm :=
  call_p (ps := [encPg fns, .str s]) rfl rfl ⟨n, fns, s, rfl, h, hs⟩ fun r hp => by
    obtain ⟨L, rfl, h1, h2, h3⟩ := hp _ _ rfl
    exact k L h1 h2 h3
theorem lgrp_i {n : Nat} {ρ : En} {fns : List Fn} {s : Str} {Q : PK1} {dm : Dum Q} (h : PgOk n fns) (hs : s ∈ wds fns) (k : ∀ L : List Str, (∀ t, t ∈ L ↔ Grp fns s t) → L.Nodup → L.Pairwise leS → Q (.pv (.lst (L.map PV.str))) ρ) : callR S_lgrp [.pv (encPg fns), .pv (.str s)] ρ Q dm :=
  call_p (ps := [encPg fns, .str s]) rfl rfl ⟨n, fns, s, rfl, h, hs⟩ fun r hp => by
    obtain ⟨L, rfl, h1, h2, h3⟩ := hp _ _ rfl
    exact k L h1 h2 h3
theorem gSorted_strs {ss : List Str} {Q : R → Prop} (hl : ss.length < 64) (k : ∀ ys, ys.Perm ss → sortedS ys = true → Q (.fr (.lst (ys.map PV.str)))) : gSorted [.lst (ss.map PV.str)] Q := by
  unfold gSorted
  dsimp only
  rw [asStrs_map]
  exact ⟨hl, k⟩
theorem Cal.wd {fns : List Fn} {s t : Str} (h : Cal fns s t) : t ∈ wds fns := h.1
theorem Rch.wd {fns : List Fn} {s t : Str} (h : Rch fns s t) : t ∈ wds fns := by
  cases h with
  | one h => exact h.wd
  | more _ h => exact h.wd
theorem nd_sub_len : ∀ {L M : List Str}, L.Nodup → (∀ t ∈ L, t ∈ M) → L.length ≤ M.length
  | [], _, _, _ => Nat.zero_le _
  | x :: L, M, nd, sub => by
    rw [List.nodup_cons] at nd
    have hx : x ∈ M := sub x (by simp)
    have := nd_sub_len (L := L) (M := M.erase x) nd.2 fun t ht => (List.mem_erase_of_ne (by rintro rfl; exact nd.1 ht)).mpr (sub t (by simp [ht]))
    rw [List.length_erase_of_mem hx] at this
    have := List.length_pos_of_mem hx
    rw [List.length_cons]; omega
theorem wds_len (fns : List Fn) : (wds fns).length = fns.length := by unfold wds; rw [List.length_map]
theorem same_sorted {L M : List Str} (h : ∀ t, t ∈ L ↔ t ∈ M) (n1 : L.Nodup) (n2 : M.Nodup) (s1 : L.Pairwise leS) (s2 : M.Pairwise leS) : L = M :=
  sorted_one s1 s2 ((List.perm_ext_iff_of_nodup n1 n2).mpr h)
/-- a closed set holds what is reached -/
theorem rch_in {fns : List Fn} {s : Str} {F : List Str} (h0 : ∀ t, Cal fns s t → t ∈ F) (h1 : ∀ u ∈ F, ∀ t, Cal fns u t → t ∈ F) {t : Str} (h : Rch fns s t) : t ∈ F := by
  induction h with
  | one h => exact h0 _ h
  | more _ g ih => exact h1 _ ih _ g
section
variable {P : Program} {w : World} {K : PySem.W.Frag} {mg : Str → Option Value} {base : Heap}
theorem ok_rch (T : Txt K mg) : Has P w K mg base "reached_from" 3 ["program", "word"] S_rch := by
  refine dv_reached_from T (ok_cal T) S_rch rfl fun pvs lp pre => ?_
  obtain ⟨n, fns, s, rfl, pg, hs⟩ := pre
  unfold rd_reached_from
  generalize hE : endsOf S_rch _ = E
  have rt : ∀ (L : List Str) ρ, (∀ t, t ∈ L ↔ Rch fns s t) → L.Nodup → L.length ≤ 12 → E.rt (.fr (.lst (L.map PV.str))) ρ := fun L ρ h1 h2 h3 => by
    rw [← hE]
    exact (ends_rt rfl (fun _ fns2 s2 e2 => by
      injection e2 with e3 e2; injection e2 with e4 _; injection e4 with e4
      rw [← encPg_inj e3, ← e4]; exact ⟨L, rfl, h1, h2, h3⟩) ρ).2
  have pl := pg.len
  have wl := wds_len fns
  show qSeq _ _ E [.val (encPg fns), .val (.str s), .un, .un, .un]
  walk_at "px"
  refine ⟨small_of (by decide), cal_i pg hs fun L0 c1 c2 c3 => ?_⟩
  have l0 : L0.length ≤ 12 := by have := nd_sub_len c2 fun t ht => ((c1 t).mp ht).wd; omega
  walk_at "px"
  refine while_i (fun m ρ => ∃ (F W : List Str) (o4 : Option PV), m = (12 - F.length) * 13 + W.length ∧ F.Nodup ∧ (∀ t ∈ F, Rch fns s t) ∧ (∀ t ∈ W, Rch fns s t) ∧ (∀ t, Cal fns s t → t ∈ F ∨ t ∈ W) ∧ (∀ u ∈ F, ∀ t, Cal fns u t → t ∈ F ∨ t ∈ W) ∧ F.length ≤ 12 ∧ W.length ≤ 12 + F.length * 12 ∧ ρ = [.val (encPg fns), .val (.str s), .own false (.lst (F.map PV.str)), .own false (.lst (W.map PV.str)), plS o4]) _ ⟨[], L0, none, rfl, List.nodup_nil, fun t h => (by cases h), fun t h => .one ((c1 t).mp h), fun t h => .inr ((c1 t).mpr h), fun u h => (by cases h), by simp, by simp only [List.length_nil]; omega, rfl⟩ ?_
  rintro m ρ ⟨F, W, o4, rfl, fnd, f1, w1, g0, g1, fl, wlen, rfl⟩
  rcases List.eq_nil_or_concat W with rfl | ⟨W, x, rfl⟩
  · walk_at "px"
    refine rt F _ (fun t => ⟨f1 t, fun h => rch_in (fun t h => (g0 t h).elim id fun h => by cases h) (fun u hu t h => (g1 u hu t h).elim id fun h => by cases h) h⟩) fnd fl
  · rw [List.concat_eq_append] at *
    rw [List.length_append, List.length_singleton] at wlen ⊢
    have hx := w1 x (by simp)
    rw [List.map_append]
    have eP : [x].map PV.str = [PV.str x] := rfl
    rw [eP]
    walk_at "px"
    rw [memP_strs']
    refine ⟨eqOk_strs _, br_i (fun c => ?_) fun c => ?_⟩
    · have hxF : x ∉ F := by simpa using c
      have nd2 : (F ++ [x]).Nodup := List.nodup_append.mpr ⟨fnd, by simp, fun a ha b hb => by
        rw [List.mem_singleton] at hb; subst hb; rintro rfl; exact hxF ha⟩
      have l2 := nd_sub_len nd2 (M := wds fns) fun t ht => by
        rcases List.mem_append.mp ht with ht | ht
        · exact (f1 t ht).wd
        · rw [List.mem_singleton] at ht; subst ht; exact hx.wd
      rw [List.length_append, List.length_singleton] at l2
      refine ⟨small_of (by first | omega | (simp only [List.length_map]; omega)), cal_i pg hx.wd fun L d1 d2 d3 => ?_⟩
      have lL : L.length ≤ 12 := by have := nd_sub_len d2 fun t ht => ((d1 t).mp ht).wd; omega
      walk_at "px"
      refine ⟨small_of (by first | omega | (simp only [List.length_map]; omega)), (12 - (F ++ [x]).length) * 13 + (W ++ L).length, by simp only [List.length_append, List.length_singleton]; omega, F ++ [x], W ++ L, some (.str x), rfl, nd2, fun t ht => ?_, fun t ht => ?_, fun t ht => ?_, fun u hu t ht => ?_, by rw [List.length_append, List.length_singleton]; omega, by simp only [List.length_append, List.length_singleton]; omega, by simp only [List.map_append]; rfl⟩
      · rcases List.mem_append.mp ht with ht | ht
        · exact f1 t ht
        · rw [List.mem_singleton] at ht; subst ht; exact hx
      · rcases List.mem_append.mp ht with ht | ht
        · exact w1 t (by simp [ht])
        · exact .more hx ((d1 t).mp ht)
      · rcases g0 t ht with h | h
        · exact .inl (by simp [h])
        · rcases List.mem_append.mp h with h | h
          · exact .inr (by simp [h])
          · exact .inl (by simp at h; simp [h])
      · rcases List.mem_append.mp hu with hu | hu
        · rcases g1 u hu t ht with h | h
          · exact .inl (by simp [h])
          · rcases List.mem_append.mp h with h | h
            · exact .inr (by simp [h])
            · exact .inl (by simp at h; simp [h])
        · rw [List.mem_singleton] at hu; subst hu
          exact .inr (by simp [(d1 t).mpr ht])
    · have hxF : x ∈ F := by simpa using c
      refine ⟨(12 - F.length) * 13 + W.length, by omega, F, W, some (.str x), rfl, fnd, f1, fun t ht => w1 t (by simp [ht]), fun t ht => ?_, fun u hu t ht => ?_, fl, by omega, rfl⟩
      · rcases g0 t ht with h | h
        · exact .inl h
        · rcases List.mem_append.mp h with h | h
          · exact .inr h
          · exact .inl (by simp at h; rw [h]; exact hxF)
      · rcases g1 u hu t ht with h | h
        · exact .inl h
        · rcases List.mem_append.mp h with h | h
          · exact .inr h
          · exact .inl (by simp at h; rw [h]; exact hxF)
theorem ok_lrch (T : Txt K mg) : Has P w K mg base "_law_reached" 3 ["program", "word"] S_lrch := by
  refine dv__law_reached T (ok_nx T) S_lrch rfl fun pvs lp pre => ?_
  obtain ⟨n, fns, s, rfl, pg, hs⟩ := pre
  unfold rd__law_reached
  generalize hE : endsOf S_lrch _ = E
  have rt : ∀ (L : List Str) ρ, (∀ t, t ∈ L ↔ Rch fns s t) → L.Nodup → L.length ≤ 12 → E.rt (.fr (.lst (L.map PV.str))) ρ := fun L ρ h1 h2 h3 => by
    rw [← hE]
    exact (ends_rt rfl (fun _ fns2 s2 e2 => by
      injection e2 with e3 e2; injection e2 with e4 _; injection e4 with e4
      rw [← encPg_inj e3, ← e4]; exact ⟨L, rfl, h1, h2, h3⟩) ρ).2
  have pl := pg.len
  have wl := wds_len fns
  show qSeq _ _ E [.val (encPg fns), .val (.str s), .un, .un, .un]
  walk_at "px"
  refine ⟨small_of (by decide), small_of (by decide), ?_⟩
  refine while_i (fun m ρ => ∃ (F W : List Str) (o4 : Option PV), m = (12 - F.length) * 2 + W.length ∧ F.Nodup ∧ (∀ t ∈ F, Rch fns s t) ∧ (∀ t ∈ W, t ∈ wds fns ∧ (t = s ∨ Rch fns s t)) ∧ (∀ u, (u = s ∨ u ∈ F) → u ∈ W ∨ ∀ t, Cal fns u t → t ∈ F) ∧ F.length ≤ 12 ∧ W.length ≤ 1 + F.length ∧ ρ = [.val (encPg fns), .val (.str s), .own false (.lst (F.map PV.str)), .own false (.lst (W.map PV.str)), plS o4]) _ ⟨[], [s], none, rfl, List.nodup_nil, fun t h => (by cases h), fun t h => (by simp at h; subst h; exact ⟨hs, .inl rfl⟩), fun u h => (by simp at h; subst h; exact .inl (by simp)), by simp, by simp, rfl⟩ ?_
  rintro m ρ ⟨F, W, o4, rfl, fnd, f1, w1, g1, fl, wlen, rfl⟩
  rcases List.eq_nil_or_concat W with rfl | ⟨W, x, rfl⟩
  · walk_at "px"
    refine br_i (fun h => by simp at h) fun _ => ?_
    refine rt F _ (fun t => ⟨f1 t, fun h => rch_in (fun t h => (g1 s (.inl rfl)).elim (fun h => by cases h) fun g => g t h) (fun u hu t h => (g1 u (.inr hu)).elim (fun h => by cases h) fun g => g t h) h⟩) fnd fl
  · rw [List.concat_eq_append] at *
    rw [List.length_append, List.length_singleton] at wlen ⊢
    obtain ⟨xw, hx⟩ := w1 x (by simp)
    have gt : decide ((0 : Int) < (((W.map PV.str ++ [PV.str x]).length : Nat) : Int)) = true := by rw [decide_eq_true_eq, List.length_append, List.length_singleton]; omega
    rw [List.map_append]
    have eP : [x].map PV.str = [PV.str x] := rfl
    rw [eP]
    walk_at "px"
    rw [gt]
    refine br_i (fun _ => ?_) fun h => by cases h
    refine nx_i pg xw fun L d1 d2 => ?_
    walk_at "px"
    refine for_mapT PV.str (fun dn ρ => ∃ (F2 W2 : List Str) (o4 : Option PV), (12 - F2.length) * 2 + W2.length ≤ (12 - F.length) * 2 + W.length ∧ F2.Nodup ∧ (∀ t ∈ F2, Rch fns s t) ∧ (∀ t ∈ W2, t ∈ wds fns ∧ (t = s ∨ Rch fns s t)) ∧ (∀ u, (u = s ∨ u ∈ F2) → u = x ∨ u ∈ W2 ∨ ∀ t, Cal fns u t → t ∈ F2) ∧ F2.length ≤ 12 ∧ W2.length ≤ F2.length ∧ (∀ t ∈ dn, t ∈ F2) ∧ ρ = [.val (encPg fns), .val (.str s), .own false (.lst (F2.map PV.str)), .own false (.lst (W2.map PV.str)), plS o4]) L _ ⟨F, W, o4, by omega, fnd, f1, fun t ht => w1 t (by simp [ht]), fun u hu => ?_, fl, by omega, fun t h => (by cases h), rfl⟩ ?_ ?_
    · rcases g1 u hu with h | h
      · rcases List.mem_append.mp h with h | h
        · exact .inr (.inl h)
        · exact .inl (by simpa using h)
      · exact .inr (.inr h)
    · rintro ρ ⟨F2, W2, o4, hm, nd, f2, w2, g2, l1, l2, hd, rfl⟩
      walk_at "px"
      refine ⟨(12 - F2.length) * 2 + W2.length, by omega, F2, W2, o4, rfl, nd, f2, w2, fun u hu => ?_, l1, by omega, rfl⟩
      rcases g2 u hu with rfl | h | h
      · exact .inr fun t ht => hd t ((d1 t).mpr ht)
      · exact .inl h
      · exact .inr h
    · rintro dn y lf ρ e ⟨F2, W2, o4, hm, nd, f2, w2, g2, l1, l2, hd, rfl⟩ N ih
      have hy : Cal fns x y := (d1 y).mp (by rw [e]; simp)
      have ry : Rch fns s y := by
        rcases hx with rfl | hx
        · exact .one hy
        · exact .more hx hy
      walk_at "px"
      rw [memP_strs']
      refine ⟨eqOk_strs _, br_i (fun c => ?_) fun c => ?_⟩
      · have hyF : y ∉ F2 := by simpa using c
        have nd2 : (F2 ++ [y]).Nodup := List.nodup_append.mpr ⟨nd, by simp, fun a ha b hb => by
          rw [List.mem_singleton] at hb; subst hb; rintro rfl; exact hyF ha⟩
        have l3 := nd_sub_len nd2 (M := wds fns) fun t ht => by
          rcases List.mem_append.mp ht with ht | ht
          · exact (f2 t ht).wd
          · rw [List.mem_singleton] at ht; subst ht; exact ry.wd
        rw [List.length_append, List.length_singleton] at l3
        refine ⟨small_of (by first | omega | (simp only [List.length_map]; omega)), small_of (by first | omega | (simp only [List.length_map]; omega)), ih _ ⟨F2 ++ [y], W2 ++ [y], some (.str y), by simp only [List.length_append, List.length_singleton]; omega, nd2, fun t ht => ?_, fun t ht => ?_, fun u hu => ?_, by rw [List.length_append, List.length_singleton]; omega, by simp only [List.length_append, List.length_singleton]; omega, fun t ht => ?_, by simp only [List.map_append]; rfl⟩⟩
        · rcases List.mem_append.mp ht with ht | ht
          · exact f2 t ht
          · rw [List.mem_singleton] at ht; subst ht; exact ry
        · rcases List.mem_append.mp ht with ht | ht
          · exact w2 t ht
          · rw [List.mem_singleton] at ht; subst ht; exact ⟨ry.wd, .inr ry⟩
        · have old : (u = s ∨ u ∈ F2) → u = x ∨ u ∈ W2 ++ [y] ∨ ∀ t, Cal fns u t → t ∈ F2 ++ [y] := fun hu => by
            rcases g2 u hu with h | h | h
            · exact .inl h
            · exact .inr (.inl (by simp [h]))
            · exact .inr (.inr fun t ht => by simp [h t ht])
          rcases hu with hu | hu
          · exact old (.inl hu)
          · rcases List.mem_append.mp hu with hu | hu
            · exact old (.inr hu)
            · exact .inr (.inl (by simp at hu; simp [hu]))
        · rcases List.mem_append.mp ht with ht | ht
          · simp [hd t ht]
          · simp at ht; simp [ht]
      · have hyF : y ∈ F2 := by simpa using c
        refine ih _ ⟨F2, W2, some (.str y), hm, nd, f2, w2, g2, l1, l2, fun t ht => ?_, rfl⟩
        rcases List.mem_append.mp ht with ht | ht
        · exact hd t ht
        · simp at ht; rw [ht]; exact hyF
theorem ok_grp (T : Txt K mg) : Has P w K mg base "group_of" 4 ["program", "word"] S_grp := by
  refine dv_group_of T (ok_rch T) S_grp rfl fun pvs lp pre => ?_
  obtain ⟨n, fns, s, rfl, pg, hs⟩ := pre
  unfold rd_group_of
  generalize hE : endsOf S_grp _ = E
  have rt : ∀ (L : List Str) ρ, (∀ t, t ∈ L ↔ Grp fns s t) → L.Nodup → L.Pairwise leS → E.rt (.pv (.tup (L.map PV.str))) ρ := fun L ρ h1 h2 h3 => by
    rw [← hE]
    exact (ends_rt rfl (fun _ fns2 s2 e2 => by
      injection e2 with e3 e2; injection e2 with e4 _; injection e4 with e4
      rw [← encPg_inj e3, ← e4]; exact ⟨L, rfl, h1, h2, h3⟩) ρ).1
  show qSeq _ _ E [.val (encPg fns), .val (.str s), .un, .un]
  walk_at "px"
  refine rch_i pg hs fun L c1 c2 c3 => ?_
  walk_at "px"
  classical
  refine lcR_i (lc_fmT PV.str (fun t => if Rch fns t s then some (PV.str t) else none) L _ (by omega) ?_ fun t ht acc N sm k => ?_)
  · have ef : ∀ L : List Str, L.filterMap (fun t => if Rch fns t s then some (PV.str t) else none) = (L.filter fun t => decide (Rch fns t s)).map PV.str := fun L => by
      induction L with
      | nil => rfl
      | cons t L ihL =>
        rw [List.filterMap_cons, List.filter_cons, ihL]
        by_cases h : Rch fns t s
        · rw [if_pos h, if_pos (by simpa using h)]; rfl
        · rw [if_neg h, if_neg (by simpa using h)]
    rw [ef]
    have lf := List.length_filter_le (fun t => decide (Rch fns t s)) L
    walk_at "px"
    rw [asStrs_map]
    refine ⟨small_of (by decide), small_of (by omega), by simp only [List.length_cons]; omega, fun ys hp hso => ?_⟩
    refine rt ys _ (fun t => ?_) (hp.nodup_iff.mpr (inss_nd List.nodup_nil)) (sortedS_pw hso)
    rw [hp.mem_iff, mem_inss, List.mem_cons, List.mem_filter, decide_eq_true_eq, c1]
    unfold Grp
    exact ⟨fun h => h.elim id (fun h => by cases h), .inl⟩
  · have htR := (c1 t).mp ht
    walk_at "px"
    refine rch_i pg htR.wd fun M d1 d2 d3 => ?_
    walk_at "px"
    rw [memP_strs']
    refine ⟨eqOk_strs _, ?_⟩
    by_cases h : Rch fns t s
    · rw [if_pos h] at k
      exact br_i (fun _ => ⟨sm, k⟩) fun hc => absurd ((d1 s).mpr h) (by simpa using hc)
    · rw [if_neg h] at k
      exact br_i (fun hc => absurd ((d1 s).mp (by simpa using hc)) h) fun _ => by simpa using k
theorem ok_lgrp (T : Txt K mg) : Has P w K mg base "_law_group" 4 ["program", "word"] S_lgrp := by
  refine dv__law_group T (ok_lrch T) S_lgrp rfl fun pvs lp pre => ?_
  obtain ⟨n, fns, s, rfl, pg, hs⟩ := pre
  unfold rd__law_group
  generalize hE : endsOf S_lgrp _ = E
  have rt : ∀ (L : List Str) ρ, (∀ t, t ∈ L ↔ Grp fns s t) → L.Nodup → L.Pairwise leS → E.rt (.fr (.lst (L.map PV.str))) ρ := fun L ρ h1 h2 h3 => by
    rw [← hE]
    exact (ends_rt rfl (fun _ fns2 s2 e2 => by
      injection e2 with e3 e2; injection e2 with e4 _; injection e4 with e4
      rw [← encPg_inj e3, ← e4]; exact ⟨L, rfl, h1, h2, h3⟩) ρ).2
  show qSeq _ _ E [.val (encPg fns), .val (.str s), .un, .un]
  walk_at "px"
  refine lrch_i pg hs fun L c1 c2 c3 => ?_
  walk_at "px"
  classical
  refine lcR_i (lc_fmT PV.str (fun t => if Rch fns t s then some (PV.str t) else none) L _ (by omega) ?_ fun t ht acc N sm k => ?_)
  · have ef : ∀ L : List Str, L.filterMap (fun t => if Rch fns t s then some (PV.str t) else none) = (L.filter fun t => decide (Rch fns t s)).map PV.str := fun L => by
      induction L with
      | nil => rfl
      | cons t L ihL =>
        rw [List.filterMap_cons, List.filter_cons, ihL]
        by_cases h : Rch fns t s
        · rw [if_pos h, if_pos (by simpa using h)]; rfl
        · rw [if_neg h, if_neg (by simpa using h)]
    rw [ef]
    have lf := List.length_filter_le (fun t => decide (Rch fns t s)) L
    have fn2 : (L.filter fun t => decide (Rch fns t s)).Nodup := c2.filter _
    have fm : ∀ t, t ∈ L.filter (fun t => decide (Rch fns t s)) ↔ Rch fns s t ∧ Rch fns t s := fun t => by rw [List.mem_filter, decide_eq_true_eq, c1]
    generalize L.filter (fun t => decide (Rch fns t s)) = M at lf fn2 fm
    walk_at "px"
    rw [memP_strs']
    refine ⟨eqOk_strs _, br_i (fun c => ?_) fun c => ?_⟩
    · have hsM : s ∉ M := by simpa using c
      refine ⟨small_of (by first | omega | (simp only [List.length_map]; omega)), ?_⟩
      have eM : M.map PV.str ++ [PV.str s] = (M ++ [s]).map PV.str := by rw [List.map_append]; rfl
      rw [eM]
      refine gSorted_strs (by rw [List.length_append, List.length_singleton]; omega) fun ys hp hso => ?_
      walk_at "px"
      refine rt ys _ (fun t => ?_) (hp.nodup_iff.mpr (List.nodup_append.mpr ⟨fn2, by simp, fun a ha b hb => ?_⟩)) (sortedS_pw hso)
      · rw [hp.mem_iff, List.mem_append, List.mem_singleton, fm]
        unfold Grp
        exact or_comm
      · rw [List.mem_singleton] at hb; subst hb; rintro rfl; exact hsM ha
    · have hsM : s ∈ M := by simpa using c
      refine gSorted_strs (by omega) fun ys hp hso => ?_
      walk_at "px"
      refine rt ys _ (fun t => ?_) (hp.nodup_iff.mpr fn2) (sortedS_pw hso)
      rw [hp.mem_iff]
      unfold Grp
      refine ⟨fun h => .inr ((fm t).mp h), ?_⟩
      rintro (rfl | h)
      · exact hsM
      · exact (fm t).mpr h
  · have htR := (c1 t).mp ht
    walk_at "px"
    refine lrch_i pg htR.wd fun M d1 d2 d3 => ?_
    walk_at "px"
    rw [memP_strs']
    refine ⟨eqOk_strs _, ?_⟩
    by_cases h : Rch fns t s
    · rw [if_pos h] at k
      exact br_i (fun _ => ⟨sm, k⟩) fun hc => absurd ((d1 s).mpr h) (by simpa using hc)
    · rw [if_neg h] at k
      exact br_i (fun hc => absurd ((d1 s).mp (by simpa using hc)) h) fun _ => by simpa using k
end

end Lw
set_option maxHeartbeats 4000000
namespace Lw
open PySem L2 PyProof.Rows Px
def AR (s : Str) : Option Nat := if s = Str.ofString "K0" then some 0 else if s = Str.ofString "K1" then some 1 else if s = Str.ofString "K2" then some 2 else if s = Str.ofString "K3" then some 1 else none
structure PatOk (p : PV) : Prop where
  ok : okT AR p = true
  sz : psz p ≤ 5
  dep : Px.dep p ≤ 3
  nm : nmL p = nmP p
def isMark (m : Str) : Prop := m = Str.ofString "x" ∨ m = Str.ofString "y"
def S_gp : FS := { io := [true, false], pre := fun pvs => ∃ (d : PV) (m : Str), pvs = [d, .str m] ∧ NsOk d ∧ isMark m, post := fun pvs r outs => ∃ d', outs = [d'] ∧ NsOk d' ∧ PatOk r }
structure ValOk (n : Nat) (p : PV) : Prop where
  ok : okV AR p = true
  dep : Px.dep p ≤ n
def S_val (n : Nat) : FS := { io := [true, false], pre := fun pvs => ∃ (d : PV) (k : Nat), pvs = [d, .int (k : Nat)] ∧ NsOk d ∧ k < n ∧ n ≤ 10, post := fun pvs r outs => ∃ d', outs = [d'] ∧ NsOk d' ∧ ∀ d (k : Nat), pvs = [d, .int (k : Nat)] → ValOk (k + 1) r }
def S_like (n : Nat) : FS := { io := [true, false], pre := fun pvs => ∃ (d p : PV), pvs = [d, p] ∧ NsOk d ∧ okT AR p = true ∧ dep p < n ∧ n ≤ 20 ∧ psz p ≤ 300, post := fun pvs r outs => ∃ d', outs = [d'] ∧ NsOk d' ∧ ∀ d p, pvs = [d, p] → ValOk (dep p + 4) r }
/-- where a word's parts go -/
def PlOk (pl : As) (words : List Str) : Prop := ∀ s ∈ words, ∃ a b : Nat, look pl s = some (.tup [.int (a : Nat), .int (b : Nat)]) ∧ 1 ≤ a ∧ a ≤ 2
structure BdOk (n : Nat) (p : PV) : Prop where
  sh : tsh p = true
  sz : psz p + 2 ≤ 4 * 2 ^ n
  dep : Px.dep p ≤ n + 1
def S_gb (n : Nat) : FS := { io := [true, false, false, false, false], pre := fun pvs => ∃ (d : PV) (pl : As) (ws ns : List Str) (k : Nat), pvs = [d, encD pl, .lst (ws.map PV.str), .lst (ns.map PV.str), .int (k : Nat)] ∧ NsOk d ∧ PlOk pl ws ∧ ws ≠ [] ∧ ws.length ≤ 10 ∧ ns.length ≤ 100 ∧ k < n ∧ n ≤ 10, post := fun pvs r outs => ∃ d', outs = [d'] ∧ NsOk d' ∧ ∀ d pl ws ns (k : Nat), pvs = [d, pl, ws, ns, .int (k : Nat)] → BdOk k r }
theorem S_gp_fr : S_gp.fr = false := rfl
theorem S_gp_io : S_gp.io = [true, false] := rfl
theorem S_val_fr (n : Nat) : (S_val n).fr = false := rfl
theorem S_val_io (n : Nat) : (S_val n).io = [true, false] := rfl
theorem S_like_fr (n : Nat) : (S_like n).fr = false := rfl
theorem S_like_io (n : Nat) : (S_like n).io = [true, false] := rfl
theorem S_gb_fr (n : Nat) : (S_gb n).fr = false := rfl
theorem S_gb_io (n : Nat) : (S_gb n).io = [true, false, false, false, false] := rfl
local macro_rules | `(tactic| walk_at "px") => `(tactic| simp -dsimp only [qVar, qK, qNil, qCons, qTup, qLst, vals, looks, R.look, R.wk, qCB, qB, qOp2, qTru, truG, qAnd, qOr, qNot, qAndV, qOrV, qNotV, qIfE, qNo, qPart, qSl, gSl, qIt, qRng1, qRng2, qgN, qgNil, qgCons, qgT, notIo_zero, notIo_succ, notIo_nil', slOk_un, slOk_val, slOk_own, slOk_pl, slOk_pd, notIos_nil, notIos_cons, qYes, qLc, qNext, qSeq, qBreak, qCont, qFrz, frz, qDrop, retG, qRet, qRetN, qIf, qSet, qOwn, qAsg, qFor, qMut, ownTy, gAppend, gExtend, gPop, isOwn, qSetIx, qCall, splitArgs, putOuts, setOwn, finOk, endsOf, mk, outsOf, uns,
  gAdd, gInt, gInt0, gEq, gNe, gIn, gNotIn, gIs, gIsNot, Px.isNon, gIx, getP, gLen, gAbs, gIntC, gSum, gMax, gMax2, gMax3, gMinT, gAll, gAny, gList, gTuple, gIsi, qNeg, qDict0, wipeE, lcGo_nil, br_t, br_f, atI_0, atI_1, atI_2, atI_3, ixN_0, ixN_1, ixN_2, ixN_3, List.length_map, List.length_set, cut_from1, isTy, tyN, gIsiT, asTys, gListD, keyP, isDic, qGet1, qGet2, qLZ, gZip, qPairs, mergeP, qDisp, gDictC, gStr, qChain, qPar, qAug, qMeth, tyIs, gIndex, qLcK, qDc, qDcK, dicAt, qForK, qZipI, qCallB, qCallF, splitB, qTake, tkEnds, tkRt, tkBack, Px.isN, isNst, gIxN, gPop0, gInsert, qSetSeed, qStep, qPar3, qLcO, lcoK, stEnds, stGo, immS, Px.imm, endsLaw, Option.isSome_some, Option.isSome_none, isEmp_concat, List.getLast?_concat, List.dropLast_concat, List.isEmpty_nil, gEqX, gNeX, qEnumI, enumP, gSortSet, gLenSet, qSortSc, asStrs, List.any_cons, List.any_nil, tyOk_str, tyOk_tuple, tyOk_int, tyOk_bool, tyOk_list, tyOk_dict, Option.map_some, Option.map_none,
  eqOk_str, eqOk_int, eqOk_bl, eqOk_non, eqOkW_str, eqOkW_int, eqOkW_bl, eqOkW_non, gEqW, gNeW, qVals, ownDic, qLc2, gLtX, gGtX, gSortX, peq_str, peq_int, peq_bl, List.getElem?_cons_zero, List.getElem?_cons_succ, List.getElem?_nil, List.set_cons_zero, List.set_cons_succ, List.zipWith_cons_cons, List.zipWith_nil_left, List.replicate_succ, List.replicate_zero, List.cons_append, List.nil_append, List.length_cons, List.length_nil, List.map_cons, List.map_nil, ↓reduceIte, Bool.false_eq_true, and_true, true_and, Bool.not_true, Bool.not_false, Nat.reduceAdd, Nat.reduceLT, Nat.reduceLeDiff, Nat.zero_lt_succ, Nat.lt_add_one, ne_eq, not_true_eq_false, not_false_eq_true, String.reduceEq, String.reduceBEq, Bool.or_false, Bool.false_or, Bool.or_true, Bool.true_or, Bool.and_false, Bool.and_true, Bool.false_and, Bool.true_and, reduceCtorEq, S_gp_fr, S_gp_io, S_val_fr, S_val_io, S_like_fr, S_like_io, S_gb_fr, S_gb_io])
theorem gp_i {ρ : En} {j : Nat} {b : Bool} {d : PV} {m : Str} {Q : PK1} {dm : Dum Q} (h : ρ[j]? = some (Sl.own b d)) (hd : NsOk d) (hm : isMark m) (k : ∀ r d', NsOk d' → PatOk r → Q (.pv r) (setOwn ρ j d')) : callR S_gp [.sl j, .pv (.str m)] ρ Q dm := by
  refine call_1 (j := j) (ps := [d, .str m]) (by simp [S_gp, splitArgs, h]) rfl ⟨d, m, rfl, hd, hm⟩ fun r d' hp => ?_
  obtain ⟨d2, e, hd', hm⟩ := hp
  cases e
  exact k r d' hd' hm
theorem val_i {n : Nat} {ρ : En} {j : Nat} {b : Bool} {d : PV} {m : Nat} {Q : PK1} {dm : Dum Q} (h : ρ[j]? = some (Sl.own b d)) (hd : NsOk d) (hm : m < n) (hn : n ≤ 10) (k : ∀ r d', NsOk d' → ValOk (m + 1) r → Q (.pv r) (setOwn ρ j d')) : callR (S_val n) [.sl j, .pv (.int (m : Nat))] ρ Q dm := by
  refine call_1 (j := j) (ps := [d, .int (m : Nat)]) (by simp [S_val, splitArgs, h]) rfl ⟨d, m, rfl, hd, hm, hn⟩ fun r d' hp => ?_
  obtain ⟨d2, e, hd', hm⟩ := hp
  cases e
  exact k r d' hd' (hm _ _ rfl)
theorem like_i {n : Nat} {ρ : En} {j : Nat} {b : Bool} {d p : PV} {Q : PK1} {dm : Dum Q} (h : ρ[j]? = some (Sl.own b d)) (hd : NsOk d) (hp : okT AR p = true) (hm : dep p < n) (hn : n ≤ 20) (hz : psz p ≤ 300) (k : ∀ r d', NsOk d' → ValOk (dep p + 4) r → Q (.pv r) (setOwn ρ j d')) : callR (S_like n) [.sl j, .pv p] ρ Q dm := by
  refine call_1 (j := j) (ps := [d, p]) (by simp [S_like, splitArgs, h]) rfl ⟨d, p, rfl, hd, hp, hm, hn, hz⟩ fun r d' hp => ?_
  obtain ⟨d2, e, hd', hm⟩ := hp
  cases e
  exact k r d' hd' (hm _ _ rfl)
theorem gb_i {n : Nat} {ρ : En} {j : Nat} {b : Bool} {d : PV} {pl : As} {ws ns : List Str} {m : Nat} {Q : PK1} {dm : Dum Q} (h : ρ[j]? = some (Sl.own b d)) (hd : NsOk d) (h1 : PlOk pl ws) (h2 : ws ≠ []) (h3 : ws.length ≤ 10) (h4 : ns.length ≤ 100) (hm : m < n) (hn : n ≤ 10) (k : ∀ r d', NsOk d' → BdOk m r → Q (.pv r) (setOwn ρ j d')) : callR (S_gb n) [.sl j, .pv (encD pl), .pv (.lst (ws.map PV.str)), .pv (.lst (ns.map PV.str)), .pv (.int (m : Nat))] ρ Q dm := by
  refine call_1 (j := j) (ps := [d, encD pl, .lst (ws.map PV.str), .lst (ns.map PV.str), .int (m : Nat)]) (by simp [S_gb, splitArgs, h]) rfl ⟨d, pl, ws, ns, m, rfl, hd, h1, h2, h3, h4, hm, hn⟩ fun r d' hp => ?_
  obtain ⟨d2, e, hd', hm⟩ := hp
  cases e
  exact k r d' hd' (hm _ _ _ _ _ rfl)
theorem state_i {ρ : En} {ns : List Int} {Q : PK1} {dm : Dum Q} (hl : ns.length ≤ 63) (k : ∀ (ms : List Int) (s : Int), (∀ n ∈ ms, 0 ≤ n) → Q (.fr (.lst [.lst (ms.map PV.int), .int s])) ρ) : callR sState [.pv (.scr ns)] ρ Q dm := by
  refine call_i (ps := [.scr ns]) (js := []) rfl List.nodup_nil ⟨ns, rfl, hl⟩ fun r outs hp l => ?_
  have e : outs = [] := List.length_eq_zero_iff.mp l
  subst e
  obtain ⟨ms, s, rfl, nn⟩ := hp
  exact k ms s nn
section
variable {P : Program} {w : World} {K : PySem.W.Frag} {mg : Str → Option Value} {base : Heap}
theorem ok_gp (T : Txt K mg) : Has P w K mg base "_law_graph_pattern" 2 ["state", "mark"] S_gp := by
  refine dv__law_graph_pattern T (ok_draw T) S_gp rfl fun pvs lp pre => ?_
  obtain ⟨d, m, rfl, hd, hm⟩ := pre
  unfold rd__law_graph_pattern
  generalize hE : endsOf S_gp _ = E
  have rt : ∀ {r d' : PV} {a b : Sl}, NsOk d' → PatOk r → E.rt (.pv r) [.own true d', a, b] := fun {r d' a b} hd' h => by rw [← hE]; exact ⟨d', rfl, hd', h⟩
  show qSeq _ _ E [.own true d, .val (.str m), .un]
  have P0 : ∀ m, isMark m → PatOk (.str (m ++ Str.ofString "0")) := fun m hm => by rcases hm with rfl | rfl <;> exact ⟨by decide, by decide, by decide, by decide⟩
  have sm : ∀ m s : Str, isMark m → s.length ≤ 5 → small (m.length + s.length) := fun m s hm hs => by
    have : m.length = 1 := by rcases hm with rfl | rfl <;> rfl
    exact small_of (by omega)
  walk_at "px"
  refine draw_i rfl hd (by decide) (by decide) fun k d1 hd1 k0 k1 => ?_
  walk_at "px"
  have s0 := sm m (Str.ofString "0") hm (by decide)
  have s1 := sm m (Str.ofString "1") hm (by decide)
  have s2 : small 1 := small_of (by decide)
  have s3 : small 2 := small_of (by decide)
  have s4 : small 3 := small_of (by decide)
  refine br_i (fun _ => ⟨s0, rt hd1 (P0 m hm)⟩) fun _ => br_i (fun _ => ⟨s2, rt hd1 ?_⟩) fun _ => br_i (fun _ => ⟨s0, s3, rt hd1 ?_⟩) fun _ => br_i (fun _ => ⟨s0, s3, s3, rt hd1 ?_⟩) fun _ => br_i (fun _ => ⟨s0, s1, s4, rt hd1 ?_⟩) fun _ => br_i (fun _ => ⟨s0, s3, s3, rt hd1 ?_⟩) fun _ => ⟨s0, s3, rt hd1 ?_⟩
  all_goals rcases hm with rfl | rfl <;> exact ⟨by decide, by decide, by decide, by decide⟩
theorem ok_val (T : Txt K mg) : ∀ n : Nat, Has P w K mg base "_law_value" (n + 1) ["state", "deep"] (S_val n)
  | 0 => by
    refine (Px.has_none T.d__law_value (fun F => F.binds (ps := ["state", "deep"]) fun _ _ _ _ _ _ us hl => match us, hl with | [_, _], _ => rfl) fun pvs h => ?_ : Has P w K mg base "_law_value" 0 _ _).mono (by omega)
    obtain ⟨_, _, _, _, h, _⟩ := h
    omega
  | n + 1 => by
    refine dv__law_value T ((ok_draw T).mono (by omega)) (ok_val T n) (S_val (n + 1)) rfl fun pvs lp pre => ?_
    obtain ⟨d, k, rfl, hd, hk, hn⟩ := pre
    unfold rd__law_value
    generalize hE : endsOf (S_val (n + 1)) _ = E
    have rt : ∀ {r d' : PV} {a b : Sl}, NsOk d' → ValOk (k + 1) r → E.rt (.pv r) [.own true d', a, b] := fun {r d' a b} hd' h => by
      rw [← hE]
      exact ⟨d', rfl, hd', fun d2 k2 e => by
        injection e with _ e; injection e with e _; injection e with e
        rw [show k2 = k by omega]; exact h⟩
    show qSeq _ _ E [.own true d, .val (.int (k : Nat)), .un]
    have s2 : small 1 := small_of (by decide)
    have s3 : small 2 := small_of (by decide)
    have s4 : small 3 := small_of (by decide)
    walk_at "px"
    refine draw_i rfl hd (by decide) (by decide) fun q d1 hd1 q0 q1 => ?_
    walk_at "px"
    have K0 : ValOk (k + 1) (PV.tup [PV.str (Str.ofString "K0")]) := ⟨by decide, by rw [dep, deps, deps, dep]; omega⟩
    refine br_i (fun _ => ⟨s2, rt hd1 K0⟩) fun kz => br_i (fun _ => ⟨s2, rt hd1 K0⟩) fun _ => ?_
    have hk0 : k ≠ 0 := by rintro rfl; simp at kz
    have ek : ((k : Nat) : Int) - 1 = ((k - 1 : Nat) : Int) := by omega
    have V1 : ∀ (c : Str) (v : PV), AR c = some 1 → ValOk (k - 1 + 1) v → ValOk (k + 1) (.tup [.str c, v]) := fun c v hc hv => ⟨okV_mk hc (by rw [okVs, okVs, hv.ok]; rfl), by have := hv.dep; rw [dep, deps, deps, deps, dep]; omega⟩
    refine br_i (fun _ => ⟨s3, draw_i rfl hd1 (by decide) (by decide) fun r d2 hd2 r0 r1 => ?_⟩) fun _ => ?_
    · have hr : ∃ c : Str, atI [PV.str (Str.ofString "K1"), PV.str (Str.ofString "K3")] r = some (.str c) ∧ AR c = some 1 := by
        rcases (show r = 0 ∨ r = 1 by omega) with rfl | rfl
        · exact ⟨_, rfl, by decide⟩
        · exact ⟨_, rfl, by decide⟩
      obtain ⟨c, hr, hc⟩ := hr
      walk_at "px"
      rw [hr]
      walk_at "px"
      rw [ek]
      refine val_i rfl hd2 (by omega) (by omega) fun v d3 hd3 hv => ?_
      walk_at "px"
      exact ⟨s3, rt hd3 (V1 c v hc hv)⟩
    · rw [ek]
      refine val_i rfl hd1 (by omega) (by omega) fun v d3 hd3 hv => ?_
      walk_at "px"
      rw [ek]
      refine val_i rfl hd3 (by omega) (by omega) fun v2 d4 hd4 hv2 => ?_
      walk_at "px"
      refine ⟨s4, rt hd4 ⟨okV_mk (show AR (Str.ofString "K2") = some 2 by decide) (by rw [okVs, okVs, okVs, hv.ok, hv2.ok]; rfl), ?_⟩⟩
      have := hv.dep
      have := hv2.dep
      rw [dep, deps, deps, deps, deps, dep]; omega
theorem ok_like (T : Txt K mg) : ∀ n : Nat, Has P w K mg base "_law_like" (n + 12) ["state", "pattern"] (S_like n)
  | 0 => by
    refine (Px.has_none T.d__law_like (fun F => F.binds (ps := ["state", "pattern"]) fun _ _ _ _ _ _ us hl => match us, hl with | [_, _], _ => rfl) fun pvs h => ?_ : Has P w K mg base "_law_like" 0 _ _).mono (by omega)
    obtain ⟨_, _, _, _, _, h, _⟩ := h
    omega
  | n + 1 => by
    refine dv__law_like T ((ok_draw T).mono (by omega)) ((ok_val T 4).mono (by omega)) (ok_like T n) (S_like (n + 1)) rfl fun pvs lp pre => ?_
    obtain ⟨d, p, rfl, hd, hp, hk, hn, hz⟩ := pre
    unfold rd__law_like
    generalize hE : endsOf (S_like (n + 1)) _ = E
    have rt : ∀ {r d' : PV} {a b : Sl}, NsOk d' → ValOk (dep p + 4) r → E.rt (.pv r) [.own true d', a, b] := fun {r d' a b} hd' h => by
      rw [← hE]
      exact ⟨d', rfl, hd', fun d2 k2 e => by
        injection e with _ e; injection e with e _
        rw [← e]; exact h⟩
    show qSeq _ _ E [.own true d, .val p, .un]
    have tn : tyN p ≠ "" := good_ty (tsh_good _ (okT_tsh AR p hp))
    rcases okT_cases hp with ⟨s, rfl⟩ | ⟨v, ps, rfl, ar1, okp⟩
    · walk_at "px"
      refine val_i (m := 3) rfl hd (by omega) (by omega) fun v d3 hd3 hv => rt hd3 ⟨hv.ok, by have := hv.dep; omega⟩
    · walk_at "px"
      refine draw_i rfl hd (by decide) (by decide) fun q d1 hd1 q0 q1 => ?_
      walk_at "px"
      refine br_i (fun _ => ?_) fun _ => ?_
      · refine val_i (m := 3) rfl hd1 (by omega) (by omega) fun v d3 hd3 hv => rt hd3 ⟨hv.ok, by have := hv.dep; omega⟩
      · have hpz := len_pszs ps
        have hl : ps.length ≤ 299 := by rw [psz, pszs, psz] at hz; omega
        have hdp : dep (.tup (.str v :: ps)) = deps ps + 1 := by rw [dep, deps, dep]; omega
        refine ⟨small_of (by decide), lcR_i (lc_ind (fun qs acc ρ => ∃ (dn : List PV) (d : PV), ps = dn ++ qs ∧ acc.length = dn.length ∧ (∀ x ∈ acc, ValOk (deps ps + 4) x) ∧ NsOk d ∧ ρ = [.own true d, .val (.tup (.str v :: ps)), .un]) ?_ ?_ _ _ _ ⟨[], d1, rfl, rfl, fun x h => (by cases h), hd1, rfl⟩)⟩
        · rintro acc ρ ⟨dn, d, e, la, ha, hd, rfl⟩
          rw [List.append_nil] at e
          subst e
          walk_at "px"
          refine ⟨small_of (by omega), rt hd ⟨okV_mk (by rw [la]; exact ar1) ((okVs_iff AR acc).mpr fun x hx => (ha x hx).ok), ?_⟩⟩
          have : deps acc ≤ deps ps + 4 := (deps_le acc).mpr fun x hx => (ha x hx).dep
          have : dep (.tup (.str v :: acc)) = deps acc + 1 := by rw [dep, deps, dep]; omega
          omega
        · rintro x qs acc ρ ⟨dn, d, e, la, ha, hd, rfl⟩ N ih
          have hx : x ∈ ps := by rw [e]; simp
          have hxd := dep_mem x hx
          have hxz := psz_mem x hx
          have hle := congrArg List.length e
          rw [List.length_append, List.length_cons] at hle
          rw [psz, pszs, psz] at hz
          walk_at "px"
          refine like_i rfl hd ((okTs_iff AR ps).mp okp x hx) (by omega) (by omega) (by omega) fun v2 d2 hd2 hv2 => ?_
          walk_at "px"
          refine ⟨small_of (by omega), ih _ _ ⟨dn ++ [x], d2, by rw [e]; simp, by rw [List.length_append, List.length_append, la]; rfl, fun y hy => ?_, hd2, rfl⟩⟩
          rcases List.mem_append.mp hy with hy | hy
          · exact ha y hy
          · rw [List.mem_singleton] at hy; rw [hy]; exact ⟨hv2.ok, by have := hv2.dep; omega⟩
theorem ok_gb (T : Txt K mg) : ∀ n : Nat, Has P w K mg base "_law_graph_body" (n + 3) ["state", "places", "words", "names", "deep"] (S_gb n)
  | 0 => by
    refine (Px.has_none T.d__law_graph_body (fun F => F.binds (ps := ["state", "places", "words", "names", "deep"]) fun _ _ _ _ _ _ us hl => match us, hl with | [_, _, _, _, _], _ => rfl) fun pvs h => ?_ : Has P w K mg base "_law_graph_body" 0 _ _).mono (by omega)
    obtain ⟨_, _, _, _, _, _, _, _, _, _, _, h, _⟩ := h
    omega
  | n + 1 => by
    refine dv__law_graph_body T ((ok_draw T).mono (by omega)) ((ok_pick T).mono (by omega)) (ok_gb T n) (S_gb (n + 1)) rfl fun pvs lp pre => ?_
    obtain ⟨d, pl, ws, ns, k, rfl, hd, hpl, hw0, hwl, hnl, hk, hn⟩ := pre
    unfold rd__law_graph_body
    generalize hE : endsOf (S_gb (n + 1)) _ = E
    have rt : ∀ {r d' : PV} {a b c e f g h i : Sl}, NsOk d' → BdOk k r → E.rt (.pv r) [.own true d', a, b, c, e, f, g, h, i] := fun {r d' a b c e f g h i} hd' hb => by
      rw [← hE]
      exact ⟨d', rfl, hd', fun d2 pl2 ws2 ns2 k2 e => by
        simp only [List.cons.injEq, PV.int.injEq] at e
        rw [show k2 = k by omega]; exact hb⟩
    have rtf : ∀ {r d' : PV} {a b c e f g h i : Sl}, NsOk d' → BdOk k r → E.rt (.fr r) [.own true d', a, b, c, e, f, g, h, i] := fun {r d' a b c e f g h i} hd' hb => by
      rw [← hE]
      exact ⟨d', rfl, hd', fun d2 pl2 ws2 ns2 k2 e => by
        simp only [List.cons.injEq, PV.int.injEq] at e
        rw [show k2 = k by omega]; exact hb⟩
    have two : 1 ≤ 2 ^ k := Nat.one_le_two_pow
    have B0 : ∀ s, BdOk k (.str s) := fun s => ⟨rfl, by rw [psz]; omega, by rw [dep]; omega⟩
    have BK : BdOk k (PV.tup [PV.str (Str.ofString "K0")]) := ⟨by decide, by rw [psz, pszs, pszs, psz]; omega, by rw [dep, deps, deps, dep]; omega⟩
    have s2 : small 1 := small_of (by decide)
    have s3 : small 2 := small_of (by decide)
    have s4 : small 3 := small_of (by decide)
    show qSeq _ _ E [.own true d, .val (encD pl), .val (.lst (ws.map PV.str)), .val (.lst (ns.map PV.str)), .val (.int (k : Nat)), .un, .un, .un, .un]
    walk_at "px"
    refine draw_i rfl hd (by decide) (by decide) fun q d1 hd1 q0 q1 => ?_
    walk_at "px"
    have hf : ∀ {d' : PV} {a : Sl} {N : En → Prop} {E2 : PEnds}, NsOk d' → 0 < ns.length → E2.rt = E.rt → callR S_pick [.sl 0, .pv (.lst (ns.map PV.str))] [.own true d', .val (encD pl), .val (.lst (ws.map PV.str)), .val (.lst (ns.map PV.str)), .val (.int (k : Nat)), a, .un, .un, .un] (fun r ρ1 => retG r ρ1 E2.rt) .mk := fun {d' a N E2} hd' h e => by
      refine pick_i rfl hd' trivial (fun z => ?_) (by show (ns.map PV.str).length < _; rw [List.length_map]; omega) fun r d2 hd2 hr => ?_
      · have z2 : (ns.map PV.str).length = 0 := by rw [show ns.map PV.str = [] from z]; rfl
        rw [List.length_map] at z2; omega
      · obtain ⟨s, _, rfl⟩ := List.mem_map.mp hr
        rw [e]
        exact rt hd2 (B0 s)
    have stop : ∀ {d' : PV} {a : Sl}, NsOk d' → E.rt (.fr (PV.tup [PV.str (Str.ofString "K0")])) [.own true d', .val (encD pl), .val (.lst (ws.map PV.str)), .val (.lst (ns.map PV.str)), .val (.int (k : Nat)), a, .un, .un, .un] := fun {d' a} hd' => rtf hd' BK
    refine br_i (fun _ => br_i (fun h => hf (N := fun _ => True) hd1 (by simpa using h) rfl) fun _ => ?_) fun kz => br_i (fun _ => br_i (fun h => hf (N := fun _ => True) hd1 (by simpa using h) rfl) fun _ => ?_) fun _ => ?_
    · exact ⟨s2, rt hd1 BK⟩
    · exact ⟨s2, rt hd1 BK⟩
    have hk0 : k ≠ 0 := by rintro rfl; simp at kz
    have ek : ((k : Nat) : Int) - 1 = ((k - 1 : Nat) : Int) := by omega
    have pw : 2 ^ k = 2 * 2 ^ (k - 1) := by
      obtain ⟨m, rfl⟩ : ∃ m, k = m + 1 := ⟨k - 1, by omega⟩
      rw [Nat.pow_succ, Nat.add_sub_cancel]; omega
    refine br_i (fun _ => ⟨s3, draw_i rfl hd1 (by decide) (by decide) fun r d2 hd2 r0 r1 => ?_⟩) fun _ => ?_
    · have hr : ∃ c : Str, atI [PV.str (Str.ofString "K1"), PV.str (Str.ofString "K3")] r = some (.str c) := by
        rcases (show r = 0 ∨ r = 1 by omega) with rfl | rfl
        · exact ⟨_, rfl⟩
        · exact ⟨_, rfl⟩
      obtain ⟨c, hr⟩ := hr
      walk_at "px"
      rw [hr]
      walk_at "px"
      rw [ek]
      refine gb_i rfl hd2 hpl hw0 hwl hnl (by omega) (by omega) fun v d3 hd3 hv => ?_
      walk_at "px"
      refine ⟨s3, rt hd3 ⟨by rw [tsh, tshs, tshs, hv.sh]; rfl, ?_, ?_⟩⟩
      · have := hv.sz
        rw [psz, pszs, pszs, pszs, psz]; omega
      · have := hv.dep
        rw [dep, deps, deps, deps, dep]; omega
    · refine pick_i rfl hd1 trivial (fun z => hw0 (List.map_eq_nil_iff.mp z)) (by show (ws.map PV.str).length < _; rw [List.length_map]; omega) fun r d2 hd2 hr => ?_
      obtain ⟨wd, hwd, rfl⟩ := List.mem_map.mp hr
      obtain ⟨a, b, hlk, a1, a2⟩ := hpl wd hwd
      have ee : encD pl = .dic (dKs pl) (dPs pl) := rfl
      rw [ee]
      walk_at "px"
      refine ⟨small_of (by decide), ?_⟩
      rw [getD_enc, hlk]
      walk_at "px"
      refine ⟨by unfold rngOk; omega, ?_⟩
      rw [Int.toNat_natCast]
      have lr : (rng 0 a).length = a := by unfold rng; rw [List.length_map, List.length_range]
      refine for_ind (fun qs ρ => ∃ (acc : List PV) (d : PV) (o8 : Option PV), acc.length + qs.length = a ∧ (∀ x ∈ acc, BdOk (k - 1) x) ∧ (∀ x ∈ qs, ∃ i : Int, x = .int i) ∧ NsOk d ∧ ρ = [.own true d, .val (encD pl), .val (.lst (ws.map PV.str)), .val (.lst (ns.map PV.str)), .val (.int (k : Nat)), .val (.int q), .val (.str wd), .own false (.lst acc), plS o8]) ?_ ?_ _ _ ⟨[], d2, none, by rw [lr]; simp, fun x h => (by cases h), fun x hx => ?_, hd2, rfl⟩
      · rintro ρ ⟨acc, d, o8, hl, ha, _, hd, rfl⟩
        rw [List.length_nil] at hl
        walk_at "px"
        have h1 : pszs acc ≤ 2 * (4 * 2 ^ (k - 1) - 2) := by
          have := pszs_le (n := 4 * 2 ^ (k - 1) - 2) acc fun x hx => by have := (ha x hx).sz; omega
          have h2 : acc.length * (4 * 2 ^ (k - 1) - 2) ≤ 2 * (4 * 2 ^ (k - 1) - 2) := Nat.mul_le_mul_right _ (by omega)
          omega
        have h2 : deps acc ≤ k := (deps_le acc).mpr fun x hx => by have := (ha x hx).dep; omega
        have two1 : 1 ≤ 2 ^ (k - 1) := Nat.one_le_two_pow
        refine ⟨s2, small_of (by omega), rt hd ⟨by rw [tsh, tshs_all acc fun x hx => (ha x hx).sh]; rfl, ?_, ?_⟩⟩
        · rw [psz, pszs, psz]; omega
        · rw [dep, deps, dep]; omega
      · rintro p ps ρ ⟨acc, d, o8, hl, ha, hi, hd, rfl⟩ N ih
        rw [List.length_cons] at hl
        obtain ⟨i, rfl⟩ := hi p (by simp)
        rw [ee]
        walk_at "px"
        rw [getD_enc, hlk]
        walk_at "px"
        have nxt : ∀ (d' x : PV), NsOk d' → BdOk (k - 1) x → small (acc.length + 1) ∧ N [.own true d', .val (encD pl), .val (.lst (ws.map PV.str)), .val (.lst (ns.map PV.str)), .val (.int (k : Nat)), .val (.int q), .val (.str wd), .own false (.lst (acc ++ [x])), .val (.int i)] := fun d' x hd' hx => ⟨small_of (by omega), ih _ ⟨acc ++ [x], d', some (.int i), by rw [List.length_append, List.length_singleton]; omega, fun y hy => by
          rcases List.mem_append.mp hy with hy | hy
          · exact ha y hy
          · rw [List.mem_singleton] at hy; rw [hy]; exact hx, fun y hy => hi y (by simp [hy]), hd', rfl⟩⟩
        have two1 : 1 ≤ 2 ^ (k - 1) := Nat.one_le_two_pow
        have B1 : ∀ s, BdOk (k - 1) (.str s) := fun s => ⟨rfl, by rw [psz]; omega, by rw [dep]; omega⟩
        rw [← ee]
        refine br_i (fun _ => br_i (fun h => ?_) fun _ => ?_) fun _ => ?_
        · have hns : 0 < ns.length := by simpa using h
          refine draw_i rfl hd (by decide) (by decide) fun m d3 hd3 m0 m1 => ?_
          walk_at "px"
          refine br_i (fun _ => ?_) fun _ => ?_
          · refine pick_i rfl hd3 trivial (fun z => ?_) (by show (ns.map PV.str).length < _; rw [List.length_map]; omega) fun r d4 hd4 hr => ?_
            · have z2 : (ns.map PV.str).length = 0 := by rw [show ns.map PV.str = [] from z]; rfl
              rw [List.length_map] at z2; omega
            · obtain ⟨s, _, rfl⟩ := List.mem_map.mp hr
              walk_at "px"
              exact nxt d4 _ hd4 (B1 s)
          · rw [ek]
            refine gb_i rfl hd3 hpl hw0 hwl hnl (by omega) (by omega) fun v d4 hd4 hv => ?_
            walk_at "px"
            exact nxt d4 _ hd4 hv
        · rw [ek]
          refine gb_i rfl hd hpl hw0 hwl hnl (by omega) (by omega) fun v d4 hd4 hv => ?_
          walk_at "px"
          exact nxt d4 _ hd4 hv
        · rw [ek]
          refine gb_i rfl hd hpl hw0 hwl hnl (by omega) (by omega) fun v d4 hd4 hv => ?_
          walk_at "px"
          exact nxt d4 _ hd4 hv
      · unfold rng at hx
        obtain ⟨i, _, rfl⟩ := List.mem_map.mp hx
        exact ⟨_, rfl⟩
end

end Lw
set_option maxHeartbeats 4000000
namespace Lw
open PySem L2 PyProof.Rows Px
def FA : PV := .tup [.str (Str.ofString "Fa"), .str (Str.ofString "a")]
structure ClX (a : Nat) (c : Cl) : Prop where
  len : c.pats.length = a
  pat : ∀ p ∈ c.pats, PatOk p
  bd : BdOk 3 c.body
structure FnX (f : Fn) : Prop where
  ps : ∃ a, 1 ≤ a ∧ a ≤ 2 ∧ f.ps = List.replicate a FA ∧ ∀ c ∈ f.cl, ClX a c
  fam : f.fam = .str (Str.ofString "Fa")
  ix : f.ix = .str (Str.ofString "a")
  len : f.cl.length ≤ 2
structure PgX (fns : List Fn) : Prop where
  fn : ∀ f ∈ fns, FnX f
  nd : (wds fns).Nodup
  len : fns.length ≤ 4
  oth : Str.ofString "other" ∉ wds fns
def S_prog : FS := { io := [true], pre := fun pvs => ∃ d, pvs = [d] ∧ NsOk d, post := fun pvs r outs => ∃ d', outs = [d'] ∧ NsOk d' ∧ ∃ fns, r = encPg fns ∧ PgX fns }
theorem S_prog_fr : S_prog.fr = false := rfl
theorem S_prog_io : S_prog.io = [true] := rfl
local macro_rules | `(tactic| walk_at "px") => `(tactic| simp -dsimp only [qVar, qK, qNil, qCons, qTup, qLst, vals, looks, R.look, R.wk, qCB, qB, qOp2, qTru, truG, qAnd, qOr, qNot, qAndV, qOrV, qNotV, qIfE, qNo, qPart, qSl, gSl, qIt, qRng1, qRng2, qgN, qgNil, qgCons, qgT, notIo_zero, notIo_succ, notIo_nil', slOk_un, slOk_val, slOk_own, slOk_pl, slOk_pd, notIos_nil, notIos_cons, qYes, qLc, qNext, qSeq, qBreak, qCont, qFrz, frz, qDrop, retG, qRet, qRetN, qIf, qSet, qOwn, qAsg, qFor, qMut, ownTy, gAppend, gExtend, gPop, isOwn, qSetIx, qCall, splitArgs, putOuts, setOwn, finOk, endsOf, mk, outsOf, uns,
  gAdd, gInt, gInt0, gEq, gNe, gIn, gNotIn, gIs, gIsNot, Px.isNon, gIx, getP, gLen, gAbs, gIntC, gSum, gMax, gMax2, gMax3, gMinT, gAll, gAny, gList, gTuple, gIsi, qNeg, qDict0, wipeE, lcGo_nil, br_t, br_f, atI_0, atI_1, atI_2, atI_3, ixN_0, ixN_1, ixN_2, ixN_3, List.length_map, List.length_set, cut_from1, isTy, tyN, gIsiT, asTys, gListD, keyP, isDic, qGet1, qGet2, qLZ, gZip, qPairs, mergeP, qDisp, gDictC, gStr, qChain, qPar, qAug, qMeth, tyIs, gIndex, qLcK, qDc, qDcK, dicAt, qForK, qZipI, qCallB, qCallF, splitB, qTake, tkEnds, tkRt, tkBack, Px.isN, isNst, gIxN, gPop0, gInsert, qSetSeed, qStep, qPar3, qLcO, lcoK, stEnds, stGo, immS, Px.imm, endsLaw, Option.isSome_some, Option.isSome_none, isEmp_concat, List.getLast?_concat, List.dropLast_concat, List.isEmpty_nil, gEqX, gNeX, qEnumI, enumP, gSortSet, gLenSet, qSortSc, asStrs, List.any_cons, List.any_nil, tyOk_str, tyOk_tuple, tyOk_int, tyOk_bool, tyOk_list, tyOk_dict, Option.map_some, Option.map_none,
  eqOk_str, eqOk_int, eqOk_bl, eqOk_non, eqOkW_str, eqOkW_int, eqOkW_bl, eqOkW_non, gEqW, gNeW, qVals, ownDic, qLc2, gLtX, gGtX, gSortX, peq_str, peq_int, peq_bl, List.getElem?_cons_zero, List.getElem?_cons_succ, List.getElem?_nil, List.set_cons_zero, List.set_cons_succ, List.zipWith_cons_cons, List.zipWith_nil_left, List.replicate_succ, List.replicate_zero, List.cons_append, List.nil_append, List.length_cons, List.length_nil, List.map_cons, List.map_nil, ↓reduceIte, Bool.false_eq_true, and_true, true_and, Bool.not_true, Bool.not_false, Nat.reduceAdd, Nat.reduceLT, Nat.reduceLeDiff, Nat.zero_lt_succ, Nat.lt_add_one, ne_eq, not_true_eq_false, not_false_eq_true, String.reduceEq, String.reduceBEq, Bool.or_false, Bool.false_or, Bool.or_true, Bool.true_or, Bool.and_false, Bool.and_true, Bool.false_and, Bool.true_and, reduceCtorEq, S_prog_fr, S_prog_io])
theorem prog_i {ρ : En} {j : Nat} {b : Bool} {d : PV} {Q : PK1} {dm : Dum Q} (h : ρ[j]? = some (Sl.own b d)) (hd : NsOk d) (k : ∀ fns d', NsOk d' → PgX fns → Q (.pv (encPg fns)) (setOwn ρ j d')) : callR S_prog [.sl j] ρ Q dm := by
  refine call_1 (j := j) (ps := [d]) (by simp [S_prog, splitArgs, h]) rfl ⟨d, rfl, hd⟩ fun r d' hp => ?_
  obtain ⟨d2, e, hd', fns, rfl, hf⟩ := hp
  cases e
  exact k fns d' hd' hf
theorem gbB_i {n : Nat} {ρ : En} {j i : Nat} {b : Bool} {d : PV} {pl : As} {ws ns : List Str} {m : Nat} {Q : PK1} {dm : Dum Q} (h : ρ[j]? = some (Sl.own b d)) (g : ρ[i]? = some (Sl.own false (encD pl))) (ne : i ≠ j) (hd : NsOk d) (h1 : PlOk pl ws) (h2 : ws ≠ []) (h3 : ws.length ≤ 10) (h4 : ns.length ≤ 100) (hm : m < n) (hn : n ≤ 10) (k : ∀ r d', NsOk d' → BdOk m r → Q (.pv r) (setOwn ρ j d')) : callRB (S_gb n) [.sl j, .sl i, .pv (.lst (ws.map PV.str)), .pv (.lst (ns.map PV.str)), .pv (.int (m : Nat))] ρ Q dm := by
  have e : splitB ρ (S_gb n).io [.sl j, .sl i, .pv (.lst (ws.map PV.str)), .pv (.lst (ns.map PV.str)), .pv (.int (m : Nat))] = some ([d, encD pl, .lst (ws.map PV.str), .lst (ns.map PV.str), .int (m : Nat)], [j], [i]) := by simp [S_gb, splitB, h, g]
  unfold callRB
  rw [e]
  refine ⟨⟨by simp, fun x hx => ?_, rfl⟩, ⟨d, pl, ws, ns, m, rfl, hd, h1, h2, h3, h4, hm, hn⟩, fun r outs hp l => ?_⟩
  · have := List.mem_singleton.mp hx
    subst this
    simp; exact ne
  · obtain ⟨d2, rfl, hd', hm⟩ := hp
    have hr := hm _ _ _ _ _ rfl
    refine ⟨⟨tsh_imm r hr.sh, fun q hq => ?_⟩, k r d2 hd' hr⟩
    rw [List.mem_singleton.mp hq]
    obtain ⟨c, s, rfl⟩ := hd'
    rfl
/-- a comprehension that draws -/
theorem lc_st {α : Type} {g : QTG} {tt : QTT} {te : QT} {vs : List Nat} {Q : List PV → En → Prop} (enc : α → PV) (C : PV → Prop) (env : PV → En) (xs : List α) (d0 : PV) (hd0 : NsOk d0) (hl : xs.length ≤ 999999) (hq : ∀ acc d, acc.length = xs.length → (∀ p ∈ acc, C p) → NsOk d → Q acc (env d))
    (hc : ∀ x ∈ xs, ∀ (acc : List PV) (d : PV) (N : List PV → En → Prop), NsOk d → small (acc.length + 1) → (∀ q d', C q → NsOk d' → N (acc ++ [q]) (env d')) → g (enc x) (env d) fun ρ1 => tt ρ1 fun b ρ2 => Br b (te ρ2 fun r ρ3 => match r.wk with
      | .pv q => small (acc.length + 1) ∧ notIos ρ3 vs ∧ N (acc ++ [q]) (wipeE ρ3 vs)
      | _ => False) (notIos ρ2 vs ∧ N acc (wipeE ρ2 vs))) : lcGo g tt te vs Q (xs.map enc) [] (env d0) := by
  refine lc_ind (fun qs acc ρ => ∃ (done left : List α) (d : PV), xs = done ++ left ∧ qs = left.map enc ∧ acc.length = done.length ∧ (∀ p ∈ acc, C p) ∧ NsOk d ∧ ρ = env d) ?_ ?_ _ _ _ ⟨[], xs, d0, rfl, rfl, rfl, fun p h => (by cases h), hd0, rfl⟩
  · rintro acc ρ ⟨done, left, d, e, eq, la, ha, hd, rfl⟩
    cases left with
    | nil => rw [List.append_nil] at e; subst e; exact hq acc d la ha hd
    | cons _ _ => simp at eq
  · rintro q qs acc ρ ⟨done, left, d, e, eq, la, ha, hd, rfl⟩ N ih
    cases left with
    | nil => simp at eq
    | cons x left =>
      simp only [List.map_cons, List.cons.injEq] at eq
      obtain ⟨rfl, rfl⟩ := eq
      have := congrArg List.length e
      simp only [List.length_append, List.length_cons] at this
      refine hc x (by rw [e]; simp) acc d N hd (small_of (by omega)) fun q d' hq' hd' => ih _ _ ⟨done ++ [x], left, d', by rw [e]; simp, rfl, by rw [List.length_append, List.length_append, la]; rfl, fun p hp => ?_, hd', rfl⟩
      rcases List.mem_append.mp hp with hp | hp
      · exact ha p hp
      · rw [List.mem_singleton] at hp; rw [hp]; exact hq'
theorem bd_mono {a b : Nat} (h : a ≤ b) {p : PV} (g : BdOk a p) : BdOk b p := ⟨g.sh, by
  have := g.sz
  have : 2 ^ a ≤ 2 ^ b := Nat.pow_le_pow_right (by omega) h
  omega, by have := g.dep; omega⟩
theorem cut_to {α : Type} (xs : List α) (k : Nat) : cutP xs none (some (k : Int)) = xs.take k := by
  unfold cutP
  have e1 : HT.sIx xs.length xs.length (some (k : Int)) = min k xs.length := by rw [HT.sIx_nat]
  have e2 : HT.sIx xs.length 0 none = 0 := rfl
  rw [e1, e2]
  simp only [List.drop_zero, Nat.sub_zero]
  by_cases h : k ≤ xs.length
  · rw [Nat.min_eq_left h]
  · rw [Nat.min_eq_right (by omega), List.take_length, List.take_of_length_le (by omega)]
theorem words_at {r : Int} (r0 : 0 ≤ r) (r1 : r < 4) : ∃ WS : List Str, atI [PV.lst [PV.str (Str.ofString "f0"), PV.str (Str.ofString "f1"), PV.str (Str.ofString "f2"), PV.str (Str.ofString "f3")], PV.lst [PV.str (Str.ofString "b9"), PV.str (Str.ofString "a"), PV.str (Str.ofString "Zz"), PV.str (Str.ofString "f")], PV.lst [PV.str (Str.ofString "d"), PV.str (Str.ofString "c"), PV.str (Str.ofString "b"), PV.str (Str.ofString "a")], PV.lst [PV.str (Str.ofString "f9"), PV.str (Str.ofString "f10"), PV.str (Str.ofString "f2"), PV.str (Str.ofString "f1")]] r = some (.lst (WS.map PV.str)) ∧ WS.length = 4 ∧ WS.Nodup ∧ Str.ofString "other" ∉ WS := by
  rcases (show r = 0 ∨ r = 1 ∨ r = 2 ∨ r = 3 by omega) with rfl | rfl | rfl | rfl
  · exact ⟨[Str.ofString "f0", Str.ofString "f1", Str.ofString "f2", Str.ofString "f3"], rfl, rfl, by decide, by decide⟩
  · exact ⟨[Str.ofString "b9", Str.ofString "a", Str.ofString "Zz", Str.ofString "f"], rfl, rfl, by decide, by decide⟩
  · exact ⟨[Str.ofString "d", Str.ofString "c", Str.ofString "b", Str.ofString "a"], rfl, rfl, by decide, by decide⟩
  · exact ⟨[Str.ofString "f9", Str.ofString "f10", Str.ofString "f2", Str.ofString "f1"], rfl, rfl, by decide, by decide⟩
theorem ps_len (fns : List Fn) : fns.length = (wds fns).length := by unfold wds; rw [List.length_map]
theorem range_split {n k : Nat} {dn lf : List Nat} (e : List.range n = dn ++ k :: lf) : dn.length = k ∧ k < n := by
  have gx : (List.range n)[dn.length]? = some k := by rw [e, List.getElem?_append_right (Nat.le_refl _)]; simp
  obtain ⟨h1, h2⟩ := List.getElem?_eq_some_iff.mp gx
  rw [List.getElem_range] at h2
  rw [List.length_range] at h1
  omega
theorem take_at {WS : List Str} {k : Nat} {s : Str} (h : WS[k]? = some s) : WS.take (k + 1) = WS.take k ++ [s] := by
  rw [List.take_add_one, h]; rfl
section
variable {P : Program} {w : World} {K : PySem.W.Frag} {mg : Str → Option Value} {base : Heap}
theorem ok_prog (T : Txt K mg) : Has P w K mg base "_law_graph_program" 20 ["state"] S_prog := by
  refine dv__law_graph_program T ((ok_draw T).mono (by omega)) ((ok_gp T).mono (by omega)) ((ok_nml T 4).mono (by omega)) ((ok_gb T 4).mono (by omega)) S_prog rfl fun pvs lp pre => ?_
  obtain ⟨d, rfl, hd⟩ := pre
  unfold rd__law_graph_program
  generalize hE : endsOf S_prog _ = E
  have rt : ∀ {fns : List Fn} {d' : PV} {ρ : En}, NsOk d' → PgX fns → E.rt (.pv (encPg fns)) (.own true d' :: ρ) := fun {fns d' ρ} hd' hf => by
    rw [← hE]; exact ⟨d', rfl, hd', fns, rfl, hf⟩
  show qSeq _ _ E [.own true d, .un, .un, .un, .un, .un, .un, .un, .un, .un, .un, .un, .un, .un, .un, .un]
  walk_at "px"
  refine draw_i rfl hd (by decide) (by decide) fun q d1 hd1 q0 q1 => ?_
  obtain ⟨t, et, t1, t4⟩ : ∃ t : Nat, 1 + q = (t : Int) ∧ 1 ≤ t ∧ t ≤ 4 := ⟨(1 + q).toNat, by omega, by omega, by omega⟩
  walk_at "px"
  rw [et]
  have s4 : small 4 := small_of (by decide)
  refine ⟨s4, s4, s4, s4, s4, draw_i rfl hd1 (by decide) (by decide) fun r d2 hd2 r0 r1 => ?_⟩
  walk_at "px"
  obtain ⟨WS, hW, wl, wn, wo⟩ := words_at r0 r1
  rw [hW]
  walk_at "px"
  have er : rng 0 ((t : Nat) : Int).toNat = (List.range t).map fun k => PV.int (0 + (k : Nat)) := by rw [Int.toNat_natCast]; rfl
  rw [er]
  have wat : ∀ k, k < t → ∃ s, WS[k]? = some s ∧ atI (WS.map PV.str) (0 + ((k : Nat) : Int)) = some (.str s) := fun k hk => ⟨WS[k], List.getElem?_eq_getElem _, at0 (by rw [List.getElem?_map, List.getElem?_eq_getElem (by omega)]; rfl)⟩
  refine ⟨by unfold rngOk; omega, for_mapT (fun k : Nat => PV.int (0 + (k : Nat))) (fun dn ρ => ∃ (pl : As) (d : PV) (o4 o5 : Option PV), PlOk pl (WS.take dn.length) ∧ pl.length ≤ dn.length ∧ NsOk d ∧ ρ = [.own true d, .val (.int (t : Nat)), .val (.lst (WS.map PV.str)), .own false (encD pl), plS o4, plS o5, .un, .un, .un, .un, .un, .un, .un, .un, .un, .un]) (List.range t) _ ⟨[], d2, none, none, fun s h => (by cases h), by simp, hd2, rfl⟩ ?_ ?_⟩
  rotate_left
  · rintro dn k lf ρ e ⟨pl, d, o4, o5, hpl, hl, hd, rfl⟩ N ih
    obtain ⟨hk, hkt⟩ := range_split e
    obtain ⟨s, hs, ha⟩ := wat k hkt
    walk_at "px"
    refine draw_i rfl hd (by decide) (by decide) fun q d3 hd3 q0 q1 => ?_
    obtain ⟨a, ea, a1, a2⟩ : ∃ a : Nat, 1 + q = (a : Int) ∧ 1 ≤ a ∧ a ≤ 2 := ⟨(1 + q).toNat, by omega, by omega, by omega⟩
    walk_at "px"
    rw [ea]
    refine draw_i rfl hd3 (by omega) (by omega) fun q2 d4 hd4 q20 q21 => ?_
    obtain ⟨b, rfl⟩ : ∃ b : Nat, q2 = (b : Int) := ⟨q2.toNat, by omega⟩
    have ee : encD pl = .dic (dKs pl) (dPs pl) := rfl
    rw [ee]
    walk_at "px"
    rw [ha]
    walk_at "px"
    have lk := dKs_len pl
    refine ⟨small_of (by decide), small_of (by omega), ih _ ⟨putD pl s (.tup [.int (a : Nat), .int (b : Nat)]), d4, some (.int (0 + (k : Nat))), some (.int (a : Nat)), fun x hx => ?_, by have := putD_len pl s (.tup [.int (a : Nat), .int (b : Nat)]); rw [List.length_append, List.length_singleton]; omega, hd4, ?_⟩⟩
    · rw [look_put]
      split
      · exact ⟨a, b, rfl, a1, a2⟩
      · rename_i ne
        rw [List.length_append, List.length_singleton, hk, take_at hs] at hx
        rcases List.mem_append.mp hx with hx | hx
        · rw [← hk] at hx; exact hpl x hx
        · rw [List.mem_singleton] at hx; exact absurd hx.symm ne
    · rw [put_enc]; rfl
  rintro ρ ⟨pl, d3, o4, o5, hpl, hll, hd3, rfl⟩
  rw [List.length_range] at hpl
  walk_at "px"
  rw [er]
  refine ⟨small_of (by decide), by unfold rngOk; omega, for_mapT (fun k : Nat => PV.int (0 + (k : Nat))) (fun dn ρ => ∃ (fns : List Fn) (d : PV) (s8 : Sl) (o4 o5 o7 o9 o10 o11 o12 o13 o14 : Option PV), wds fns = WS.take dn.length ∧ (∀ f ∈ fns, FnX f) ∧ NsOk d ∧ (s8 = .un ∨ ∃ xs, s8 = .own false (.lst xs)) ∧ ρ = [.own true d, .val (.int (t : Nat)), .val (.lst (WS.map PV.str)), .own false (encD pl), plS o4, plS o5, .own false (.lst (fns.map encFn)), plS o7, s8, plS o9, plS o10, plS o11, plS o12, plS o13, plS o14, .un]) (List.range t) _ ⟨[], d3, .un, o4, o5, none, none, none, none, none, none, none, rfl, fun f h => (by cases h), hd3, .inl rfl, rfl⟩ ?_ ?_⟩
  · rintro ρ ⟨fns, d, s8, o4, o5, o7, o9, o10, o11, o12, o13, o14, hw, hf, hd, h8, rfl⟩
    rw [List.length_range] at hw
    have hl : fns.length = t := by rw [ps_len, hw, List.length_take]; omega
    walk_at "px"
    refine ⟨small_of (by decide), ?_⟩
    refine rt hd ⟨hf, by rw [hw]; exact wn.sublist (List.take_sublist _ _), by omega, fun z => wo (by rw [hw] at z; exact List.mem_of_mem_take z)⟩
  · rintro dn k lf ρ e ⟨fns, d, s8, o4, o5, o7, o9, o10, o11, o12, o13, o14, hw, hf, hd, h8, rfl⟩ N ih
    obtain ⟨hk, hkt⟩ := range_split e
    obtain ⟨s, hs, ha⟩ := wat k hkt
    have hsm : s ∈ WS.take t := by
      rw [List.mem_take_iff_getElem]
      obtain ⟨h1, h2⟩ := List.getElem?_eq_some_iff.mp hs
      exact ⟨k, by omega, h2⟩
    obtain ⟨a, b, hlk, a1, a2⟩ := hpl s hsm
    have ee : encD pl = .dic (dKs pl) (dPs pl) := rfl
    have hfl : fns.length ≤ 4 := by rw [ps_len, hw, List.length_take]; omega
    rw [ee]
    rcases h8 with rfl | ⟨xs, rfl⟩
    all_goals
      walk_at "px"
      rw [ha]
      walk_at "px"
      rw [getD_enc, hlk]
      walk_at "px"
      rw [← ee]
      refine ⟨small_of (by decide), draw_i rfl hd (by decide) (by decide) fun m d4 hd4 m0 m1 => ?_⟩
      obtain ⟨mm, rfl⟩ : ∃ mm : Nat, m = (mm : Int) := ⟨m.toNat, by omega⟩
      walk_at "px"
      have er2 : rng 0 ((mm : Nat) : Int).toNat = (List.range mm).map fun k => PV.int (0 + (k : Nat)) := by rw [Int.toNat_natCast]; rfl
      rw [er2]
      refine ⟨by unfold rngOk; omega, for_mapT (fun k : Nat => PV.int (0 + (k : Nat))) (fun dn2 ρ => ∃ (cls : List Cl) (d : PV) (o9 o10 o11 o12 o13 : Option PV), cls.length = dn2.length ∧ (∀ c ∈ cls, ClX a c) ∧ NsOk d ∧ ρ = [.own true d, .val (.int (t : Nat)), .val (.lst (WS.map PV.str)), .own false (encD pl), .val (.int (0 + (k : Nat))), .val (.int (a : Nat)), .own false (.lst (fns.map encFn)), .val (.int (b : Nat)), .own false (.lst (cls.map encCl)), plS o9, plS o10, plS o11, plS o12, plS o13, plS o14, .un]) (List.range mm) _ ⟨[], d4, o9, o10, o11, o12, o13, rfl, fun c h => (by cases h), hd4, rfl⟩ ?_ ?_⟩
      · rintro ρ ⟨cls, d5, o9, o10, o11, o12, o13, hcl, hc, hd5, rfl⟩
        rw [List.length_range] at hcl
        have er3 : rng 0 ((a : Nat) : Int).toNat = (List.range a).map fun k => PV.int (0 + (k : Nat)) := by rw [Int.toNat_natCast]; rfl
        walk_at "px"
        rw [er3]
        refine ⟨by unfold rngOk; omega, lcR_i (lc_mapA (fun k : Nat => PV.int (0 + (k : Nat))) (fun _ => FA) (List.range a) [] _ (by simp only [List.length_nil, List.length_range]; omega) ?_ fun x hx acc N2 sm k2 => ?_)⟩
        · rw [List.nil_append]
          have eR : (List.range a).map (fun _ => FA) = List.replicate a FA := by rw [List.map_const', List.length_range]
          rw [eR]
          walk_at "px"
          rw [ha]
          walk_at "px"
          refine ⟨small_of (by decide), small_of (by omega), ih _ ⟨fns ++ [⟨s, List.replicate a FA, .str (Str.ofString "Fa"), .str (Str.ofString "a"), b, cls⟩], d5, .own false (.lst (cls.map encCl)), some (.int (0 + (k : Nat))), some (.int (a : Nat)), some (.int (b : Nat)), o9, o10, o11, o12, o13, some (.tup (List.replicate a FA)), ?_, fun f hf2 => ?_, hd5, .inr ⟨_, rfl⟩, by rw [List.map_append]; rfl⟩⟩
          · rw [List.length_append, List.length_singleton, hk, take_at hs, ← hk, ← hw]
            unfold wds; rw [List.map_append]; rfl
          · rcases List.mem_append.mp hf2 with hf2 | hf2
            · exact hf f hf2
            · rw [List.mem_singleton] at hf2; subst hf2
              exact ⟨⟨a, a1, a2, rfl, hc⟩, rfl, rfl, by show cls.length ≤ 2; omega⟩
        · walk_at "px"
          exact ⟨small_of (by decide), sm, k2⟩
      · rintro dn2 k2 lf2 ρ e2 ⟨cls, d5, o9, o10, o11, o12, o13, hcl, hc, hd5, rfl⟩ N2 ih2
        obtain ⟨hk2, hk2t⟩ := range_split e2
        have er3 : rng 0 ((a : Nat) : Int).toNat = (List.range a).map fun k => PV.int (0 + (k : Nat)) := by rw [Int.toNat_natCast]; rfl
        walk_at "px"
        rw [er3]
        refine ⟨by unfold rngOk; omega, lcR_i (lc_st (fun k : Nat => PV.int (0 + (k : Nat))) PatOk (fun d => [.own true d, .val (.int (t : Nat)), .val (.lst (WS.map PV.str)), .own false (encD pl), .val (.int (0 + (k : Nat))), .val (.int (a : Nat)), .own false (.lst (fns.map encFn)), .val (.int (b : Nat)), .own false (.lst (cls.map encCl)), .val (.int (0 + (k2 : Nat))), plS o10, plS o11, plS o12, plS o13, plS o14, .un]) (List.range a) d5 hd5 (by rw [List.length_range]; omega) (fun pats d6 hpl6 hpt hd6 => ?_) fun x hx acc d6 N3 hd6 sm3 k3 => ?_)⟩
        · rw [List.length_range] at hpl6
          walk_at "px"
          refine ⟨small_of (by decide), for_mapP (fun dn3 ρ => ∃ (L : List Str) (o12 : Option PV), L.length ≤ 5 * dn3.length ∧ ρ = [.own true d6, .val (.int (t : Nat)), .val (.lst (WS.map PV.str)), .own false (encD pl), .val (.int (0 + (k : Nat))), .val (.int (a : Nat)), .own false (.lst (fns.map encFn)), .val (.int (b : Nat)), .own false (.lst (cls.map encCl)), .val (.int (0 + (k2 : Nat))), .val (.tup pats), .val (.lst (L.map PV.str)), plS o12, plS o13, plS o14, .un]) pats _ ⟨[], o12, by simp, rfl⟩ ?_ ?_⟩
          · rintro ρ ⟨L, o12, hL, rfl⟩
            have e1 : (1 : Int) = ((1 : Nat) : Int) := rfl
            walk_at "px"
            refine ⟨small_of (by decide), draw_i rfl hd6 (by decide) (by decide) fun r7 d7 hd7 r70 r71 => ?_⟩
            have hcc : ∃ c : Nat, atI [PV.int (t : Nat), PV.int (0 + ((k : Nat) : Int) + 1)] r7 = some (.int (c : Nat)) ∧ 1 ≤ c ∧ c ≤ t := by
              rcases (show r7 = 0 ∨ r7 = 1 by omega) with rfl | rfl
              · exact ⟨t, rfl, t1, Nat.le_refl _⟩
              · exact ⟨k + 1, by show some (PV.int _) = _; congr 2; omega, by omega, by omega⟩
            obtain ⟨c, hcc, c1, c2⟩ := hcc
            walk_at "px"
            rw [hcc]
            walk_at "px"
            have ecut : cutP (WS.map PV.str) none (some ((c : Nat) : Int)) = (WS.take c).map PV.str := by rw [cut_to, List.map_take]
            rw [ecut]
            refine draw_i rfl hd7 (by decide) (by decide) fun r8 d8 hd8 r80 r81 => ?_
            obtain ⟨m8, em8, m81, m83⟩ : ∃ m8 : Nat, 1 + r8 = (m8 : Int) ∧ 1 ≤ m8 ∧ m8 ≤ 3 := ⟨(1 + r8).toNat, by omega, by omega, by omega⟩
            walk_at "px"
            rw [em8]
            refine gbB_i rfl rfl (by decide) hd8 (fun s hs => hpl s ?_) (fun z => ?_) (by rw [List.length_take]; omega) (by omega) (by omega) (by omega) fun bd d9 hd9 hbd => ?_
            · exact (List.take_sublist_take_left c2).subset hs
            · have := congrArg List.length z
              rw [List.length_take, List.length_nil] at this
              omega
            walk_at "px"
            refine ⟨small_of (by decide), small_of (by omega), ih2 _ ⟨cls ++ [⟨pats, bd⟩], d9, some (.int (0 + (k2 : Nat))), some (.tup pats), some (.lst (L.map PV.str)), o12, some (.lst ((WS.take c).map PV.str)), by rw [List.length_append, List.length_append, hcl]; rfl, fun c hc2 => ?_, hd9, by rw [List.map_append]; rfl⟩⟩
            rcases List.mem_append.mp hc2 with hc2 | hc2
            · exact hc c hc2
            · rw [List.mem_singleton] at hc2; subst hc2
              exact ⟨hpl6, hpt, bd_mono m83 hbd⟩
          · rintro dn3 p lf3 ρ e3 ⟨L, o12, hL, rfl⟩ N4 ih4
            have hp := hpt p (by rw [e3]; simp)
            have hpz := hp.sz
            have hpd := hp.dep
            have hll3 := congrArg List.length e3
            rw [List.length_append, List.length_cons] at hll3
            have hnl := nmL_len p
            walk_at "px"
            refine nml_i (okT_tsh AR p hp.ok) (by omega) (by omega) ?_
            walk_at "px"
            refine ⟨small_of (by omega), ih4 _ ⟨L ++ nmL p, some p, by rw [List.length_append, List.length_append, List.length_singleton]; omega, by rw [List.map_append]; rfl⟩⟩
        · rw [List.mem_range] at hx
          have hm : ∃ mk, atI [PV.str (Str.ofString "x"), PV.str (Str.ofString "y")] (0 + ((x : Nat) : Int)) = some (.str mk) ∧ isMark mk := by
            rcases (show x = 0 ∨ x = 1 by omega) with rfl | rfl
            · exact ⟨_, rfl, .inl rfl⟩
            · exact ⟨_, rfl, .inr rfl⟩
          obtain ⟨mk, hm, im⟩ := hm
          walk_at "px"
          rw [hm]
          walk_at "px"
          refine ⟨small_of (by decide), gp_i rfl hd6 im fun p d7 hd7 hp => ?_⟩
          walk_at "px"
          exact ⟨sm3, k3 p d7 hp hd7⟩
end

end Lw
set_option maxHeartbeats 4000000
namespace Lw
open PySem L2 PyProof.Rows Px
def S_fnr : FS := { io := [true, false, false], pre := fun pvs => ∃ d fns f, pvs = [d, encPg fns, encFn f] ∧ NsOk d ∧ PgX fns ∧ f ∈ fns, post := fun pvs r outs => ∃ d', outs = [d'] ∧ NsOk d' ∧ r = .bl true }
theorem S_fnr_fr : S_fnr.fr = false := rfl
theorem S_fnr_io : S_fnr.io = [true, false, false] := rfl
local macro_rules | `(tactic| walk_at "px") => `(tactic| simp -dsimp only [qVar, qK, qNil, qCons, qTup, qLst, vals, looks, R.look, R.wk, qCB, qB, qOp2, qTru, truG, qAnd, qOr, qNot, qAndV, qOrV, qNotV, qIfE, qNo, qPart, qSl, gSl, qIt, qRng1, qRng2, qgN, qgNil, qgCons, qgT, notIo_zero, notIo_succ, notIo_nil', slOk_un, slOk_val, slOk_own, slOk_pl, slOk_pd, notIos_nil, notIos_cons, qYes, qLc, qNext, qSeq, qBreak, qCont, qFrz, frz, qDrop, retG, qRet, qRetN, qIf, qSet, qOwn, qAsg, qFor, qMut, ownTy, gAppend, gExtend, gPop, isOwn, qSetIx, qCall, splitArgs, putOuts, setOwn, finOk, endsOf, mk, outsOf, uns,
  gAdd, gInt, gInt0, gEq, gNe, gIn, gNotIn, gIs, gIsNot, Px.isNon, gIx, getP, gLen, gAbs, gIntC, gSum, gMax, gMax2, gMax3, gMinT, gAll, gAny, gList, gTuple, gIsi, qNeg, qDict0, wipeE, lcGo_nil, br_t, br_f, atI_0, atI_1, atI_2, atI_3, ixN_0, ixN_1, ixN_2, ixN_3, List.length_map, List.length_set, cut_from1, isTy, tyN, gIsiT, asTys, gListD, keyP, isDic, qGet1, qGet2, qLZ, gZip, qPairs, mergeP, qDisp, gDictC, gStr, qChain, qPar, qAug, qMeth, tyIs, gIndex, qLcK, qDc, qDcK, dicAt, qForK, qZipI, qCallB, qCallF, splitB, qTake, tkEnds, tkRt, tkBack, Px.isN, isNst, gIxN, gPop0, gInsert, qSetSeed, qStep, qPar3, qLcO, lcoK, stEnds, stGo, immS, Px.imm, endsLaw, Option.isSome_some, Option.isSome_none, isEmp_concat, List.getLast?_concat, List.dropLast_concat, List.isEmpty_nil, gEqX, gNeX, qEnumI, enumP, gSortSet, gLenSet, qSortSc, asStrs, List.any_cons, List.any_nil, tyOk_str, tyOk_tuple, tyOk_int, tyOk_bool, tyOk_list, tyOk_dict, Option.map_some, Option.map_none,
  eqOk_str, eqOk_int, eqOk_bl, eqOk_non, eqOkW_str, eqOkW_int, eqOkW_bl, eqOkW_non, gEqW, gNeW, qVals, ownDic, qLc2, gLtX, gGtX, gSortX, peq_str, peq_int, peq_bl, List.getElem?_cons_zero, List.getElem?_cons_succ, List.getElem?_nil, List.set_cons_zero, List.set_cons_succ, List.zipWith_cons_cons, List.zipWith_nil_left, List.replicate_succ, List.replicate_zero, List.cons_append, List.nil_append, List.length_cons, List.length_nil, List.map_cons, List.map_nil, ↓reduceIte, Bool.false_eq_true, and_true, true_and, Bool.not_true, Bool.not_false, Nat.reduceAdd, Nat.reduceLT, Nat.reduceLeDiff, Nat.zero_lt_succ, Nat.lt_add_one, ne_eq, not_true_eq_false, not_false_eq_true, String.reduceEq, String.reduceBEq, Bool.or_false, Bool.false_or, Bool.or_true, Bool.true_or, Bool.and_false, Bool.and_true, Bool.false_and, Bool.true_and, reduceCtorEq, S_fnr_fr, S_fnr_io])
theorem fnr_i {ρ : En} {j : Nat} {b : Bool} {d : PV} {fns : List Fn} {f : Fn} {Q : PK1} {dm : Dum Q} (h : ρ[j]? = some (Sl.own b d)) (hd : NsOk d) (hf : PgX fns) (hm : f ∈ fns) (k : ∀ d', NsOk d' → Q (.pv (.bl true)) (setOwn ρ j d')) : callR S_fnr [.sl j, .pv (encPg fns), .pv (encFn f)] ρ Q dm := by
  refine call_1 (j := j) (ps := [d, encPg fns, encFn f]) (by simp [S_fnr, splitArgs, h]) rfl ⟨d, fns, f, rfl, hd, hf, hm⟩ fun r d' hp => ?_
  obtain ⟨d2, e, hd', rfl⟩ := hp
  cases e
  exact k d' hd'
mutual
theorem peq_refl : ∀ p : PV, Px.plain p = true → peq p p = true
  | .non, _ => rfl
  | .bl b, _ => by rw [peq_bl]; simp
  | .int i, _ => by rw [peq_int]; simp
  | .str s, _ => by rw [peq_str]; simp
  | .tup ps, h => by rw [peq_tup]; exact peqs_refl ps (by rw [Px.plain] at h; exact h)
  | .lst ps, h => by rw [peq_lst]; exact peqs_refl ps (by rw [Px.plain] at h; exact h)
  | .dic _ _, h => by simp [Px.plain] at h
  | .scr _, h => by simp [Px.plain] at h
  | .nst _ _ _, h => by simp [Px.plain] at h
  | .ty _, h => by simp [Px.plain] at h
theorem peqs_refl : ∀ ps : List PV, plains ps = true → peqs ps ps = true
  | [], _ => peqs_nil
  | p :: ps, h => by
    rw [plains, Bool.and_eq_true] at h
    rw [peqs_cons, peq_refl p h.1, peqs_refl ps h.2]; rfl
end
theorem plains_all : ∀ ps : List PV, (∀ p ∈ ps, Px.plain p = true) → plains ps = true
  | [], _ => rfl
  | p :: ps, h => by rw [plains, h p (by simp), plains_all ps fun q hq => h q (by simp [hq])]; rfl
theorem gNe_self {p : PV} {Q : R → Prop} (h : eqOk p) (k : Q (.pv (.bl false))) : gNe p p Q := ⟨h, h, by rw [peq_refl p h.1]; exact k⟩
structure DcOk (d : As) : Prop where
  nd : (d.map (·.1)).Nodup
  ok : ∀ x ∈ d, okV AR x.2 = true ∧ dep x.2 ≤ 60
mutual
theorem takP_ok : ∀ (p t : PV) (d e : As), takP p t d = some e → DcOk d → okV AR t = true → dep t ≤ 60 → DcOk e
  | .str s, t, d, e, h, D, ht, hd => by
    rw [takP] at h
    cases h
    exact ⟨putD_nd D.nd, putD_vals (C := fun v => okV AR v = true ∧ dep v ≤ 60) ⟨ht, hd⟩ D.ok⟩
  | .tup [], _, _, _, h, _, _, _ => by rw [takP] at h; cases h
  | .tup (p :: ps), t, d, e, h, D, ht, hd => by
    obtain ⟨w, qs, rfl, ar, okq⟩ := okV_cases ht
    cases p with
    | str v =>
      rw [takP] at h
      split at h
      · refine takPs_ok ps qs d e h D okq ?_
        rw [dep, deps] at hd; omega
      · cases h
    | _ => rw [takP] at h; cases h; intro v w qs h1; cases h1
  | .lst _, _, _, _, h, _, _, _ => by rw [takP] at h; cases h
  | .scr _, _, _, _, h, _, _, _ => by rw [takP] at h; cases h
  | .nst _ _ _, _, _, _, h, _, _, _ => by rw [takP] at h; cases h
  | .ty _, _, _, _, h, _, _, _ => by rw [takP] at h; cases h
  | .non, _, _, _, h, _, _, _ => by rw [takP] at h; cases h
  | .bl _, _, _, _, h, _, _, _ => by rw [takP] at h; cases h
  | .int _, _, _, _, h, _, _, _ => by rw [takP] at h; cases h
  | .dic _ _, _, _, _, h, _, _, _ => by rw [takP] at h; cases h
theorem takPs_ok : ∀ (ps qs : List PV) (d e : As), takPs ps qs d = some e → DcOk d → okVs AR qs = true → deps qs ≤ 60 → DcOk e
  | [], _, d, e, h, D, _, _ => by rw [takPs] at h; cases h; exact D
  | p :: ps, [], d, e, h, D, _, _ => by rw [takPs] at h; cases h; exact D
  | p :: ps, q :: qs, d, e, h, D, hq, hd => by
    rw [takPs] at h
    rw [okVs, Bool.and_eq_true] at hq
    rw [deps] at hd
    cases e1 : takPs ps qs d with
    | none => rw [e1] at h; cases h
    | some e2 =>
      rw [e1] at h
      exact takP_ok p q e2 e h (takPs_ok ps qs d e2 e1 D hq.2 (by omega)) hq.1 (by omega)
end
theorem hits_self {d : As} (hv : ∀ e ∈ d, tsh e.2 = true) (nd : (d.map (·.1)).Nodup) : ∀ e : As, (∀ x ∈ e, x ∈ d) → hitsP (dKs d) (dPs d) (dKs e) (dPs e) = true
  | [], _ => rfl
  | x :: e, h => by
    have hx := h x List.mem_cons_self
    show (match getD (dKs d) (dPs d) (.inr x.1) with
      | some q => peq x.2 q && hitsP (dKs d) (dPs d) (dKs e) (dPs e)
      | none => false) = true
    rw [getD_enc, look_mem_of nd (v := x.2) hx, hits_self hv nd e fun y hy => h y (List.mem_cons_of_mem _ hy)]
    have := (peq_tsh x.2 x.2 (hv x hx) (hv x hx)).mpr rfl
    simp [this]
theorem eqDic_self {d : As} (hv : ∀ e ∈ d, tsh e.2 = true) (nd : (d.map (·.1)).Nodup) : eqDic (dKs d) (dPs d) (dKs d) (dPs d) = true := by
  unfold eqDic
  rw [hits_self hv nd d fun _ h => h]; simp
theorem encF_cases {ps qs : List PV} (hq : okVs AR qs = true) (hd : deps qs ≤ 60) : encF (takPs ps qs []) = .non ∨ ∃ ks vs, encF (takPs ps qs []) = .dic ks vs ∧ (plains vs = true ∧ deps vs ≤ 190) ∧ eqDic ks vs ks vs = true := by
  cases e : takPs ps qs [] with
  | none => exact .inl rfl
  | some d =>
    have D := takPs_ok ps qs [] d e ⟨List.nodup_nil, fun x h => by cases h⟩ hq hd
    have h1 : plains (dPs d) = true := plains_all _ fun p hp => by
      unfold dPs at hp
      obtain ⟨x, hx, rfl⟩ := List.mem_map.mp hp
      exact tsh_plain _ (okV_tsh (D.ok x hx).1)
    have h2 : deps (dPs d) ≤ 190 := (deps_le _).mpr fun p hp => by
      unfold dPs at hp
      obtain ⟨x, hx, rfl⟩ := List.mem_map.mp hp
      have := (D.ok x hx).2; omega
    exact .inr ⟨_, _, rfl, ⟨h1, h2⟩, eqDic_self (fun x hx => okV_tsh (D.ok x hx).1) D.nd⟩
theorem ClX.ok {a : Nat} {c : Cl} (h : ClX a c) (ha : a ≤ 2) : ClOk 300 c := by
  have h1 : pszs c.pats ≤ 10 := by
    have := pszs_le (n := 5) c.pats fun p hp => (h.pat p hp).sz
    have := h.len
    omega
  have h2 : deps c.pats ≤ 3 := (deps_le _).mpr fun p hp => (h.pat p hp).dep
  have h3 := h.bd.sz
  have h4 := h.bd.dep
  exact ⟨tshs_all _ fun p hp => okT_tsh AR p (h.pat p hp).ok, h.bd.sh, by omega, by omega, by omega, by omega⟩
theorem FnX.ok {f : Fn} (h : FnX f) : FunOk 300 f := by
  obtain ⟨a, a1, a2, e, hc⟩ := h.ps
  exact ⟨fun c hc2 => (hc c hc2).ok a2, by have := h.len; omega, by rw [e, List.length_replicate]; omega⟩
theorem PgX.ok {fns : List Fn} (h : PgX fns) : PgOk 300 fns := ⟨fun f hf => (h.fn f hf).ok, h.nd, by have := h.len; omega, by omega⟩
theorem FnX.eq {f : Fn} (h : FnX f) : eqOk (encFn f) := by
  obtain ⟨a, a1, a2, e, hc⟩ := h.ps
  have p1 : plains f.ps = true := plains_all _ fun p hp => by rw [e] at hp; rw [List.eq_of_mem_replicate hp]; rfl
  have d1 : deps f.ps ≤ 1 := (deps_le _).mpr fun p hp => by rw [e] at hp; rw [List.eq_of_mem_replicate hp]; decide
  have p2 : plains (f.cl.map encCl) = true := plains_all _ fun p hp => by
    obtain ⟨c, hc2, rfl⟩ := List.mem_map.mp hp
    have C := (hc c hc2).ok a2
    show plains [.tup c.pats, c.body] = true
    rw [plains, plains, plains, Px.plain, tshs_plains _ C.pats, tsh_plain _ C.body]; rfl
  have d2 : deps (f.cl.map encCl) ≤ 45 := (deps_le _).mpr fun p hp => by
    obtain ⟨c, hc2, rfl⟩ := List.mem_map.mp hp
    have C := (hc c hc2).ok a2
    have := C.pdep
    have := C.bdep
    show dep (.tup [.tup c.pats, c.body]) ≤ 45
    rw [dep, deps, deps, deps, dep]; omega
  constructor
  · show plains [.str f.w, .tup f.ps, f.fam, f.ix, .int (f.pl : Nat), .tup (f.cl.map encCl)] = true
    rw [h.fam, h.ix]
    simp only [plains, Px.plain, p1, p2]; rfl
  · show dep (.tup [.str f.w, .tup f.ps, f.fam, f.ix, .int (f.pl : Nat), .tup (f.cl.map encCl)]) ≤ 64
    rw [h.fam, h.ix]
    simp only [dep, deps]; omega
theorem lc_stP {g : QTG} {tt : QTT} {te : QT} {vs : List Nat} {Q : List PV → En → Prop} (C : PV → Prop) (env : PV → En) (xs : List PV) (d0 : PV) (hd0 : NsOk d0) (hl : xs.length ≤ 999999) (hq : ∀ acc d, acc.length = xs.length → (∀ p ∈ acc, C p) → NsOk d → Q acc (env d))
    (hc : ∀ x ∈ xs, ∀ (acc : List PV) (d : PV) (N : List PV → En → Prop), NsOk d → small (acc.length + 1) → (∀ q d', C q → NsOk d' → N (acc ++ [q]) (env d')) → g x (env d) fun ρ1 => tt ρ1 fun b ρ2 => Br b (te ρ2 fun r ρ3 => match r.wk with
      | .pv q => small (acc.length + 1) ∧ notIos ρ3 vs ∧ N (acc ++ [q]) (wipeE ρ3 vs)
      | _ => False) (notIos ρ2 vs ∧ N acc (wipeE ρ2 vs))) : lcGo g tt te vs Q xs [] (env d0) := by
  have := lc_st (g := g) (tt := tt) (te := te) (vs := vs) (Q := Q) id C env xs d0 hd0 hl hq hc
  rwa [List.map_id] at this
theorem cf_of {f : Fn} {a : Nat} {vs : List PV} (a2 : a ≤ 2) (hc : ∀ c ∈ f.cl, ClX a c) (hl : f.cl.length ≤ 2) (hv : vs.length = a) (ok : ∀ v ∈ vs, ValOk 20 v) : CfOk AR f vs := ⟨fun c hc2 => by
  have C := hc c hc2
  have C2 := C.ok a2
  exact ⟨by rw [C.len, hv], (okTs_iff AR _).mpr fun p hp => (C.pat p hp).ok, (okVs_iff AR _).mpr fun v hv => (ok v hv).ok, C2.psz, (deps_le _).mpr fun v hv => by have := (ok v hv).dep; omega⟩, by omega⟩
section
variable {P : Program} {w : World} {K : PySem.W.Frag} {mg : Str → Option Value} {base : Heap}
theorem ok_fnr (T : Txt K mg) : Has P w K mg base "_law_function_right" 40 ["state", "program", "row"] S_fnr := by
  refine dv__law_function_right T ((ok_cal T).mono (by omega)) ((ok_nx T).mono (by omega)) ((ok_fn T).mono (by omega)) ((ok_grp T).mono (by omega)) ((ok_lgrp T).mono (by omega)) ((ok_val T 4).mono (by omega)) ((ok_draw T).mono (by omega)) ((ok_like T 4).mono (by omega)) ((ok_tak T).mono (by omega)) ((ok_ltak T).mono (by omega)) ((ok_nmin T 4).mono (by omega)) ((ok_nml T 4).mono (by omega)) ((ok_cf T).mono (by omega)) ((ok_lfi T).mono (by omega)) S_fnr rfl fun pvs lp pre => ?_
  obtain ⟨d, fns, f, rfl, hd, pg, hf⟩ := pre
  unfold rd__law_function_right
  generalize hE : endsOf S_fnr _ = E
  have rt : ∀ {d' : PV} {a b c e g h i : Sl}, NsOk d' → E.rt (.pv (.bl true)) [.own true d', a, b, c, e, g, h, i] := fun {d' a b c e g h i} hd' => by
    rw [← hE]; exact ⟨d', rfl, hd', rfl⟩
  have X := pg.fn f hf
  have fw : f.w ∈ wds fns := List.mem_map.mpr ⟨f, hf, rfl⟩
  obtain ⟨a, a1, a2, eps, hcl⟩ := X.ps
  have ef : encFn f = .tup [.str f.w, .tup f.ps, f.fam, f.ix, .int (f.pl : Nat), .tup (f.cl.map encCl)] := rfl
  show qSeq _ _ E [.own true d, .val (encPg fns), .val (encFn f), .un, .un, .un, .un, .un]
  rw [ef]
  walk_at "px"
  refine cal_i pg.ok fw fun L l1 l2 l3 => ?_
  walk_at "px"
  refine nx_i pg.ok fw fun M m1 m2 => ?_
  walk_at "px"
  rw [asStrs_map]
  refine ⟨by omega, fun ys hp hso => ?_⟩
  have eL : L = ys := same_sorted (fun t => by rw [l1, hp.mem_iff, mem_inss, m1]; simp) l2 (hp.nodup_iff.mpr (inss_nd List.nodup_nil)) l3 (sortedS_pw hso)
  subst eL
  have self : ∀ p : PV, eqOk p → (!peq p p) = false := fun p h => by rw [peq_refl p h.1]; rfl
  have oS : ∀ L : List Str, eqOk (.tup (L.map PV.str)) := fun L => ⟨by rw [Px.plain]; exact plains_strs L, by rw [dep, deps_strs]; decide⟩
  rw [self _ (oS L)]
  refine ⟨oS L, oS L, br_i (fun h => by cases h) fun _ => ?_⟩
  refine grp_i pg.ok fw fun L2 g1 g2 g3 => ?_
  walk_at "px"
  refine lgrp_i pg.ok fw fun M2 h1 h2 h3 => ?_
  walk_at "px"
  have eL2 : L2 = M2 := same_sorted (fun t => by rw [g1, h1]) g2 h2 g3 h3
  subst eL2
  rw [self _ (oS L2)]
  refine ⟨oS L2, oS L2, br_i (fun h => by cases h) fun _ => ?_⟩
  refine fn_i ?_
  rw [fnOf_own pg.nd hf, Option.map_some, Option.getD_some, ← ef]
  walk_at "px"
  have fe := X.eq
  rw [self _ fe]
  refine ⟨fe, fe, br_i (fun h => by cases h) fun _ => ?_⟩
  rw [ef]
  walk_at "px"
  have hpl : f.ps.length = a := by rw [eps, List.length_replicate]
  have hcl2 := X.len
  have em : f.ps = f.ps.map id := by rw [List.map_id]
  rw [← ef]
  have lst0 : ∀ (te : QT) (tt : QTT) (g : QTG) (vs : List Nat) (Q : List PV → En → Prop) (ρ : En), lcGo g tt te vs Q (f.ps.map id) [] ρ → lcGo g tt te vs Q f.ps [] ρ := fun te tt g vs Q ρ h => by rwa [List.map_id] at h
  refine lcR_i (lst0 _ _ _ _ _ _ (lc_st id (ValOk 20) (fun d => [.own true d, .val (encPg fns), .val (encFn f), .un, .un, .un, .un, .un]) f.ps d hd (by omega) (fun vs d1 hvl hv hd1 => ?_) fun x hx acc d1 N hd1 sm k => ?_))
  rotate_left
  · walk_at "px"
    refine val_i (m := 3) rfl hd1 (by omega) (by omega) fun v d2 hd2 hv => ?_
    walk_at "px"
    exact ⟨sm, k v d2 ⟨hv.ok, by have := hv.dep; omega⟩ hd2⟩
  walk_at "px"
  rw [ef]
  have g5 : atI [PV.str f.w, PV.tup f.ps, f.fam, f.ix, PV.int (f.pl : Nat), PV.tup (f.cl.map encCl)] 5 = some (PV.tup (f.cl.map encCl)) := rfl
  walk_at "px"
  try rw [g5]
  try walk_at "px"
  rw [← ef]
  refine for_mapT encCl (fun dn ρ => ∃ (vs : List PV) (d : PV) (o4 o5 : Option PV), vs.length = a ∧ (∀ v ∈ vs, ValOk 20 v) ∧ NsOk d ∧ ρ = [.own true d, .val (encPg fns), .val (encFn f), .val (.tup vs), plS o4, plS o5, .un, .un]) f.cl _ ⟨vs, d1, none, none, by omega, hv, hd1, rfl⟩ ?_ ?_
  · rintro ρ ⟨vs, d1, o4, o5, hvl, hv, hd1, rfl⟩
    have co := cf_of a2 hcl hcl2 hvl hv
    walk_at "px"
    refine cf_i co ?_
    walk_at "px"
    refine lfi_i co ?_
    walk_at "px"
    rw [beq_self_eq_true]
    exact rt hd1
  · rintro dn c lf ρ e ⟨vs, d1, o4, o5, hvl, hv, hd1, rfl⟩ N ih
    have hcm : c ∈ f.cl := by rw [e]; simp
    have C := hcl c hcm
    have C2 := C.ok a2
    have ec : encCl c = .tup [.tup c.pats, c.body] := rfl
    rw [ec]
    have lst1 : ∀ (te : QT) (tt : QTT) (g : QTG) (vs : List Nat) (Q : List PV → En → Prop) (ρ : En), lcGo g tt te vs Q (c.pats.map id) [] ρ → lcGo g tt te vs Q c.pats [] ρ := fun te tt g vs Q ρ h => by rwa [List.map_id] at h
    have cl := C.len
    have oL : eqOk (PV.lst (c.pats.map fun p => PV.tup ((nmP p).map PV.str))) := ⟨plains_all _ fun q hq => by
      obtain ⟨p, _, rfl⟩ := List.mem_map.mp hq
      exact (oS _).1, by
      have : deps (c.pats.map fun p => PV.tup ((nmP p).map PV.str)) ≤ 1 := (deps_le _).mpr fun q hq => by
        obtain ⟨p, _, rfl⟩ := List.mem_map.mp hq
        rw [dep, deps_strs]; omega
      rw [dep]; omega⟩
    walk_at "px"
    refine draw_i rfl hd1 (by decide) (by decide) fun q d2 hd2 q0 q1 => ?_
    walk_at "px"
    refine br_i (fun _ => ?_) fun _ => ?_
    · refine lcR_i (lc_stP (ValOk 20) (fun d => [.own true d, .val (encPg fns), .val (encFn f), .val (.tup vs), .val (.tup c.pats), .val c.body, .un, .un]) c.pats d2 hd2 (by omega) (fun vs d3 hvl2 hv2 hd3 => ?_) fun p hp acc d3 N2 hd3 sm k => ?_)
      rotate_left
      · have hpp := C.pat p hp
        have := hpp.dep
        have := hpp.sz
        walk_at "px"
        refine like_i rfl hd3 hpp.ok (by omega) (by omega) (by omega) fun v d4 hd4 hv4 => ?_
        walk_at "px"
        exact ⟨sm, k v d4 ⟨hv4.ok, by have := hv4.dep; omega⟩ hd4⟩
      have TK := (cf_of a2 hcl hcl2 (hvl2.trans cl) hv2).cl c hcm
      walk_at "px"
      refine tak_i TK ?_
      walk_at "px"
      refine ltak_i TK ?_
      walk_at "px"
      generalize hY : lcR _ _ (qCall (S_nmin 4) _) _ _ _ _ _ = Y
      have rest : Y := by
        rw [← hY]
        refine lcR_i (lc_mapP (fun p => .tup ((nmP p).map PV.str)) c.pats [] _ (by simp only [List.length_nil]; omega) ?_ fun p hp acc N2 sm k => ?_)
        rotate_left
        · have hpp := C.pat p hp
          have := hpp.dep
          have := hpp.sz
          walk_at "px"
          refine nmin_i (okT_tsh AR p hpp.ok) (by omega) (by omega) ?_
          walk_at "px"
          exact ⟨sm, k⟩
        walk_at "px"
        refine lcR_i (lc_mapP (fun p => .tup ((nmP p).map PV.str)) c.pats [] _ (by simp only [List.length_nil]; omega) ?_ fun p hp acc N2 sm k => ?_)
        rotate_left
        · have hpp := C.pat p hp
          have := hpp.dep
          have := hpp.sz
          have hnl := nmL_len p
          walk_at "px"
          refine nml_i (okT_tsh AR p hpp.ok) (by omega) (by omega) ?_
          walk_at "px"
          rw [hpp.nm]
          rw [hpp.nm] at hnl
          exact ⟨sm, k⟩
        walk_at "px"
        rw [self _ oL]
        exact ⟨oL, oL, br_i (fun h => by cases h) fun _ => ih _ ⟨vs, d3, some (.tup c.pats), some c.body, hvl2.trans cl, hv2, hd3, rfl⟩⟩
      rcases encF_cases (ps := c.pats) TK.q TK.dep with ez | ⟨ks, us, ez, h1, h2⟩
      · rw [ez]; exact ⟨⟨rfl, by decide⟩, ⟨rfl, by decide⟩, br_i (fun h => by cases h) fun _ => rest⟩
      · rw [ez]; exact ⟨h1, h1, br_i (fun h => by rw [h2] at h; cases h) fun _ => rest⟩
    · have TK := (cf_of a2 hcl hcl2 hvl hv).cl c hcm
      refine tak_i TK ?_
      walk_at "px"
      refine ltak_i TK ?_
      walk_at "px"
      generalize hY : lcR _ _ (qCall (S_nmin 4) _) _ _ _ _ _ = Y
      have rest : Y := by
        rw [← hY]
        refine lcR_i (lc_mapP (fun p => .tup ((nmP p).map PV.str)) c.pats [] _ (by simp only [List.length_nil]; omega) ?_ fun p hp acc N2 sm k => ?_)
        rotate_left
        · have hpp := C.pat p hp
          have := hpp.dep
          have := hpp.sz
          walk_at "px"
          refine nmin_i (okT_tsh AR p hpp.ok) (by omega) (by omega) ?_
          walk_at "px"
          exact ⟨sm, k⟩
        walk_at "px"
        refine lcR_i (lc_mapP (fun p => .tup ((nmP p).map PV.str)) c.pats [] _ (by simp only [List.length_nil]; omega) ?_ fun p hp acc N2 sm k => ?_)
        rotate_left
        · have hpp := C.pat p hp
          have := hpp.dep
          have := hpp.sz
          have hnl := nmL_len p
          walk_at "px"
          refine nml_i (okT_tsh AR p hpp.ok) (by omega) (by omega) ?_
          walk_at "px"
          rw [hpp.nm]
          rw [hpp.nm] at hnl
          exact ⟨sm, k⟩
        walk_at "px"
        rw [self _ oL]
        exact ⟨oL, oL, br_i (fun h => by cases h) fun _ => ih _ ⟨vs, d2, some (.tup c.pats), some c.body, hvl, hv, hd2, rfl⟩⟩
      rcases encF_cases (ps := c.pats) TK.q TK.dep with ez | ⟨ks, us, ez, h1, h2⟩
      · rw [ez]; exact ⟨⟨rfl, by decide⟩, ⟨rfl, by decide⟩, br_i (fun h => by cases h) fun _ => rest⟩
      · rw [ez]; exact ⟨h1, h1, br_i (fun h => by rw [h2] at h; cases h) fun _ => rest⟩
end

end Lw
set_option maxHeartbeats 4000000
namespace Lw
open PySem L2 PyProof.Rows Px
local macro_rules | `(tactic| walk_at "px") => `(tactic| simp -dsimp only [qVar, qK, qNil, qCons, qTup, qLst, vals, looks, R.look, R.wk, qCB, qB, qOp2, qTru, truG, qAnd, qOr, qNot, qAndV, qOrV, qNotV, qIfE, qNo, qPart, qSl, gSl, qIt, qRng1, qRng2, qgN, qgNil, qgCons, qgT, notIo_zero, notIo_succ, notIo_nil', slOk_un, slOk_val, slOk_own, slOk_pl, slOk_pd, notIos_nil, notIos_cons, qYes, qLc, qNext, qSeq, qBreak, qCont, qFrz, frz, qDrop, retG, qRet, qRetN, qIf, qSet, qOwn, qAsg, qFor, qMut, ownTy, gAppend, gExtend, gPop, isOwn, qSetIx, qCall, splitArgs, putOuts, setOwn, finOk, endsOf, mk, outsOf, uns,
  gAdd, gInt, gInt0, gEq, gNe, gIn, gNotIn, gIs, gIsNot, Px.isNon, gIx, getP, gLen, gAbs, gIntC, gSum, gMax, gMax2, gMax3, gMinT, gAll, gAny, gList, gTuple, gIsi, qNeg, qDict0, wipeE, lcGo_nil, br_t, br_f, atI_0, atI_1, atI_2, atI_3, ixN_0, ixN_1, ixN_2, ixN_3, List.length_map, List.length_set, cut_from1, isTy, tyN, gIsiT, asTys, gListD, keyP, isDic, qGet1, qGet2, qLZ, gZip, qPairs, mergeP, qDisp, gDictC, gStr, qChain, qPar, qAug, qMeth, tyIs, gIndex, qLcK, qDc, qDcK, dicAt, qForK, qZipI, qCallB, qCallF, splitB, qTake, tkEnds, tkRt, tkBack, Px.isN, isNst, gIxN, gPop0, gInsert, qSetSeed, qStep, qPar3, qLcO, lcoK, stEnds, stGo, immS, Px.imm, endsLaw, Option.isSome_some, Option.isSome_none, isEmp_concat, List.getLast?_concat, List.dropLast_concat, List.isEmpty_nil, gEqX, gNeX, qEnumI, enumP, gSortSet, gLenSet, qSortSc, asStrs, List.any_cons, List.any_nil, tyOk_str, tyOk_tuple, tyOk_int, tyOk_bool, tyOk_list, tyOk_dict, Option.map_some, Option.map_none,
  eqOk_str, eqOk_int, eqOk_bl, eqOk_non, eqOkW_str, eqOkW_int, eqOkW_bl, eqOkW_non, gEqW, gNeW, qVals, ownDic, qLc2, gLtX, gGtX, gSortX, peq_str, peq_int, peq_bl, List.getElem?_cons_zero, List.getElem?_cons_succ, List.getElem?_nil, List.set_cons_zero, List.set_cons_succ, List.zipWith_cons_cons, List.zipWith_nil_left, List.replicate_succ, List.replicate_zero, List.cons_append, List.nil_append, List.length_cons, List.length_nil, List.map_cons, List.map_nil, ↓reduceIte, Bool.false_eq_true, and_true, true_and, Bool.not_true, Bool.not_false, Nat.reduceAdd, Nat.reduceLT, Nat.reduceLeDiff, Nat.zero_lt_succ, Nat.lt_add_one, ne_eq, not_true_eq_false, not_false_eq_true, String.reduceEq, String.reduceBEq, Bool.or_false, Bool.false_or, Bool.or_true, Bool.true_or, Bool.and_false, Bool.and_true, Bool.false_and, Bool.true_and, reduceCtorEq])
abbrev rdL : QTS := rd_law sState S_prog S_fnr S_fn
section
variable {P : Program} {w : World} {K : PySem.W.Frag} {mg : Str → Option Value} {base : Heap}
theorem law_main {ns : List Int} {d : PV} (hd : NsOk d) : rdL endsLaw [.val (.scr ns), .own false d, .un, .un, .un] := by
  unfold rdL rd_law
  walk_at "px"
  refine ⟨by unfold rngOk; omega, ?_⟩
  generalize rng 0 (4 : Int).toNat = rg
  refine for_mapP (fun dn ρ => ∃ (d : PV) (o2 o3 o4 : Option PV), NsOk d ∧ ρ = [.val (.scr ns), .own false d, plS o2, plS o3, plS o4]) rg _ ⟨d, none, none, none, hd, rfl⟩ ?_ ?_
  · rintro ρ ⟨d, o2, o3, o4, hd, rfl⟩
    walk_at "px"
  · rintro dn p lf ρ e ⟨d, o2, o3, o4, hd, rfl⟩ N ih
    walk_at "px"
    refine prog_i rfl hd fun fns d2 hd2 hf => ?_
    have h0 : encPg fns = .tup [.str (Str.ofString "program"), .tup (fns.map encFn)] := rfl
    rw [h0]
    walk_at "px"
    rw [← h0]
    refine for_mapT encFn (fun dn ρ => ∃ (d : PV) (o4 : Option PV), NsOk d ∧ ρ = [.val (.scr ns), .own false d, .val p, .val (encPg fns), plS o4]) fns _ ⟨d2, o4, hd2, rfl⟩ ?_ ?_
    · rintro ρ ⟨d3, o4, hd3, rfl⟩
      walk_at "px"
      refine fn_i ?_
      rw [fnOf_none hf.oth, Option.map_none, Option.getD_none]
      walk_at "px"
      exact ih _ ⟨d3, some p, some (encPg fns), o4, hd3, rfl⟩
    · rintro dn f lf ρ e ⟨d3, o4, hd3, rfl⟩ N2 ih2
      have hm : f ∈ fns := by rw [e]; simp
      walk_at "px"
      refine fnr_i rfl hd3 hf hm fun d4 hd4 => ?_
      walk_at "px"
      exact ih2 _ ⟨d4, some (encFn f), hd4, rfl⟩
theorem ok_law (T : Txt K mg) : HasL P w K mg base "law" 100 ["script"] := by
  refine dv_law (k := 99) ((ok_state T).mono (by omega)) ((ok_prog T).mono (by omega)) ((ok_fnr T).mono (by omega)) ((ok_fn T).mono (by omega)) T fun ns hl => ?_
  unfold rd_law1
  show qOwn 1 _ _ [.val (.scr ns), .un, .un, .un, .un]
  walk_at "px"
  refine state_i hl fun ms s nn => ?_
  walk_at "px"
  exact ⟨⟨ms, rfl, nn⟩, rfl, fun c => law_main ⟨c, s, rfl⟩⟩
end

end Lw
namespace Lw
open PySem L2 PyProof.Rows Px
theorem all_mk {l : PySem.W.OpenLaw} {w : World} {K : PySem.W.Frag} {h : Heap} {mg : Str → Option Value} {fa : Addr} (X : K.In h) (G : h.Ns mainGlobals mg) (hfa : mg "law" = some (.ref fa))
    {f0 f1 f2 f3 f4 f5 f6 f7 f8 f9 f10 f11 f12 f13 f14 f15 f16 f17 f18 f19 f20 f21 f22 f23 f24 : Addr}
    {od0 an0 od1 an1 od2 an2 od3 an3 od4 an4 od5 an5 od6 an6 od7 an7 od8 an8 od9 an9 od10 an10 od11 an11 od12 an12 od13 an13 od14 an14 od15 an15 od16 an16 od17 an17 od18 an18 od19 an19 od20 an20 od21 an21 od22 an22 od23 an23 od24 an24 : Option Addr} {sl0 sl1 sl2 sl3 sl4 sl5 sl6 sl7 sl8 sl9 sl10 sl11 sl12 sl13 sl14 sl15 sl16 sl17 sl18 sl19 sl20 sl21 sl22 sl23 sl24 : Array (Option Value)} {oc0 kV0 dc0 pm0 cd0 ct0 oc1 kV1 dc1 pm1 cd1 ct1 oc2 kV2 dc2 pm2 cd2 ct2 oc3 kV3 dc3 pm3 cd3 ct3 oc4 kV4 dc4 pm4 cd4 ct4 oc5 kV5 dc5 pm5 cd5 ct5 oc6 kV6 dc6 pm6 cd6 ct6 oc7 kV7 dc7 pm7 cd7 ct7 oc8 kV8 dc8 pm8 cd8 ct8 oc9 kV9 dc9 pm9 cd9 ct9 oc10 kV10 dc10 pm10 cd10 ct10 oc11 kV11 dc11 pm11 cd11 ct11 oc12 kV12 dc12 pm12 cd12 ct12 oc13 kV13 dc13 pm13 cd13 ct13 oc14 kV14 dc14 pm14 cd14 ct14 oc15 kV15 dc15 pm15 cd15 ct15 oc16 kV16 dc16 pm16 cd16 ct16 oc17 kV17 dc17 pm17 cd17 ct17 oc18 kV18 dc18 pm18 cd18 ct18 oc19 kV19 dc19 pm19 cd19 ct19 oc20 kV20 dc20 pm20 cd20 ct20 oc21 kV21 dc21 pm21 cd21 ct21 oc22 kV22 dc22 pm22 cd22 ct22 oc23 kV23 dc23 pm23 cd23 ct23 oc24 kV24 dc24 pm24 cd24 ct24 : Value}
    (a0 : PySem.W.nsIn K mainGlobals "function_of" = some (some (.ref f0))) (l0 : K.lookup f0 = some ⟨oc0, od0, .func (PySem.W.fnOf "function_of" "function_of" (defArgs s_function_of) (defBody s_function_of) (defScope s_function_of) .none kV0 dc0 pm0 an0 cd0 ct0), sl0⟩) (c0 : PySem.W.codeIn K cd0 "function_of" = true) (k0 : PySem.W.keepIn K (.ref f0) = true)
    (a1 : PySem.W.nsIn K mainGlobals "names_in" = some (some (.ref f1))) (l1 : K.lookup f1 = some ⟨oc1, od1, .func (PySem.W.fnOf "names_in" "names_in" (defArgs s_names_in) (defBody s_names_in) (defScope s_names_in) .none kV1 dc1 pm1 an1 cd1 ct1), sl1⟩) (c1 : PySem.W.codeIn K cd1 "names_in" = true) (k1 : PySem.W.keepIn K (.ref f1) = true)
    (a2 : PySem.W.nsIn K mainGlobals "taken" = some (some (.ref f2))) (l2 : K.lookup f2 = some ⟨oc2, od2, .func (PySem.W.fnOf "taken" "taken" (defArgs s_taken) (defBody s_taken) (defScope s_taken) .none kV2 dc2 pm2 an2 cd2 ct2), sl2⟩) (c2 : PySem.W.codeIn K cd2 "taken" = true) (k2 : PySem.W.keepIn K (.ref f2) = true)
    (a3 : PySem.W.nsIn K mainGlobals "clause_for" = some (some (.ref f3))) (l3 : K.lookup f3 = some ⟨oc3, od3, .func (PySem.W.fnOf "clause_for" "clause_for" (defArgs s_clause_for) (defBody s_clause_for) (defScope s_clause_for) .none kV3 dc3 pm3 an3 cd3 ct3), sl3⟩) (c3 : PySem.W.codeIn K cd3 "clause_for" = true) (k3 : PySem.W.keepIn K (.ref f3) = true)
    (a4 : PySem.W.nsIn K mainGlobals "parts_of_body" = some (some (.ref f4))) (l4 : K.lookup f4 = some ⟨oc4, od4, .func (PySem.W.fnOf "parts_of_body" "parts_of_body" (defArgs s_parts_of_body) (defBody s_parts_of_body) (defScope s_parts_of_body) .none kV4 dc4 pm4 an4 cd4 ct4), sl4⟩) (c4 : PySem.W.codeIn K cd4 "parts_of_body" = true) (k4 : PySem.W.keepIn K (.ref f4) = true)
    (a5 : PySem.W.nsIn K mainGlobals "calls_of" = some (some (.ref f5))) (l5 : K.lookup f5 = some ⟨oc5, od5, .func (PySem.W.fnOf "calls_of" "calls_of" (defArgs s_calls_of) (defBody s_calls_of) (defScope s_calls_of) .none kV5 dc5 pm5 an5 cd5 ct5), sl5⟩) (c5 : PySem.W.codeIn K cd5 "calls_of" = true) (k5 : PySem.W.keepIn K (.ref f5) = true)
    (a6 : PySem.W.nsIn K mainGlobals "reached_from" = some (some (.ref f6))) (l6 : K.lookup f6 = some ⟨oc6, od6, .func (PySem.W.fnOf "reached_from" "reached_from" (defArgs s_reached_from) (defBody s_reached_from) (defScope s_reached_from) .none kV6 dc6 pm6 an6 cd6 ct6), sl6⟩) (c6 : PySem.W.codeIn K cd6 "reached_from" = true) (k6 : PySem.W.keepIn K (.ref f6) = true)
    (a7 : PySem.W.nsIn K mainGlobals "group_of" = some (some (.ref f7))) (l7 : K.lookup f7 = some ⟨oc7, od7, .func (PySem.W.fnOf "group_of" "group_of" (defArgs s_group_of) (defBody s_group_of) (defScope s_group_of) .none kV7 dc7 pm7 an7 cd7 ct7), sl7⟩) (c7 : PySem.W.codeIn K cd7 "group_of" = true) (k7 : PySem.W.keepIn K (.ref f7) = true)
    (a8 : PySem.W.nsIn K mainGlobals "_law_state" = some (some (.ref f8))) (l8 : K.lookup f8 = some ⟨oc8, od8, .func (PySem.W.fnOf "_law_state" "_law_state" (defArgs s__law_state) (defBody s__law_state) (defScope s__law_state) .none kV8 dc8 pm8 an8 cd8 ct8), sl8⟩) (c8 : PySem.W.codeIn K cd8 "_law_state" = true) (k8 : PySem.W.keepIn K (.ref f8) = true)
    (a9 : PySem.W.nsIn K mainGlobals "_law_draw" = some (some (.ref f9))) (l9 : K.lookup f9 = some ⟨oc9, od9, .func (PySem.W.fnOf "_law_draw" "_law_draw" (defArgs s__law_draw) (defBody s__law_draw) (defScope s__law_draw) .none kV9 dc9 pm9 an9 cd9 ct9), sl9⟩) (c9 : PySem.W.codeIn K cd9 "_law_draw" = true) (k9 : PySem.W.keepIn K (.ref f9) = true)
    (a10 : PySem.W.nsIn K mainGlobals "_law_pick" = some (some (.ref f10))) (l10 : K.lookup f10 = some ⟨oc10, od10, .func (PySem.W.fnOf "_law_pick" "_law_pick" (defArgs s__law_pick) (defBody s__law_pick) (defScope s__law_pick) .none kV10 dc10 pm10 an10 cd10 ct10), sl10⟩) (c10 : PySem.W.codeIn K cd10 "_law_pick" = true) (k10 : PySem.W.keepIn K (.ref f10) = true)
    (a11 : PySem.W.nsIn K mainGlobals "_law_graph_pattern" = some (some (.ref f11))) (l11 : K.lookup f11 = some ⟨oc11, od11, .func (PySem.W.fnOf "_law_graph_pattern" "_law_graph_pattern" (defArgs s__law_graph_pattern) (defBody s__law_graph_pattern) (defScope s__law_graph_pattern) .none kV11 dc11 pm11 an11 cd11 ct11), sl11⟩) (c11 : PySem.W.codeIn K cd11 "_law_graph_pattern" = true) (k11 : PySem.W.keepIn K (.ref f11) = true)
    (a12 : PySem.W.nsIn K mainGlobals "_law_graph_body" = some (some (.ref f12))) (l12 : K.lookup f12 = some ⟨oc12, od12, .func (PySem.W.fnOf "_law_graph_body" "_law_graph_body" (defArgs s__law_graph_body) (defBody s__law_graph_body) (defScope s__law_graph_body) .none kV12 dc12 pm12 an12 cd12 ct12), sl12⟩) (c12 : PySem.W.codeIn K cd12 "_law_graph_body" = true) (k12 : PySem.W.keepIn K (.ref f12) = true)
    (a13 : PySem.W.nsIn K mainGlobals "_law_graph_program" = some (some (.ref f13))) (l13 : K.lookup f13 = some ⟨oc13, od13, .func (PySem.W.fnOf "_law_graph_program" "_law_graph_program" (defArgs s__law_graph_program) (defBody s__law_graph_program) (defScope s__law_graph_program) .none kV13 dc13 pm13 an13 cd13 ct13), sl13⟩) (c13 : PySem.W.codeIn K cd13 "_law_graph_program" = true) (k13 : PySem.W.keepIn K (.ref f13) = true)
    (a14 : PySem.W.nsIn K mainGlobals "_law_names" = some (some (.ref f14))) (l14 : K.lookup f14 = some ⟨oc14, od14, .func (PySem.W.fnOf "_law_names" "_law_names" (defArgs s__law_names) (defBody s__law_names) (defScope s__law_names) .none kV14 dc14 pm14 an14 cd14 ct14), sl14⟩) (c14 : PySem.W.codeIn K cd14 "_law_names" = true) (k14 : PySem.W.keepIn K (.ref f14) = true)
    (a15 : PySem.W.nsIn K mainGlobals "_law_calls" = some (some (.ref f15))) (l15 : K.lookup f15 = some ⟨oc15, od15, .func (PySem.W.fnOf "_law_calls" "_law_calls" (defArgs s__law_calls) (defBody s__law_calls) (defScope s__law_calls) .none kV15 dc15 pm15 an15 cd15 ct15), sl15⟩) (c15 : PySem.W.codeIn K cd15 "_law_calls" = true) (k15 : PySem.W.keepIn K (.ref f15) = true)
    (a16 : PySem.W.nsIn K mainGlobals "_law_next" = some (some (.ref f16))) (l16 : K.lookup f16 = some ⟨oc16, od16, .func (PySem.W.fnOf "_law_next" "_law_next" (defArgs s__law_next) (defBody s__law_next) (defScope s__law_next) .none kV16 dc16 pm16 an16 cd16 ct16), sl16⟩) (c16 : PySem.W.codeIn K cd16 "_law_next" = true) (k16 : PySem.W.keepIn K (.ref f16) = true)
    (a17 : PySem.W.nsIn K mainGlobals "_law_reached" = some (some (.ref f17))) (l17 : K.lookup f17 = some ⟨oc17, od17, .func (PySem.W.fnOf "_law_reached" "_law_reached" (defArgs s__law_reached) (defBody s__law_reached) (defScope s__law_reached) .none kV17 dc17 pm17 an17 cd17 ct17), sl17⟩) (c17 : PySem.W.codeIn K cd17 "_law_reached" = true) (k17 : PySem.W.keepIn K (.ref f17) = true)
    (a18 : PySem.W.nsIn K mainGlobals "_law_group" = some (some (.ref f18))) (l18 : K.lookup f18 = some ⟨oc18, od18, .func (PySem.W.fnOf "_law_group" "_law_group" (defArgs s__law_group) (defBody s__law_group) (defScope s__law_group) .none kV18 dc18 pm18 an18 cd18 ct18), sl18⟩) (c18 : PySem.W.codeIn K cd18 "_law_group" = true) (k18 : PySem.W.keepIn K (.ref f18) = true)
    (a19 : PySem.W.nsIn K mainGlobals "_law_taken" = some (some (.ref f19))) (l19 : K.lookup f19 = some ⟨oc19, od19, .func (PySem.W.fnOf "_law_taken" "_law_taken" (defArgs s__law_taken) (defBody s__law_taken) (defScope s__law_taken) .none kV19 dc19 pm19 an19 cd19 ct19), sl19⟩) (c19 : PySem.W.codeIn K cd19 "_law_taken" = true) (k19 : PySem.W.keepIn K (.ref f19) = true)
    (a20 : PySem.W.nsIn K mainGlobals "_law_value" = some (some (.ref f20))) (l20 : K.lookup f20 = some ⟨oc20, od20, .func (PySem.W.fnOf "_law_value" "_law_value" (defArgs s__law_value) (defBody s__law_value) (defScope s__law_value) .none kV20 dc20 pm20 an20 cd20 ct20), sl20⟩) (c20 : PySem.W.codeIn K cd20 "_law_value" = true) (k20 : PySem.W.keepIn K (.ref f20) = true)
    (a21 : PySem.W.nsIn K mainGlobals "_law_like" = some (some (.ref f21))) (l21 : K.lookup f21 = some ⟨oc21, od21, .func (PySem.W.fnOf "_law_like" "_law_like" (defArgs s__law_like) (defBody s__law_like) (defScope s__law_like) .none kV21 dc21 pm21 an21 cd21 ct21), sl21⟩) (c21 : PySem.W.codeIn K cd21 "_law_like" = true) (k21 : PySem.W.keepIn K (.ref f21) = true)
    (a22 : PySem.W.nsIn K mainGlobals "_law_first" = some (some (.ref f22))) (l22 : K.lookup f22 = some ⟨oc22, od22, .func (PySem.W.fnOf "_law_first" "_law_first" (defArgs s__law_first) (defBody s__law_first) (defScope s__law_first) .none kV22 dc22 pm22 an22 cd22 ct22), sl22⟩) (c22 : PySem.W.codeIn K cd22 "_law_first" = true) (k22 : PySem.W.keepIn K (.ref f22) = true)
    (a23 : PySem.W.nsIn K mainGlobals "_law_function_right" = some (some (.ref f23))) (l23 : K.lookup f23 = some ⟨oc23, od23, .func (PySem.W.fnOf "_law_function_right" "_law_function_right" (defArgs s__law_function_right) (defBody s__law_function_right) (defScope s__law_function_right) .none kV23 dc23 pm23 an23 cd23 ct23), sl23⟩) (c23 : PySem.W.codeIn K cd23 "_law_function_right" = true) (k23 : PySem.W.keepIn K (.ref f23) = true)
    (a24 : PySem.W.nsIn K mainGlobals "law" = some (some (.ref f24))) (l24 : K.lookup f24 = some ⟨oc24, od24, .func (PySem.W.fnOf "law" "law" (defArgs s_law) (defBody s_law) (defScope s_law) .none kV24 dc24 pm24 an24 cd24 ct24), sl24⟩) (c24 : PySem.W.codeIn K cd24 "law" = true) (k24 : PySem.W.keepIn K (.ref f24) = true)
    (z0 : PySem.W.nsIn K mainGlobals "isinstance" = some none)
    (z1 : PySem.W.nsIn K mainGlobals "str" = some none)
    (z2 : PySem.W.nsIn K mainGlobals "tuple" = some none)
    (z3 : PySem.W.nsIn K mainGlobals "list" = some none)
    (z4 : PySem.W.nsIn K mainGlobals "zip" = some none)
    (z5 : PySem.W.nsIn K mainGlobals "enumerate" = some none)
    (z6 : PySem.W.nsIn K mainGlobals "sorted" = some none)
    (z7 : PySem.W.nsIn K mainGlobals "set" = some none)
    (z8 : PySem.W.nsIn K mainGlobals "int" = some none)
    (z9 : PySem.W.nsIn K mainGlobals "abs" = some none)
    (z10 : PySem.W.nsIn K mainGlobals "len" = some none)
    (z11 : PySem.W.nsIn K mainGlobals "range" = some none)
    : ∃ fd : FuncData, (∀ (s : Shared) (v : Value), BindsTo s fd ⟨[v], []⟩ [("script", v)]) ∧ ∀ base : Heap, K.In base → base.Ns mainGlobals mg → FnOk l.prog w K mg base CX0 100 fa fd ["script"] (spLaw K) := by
  have e := hfa.symm.trans (PySem.W.mg_of X G a24)
  cases e
  have T : Txt K mg := {
    d_function_of := ⟨f0, _, fun_mk (st := s_function_of) l0 c0 k0, PySem.W.mg_of X G a0⟩
    d_names_in := ⟨f1, _, fun_mk (st := s_names_in) l1 c1 k1, PySem.W.mg_of X G a1⟩
    d_taken := ⟨f2, _, fun_mk (st := s_taken) l2 c2 k2, PySem.W.mg_of X G a2⟩
    d_clause_for := ⟨f3, _, fun_mk (st := s_clause_for) l3 c3 k3, PySem.W.mg_of X G a3⟩
    d_parts_of_body := ⟨f4, _, fun_mk (st := s_parts_of_body) l4 c4 k4, PySem.W.mg_of X G a4⟩
    d_calls_of := ⟨f5, _, fun_mk (st := s_calls_of) l5 c5 k5, PySem.W.mg_of X G a5⟩
    d_reached_from := ⟨f6, _, fun_mk (st := s_reached_from) l6 c6 k6, PySem.W.mg_of X G a6⟩
    d_group_of := ⟨f7, _, fun_mk (st := s_group_of) l7 c7 k7, PySem.W.mg_of X G a7⟩
    d__law_state := ⟨f8, _, fun_mk (st := s__law_state) l8 c8 k8, PySem.W.mg_of X G a8⟩
    d__law_draw := ⟨f9, _, fun_mk (st := s__law_draw) l9 c9 k9, PySem.W.mg_of X G a9⟩
    d__law_pick := ⟨f10, _, fun_mk (st := s__law_pick) l10 c10 k10, PySem.W.mg_of X G a10⟩
    d__law_graph_pattern := ⟨f11, _, fun_mk (st := s__law_graph_pattern) l11 c11 k11, PySem.W.mg_of X G a11⟩
    d__law_graph_body := ⟨f12, _, fun_mk (st := s__law_graph_body) l12 c12 k12, PySem.W.mg_of X G a12⟩
    d__law_graph_program := ⟨f13, _, fun_mk (st := s__law_graph_program) l13 c13 k13, PySem.W.mg_of X G a13⟩
    d__law_names := ⟨f14, _, fun_mk (st := s__law_names) l14 c14 k14, PySem.W.mg_of X G a14⟩
    d__law_calls := ⟨f15, _, fun_mk (st := s__law_calls) l15 c15 k15, PySem.W.mg_of X G a15⟩
    d__law_next := ⟨f16, _, fun_mk (st := s__law_next) l16 c16 k16, PySem.W.mg_of X G a16⟩
    d__law_reached := ⟨f17, _, fun_mk (st := s__law_reached) l17 c17 k17, PySem.W.mg_of X G a17⟩
    d__law_group := ⟨f18, _, fun_mk (st := s__law_group) l18 c18 k18, PySem.W.mg_of X G a18⟩
    d__law_taken := ⟨f19, _, fun_mk (st := s__law_taken) l19 c19 k19, PySem.W.mg_of X G a19⟩
    d__law_value := ⟨f20, _, fun_mk (st := s__law_value) l20 c20 k20, PySem.W.mg_of X G a20⟩
    d__law_like := ⟨f21, _, fun_mk (st := s__law_like) l21 c21 k21, PySem.W.mg_of X G a21⟩
    d__law_first := ⟨f22, _, fun_mk (st := s__law_first) l22 c22 k22, PySem.W.mg_of X G a22⟩
    d__law_function_right := ⟨f23, _, fun_mk (st := s__law_function_right) l23 c23 k23, PySem.W.mg_of X G a23⟩
    d_law := ⟨fa, _, fun_mk (st := s_law) l24 c24 k24, PySem.W.mg_of X G a24⟩
    z_isinstance := PySem.W.mg_none_of X G z0
    z_str := PySem.W.mg_none_of X G z1
    z_tuple := PySem.W.mg_none_of X G z2
    z_list := PySem.W.mg_none_of X G z3
    z_zip := PySem.W.mg_none_of X G z4
    z_enumerate := PySem.W.mg_none_of X G z5
    z_sorted := PySem.W.mg_none_of X G z6
    z_set := PySem.W.mg_none_of X G z7
    z_int := PySem.W.mg_none_of X G z8
    z_abs := PySem.W.mg_none_of X G z9
    z_len := PySem.W.mg_none_of X G z10
    z_range := PySem.W.mg_none_of X G z11
  }
  refine ⟨PySem.W.fnOf "law" "law" (defArgs s_law) (defBody s_law) (defScope s_law) .none kV24 dc24 pm24 an24 cd24 ct24, fun s v => .of_eq rfl, fun base _ _ => ?_⟩
  obtain ⟨f, fd, F, m, kk, b, at_⟩ := (ok_law (P := l.prog) (w := w) (base := base) T).ex
  rw [PySem.W.mg_of X G a24] at m
  cases m
  exact same_fd (fun_mk (st := s_law) l24 c24 k24) F at_
theorem walk {l : PySem.W.OpenLaw} {q : Program} {loose : List Str} {XP : (Str → Option Value) → Heap → Prop} {YP : World → Heap → Prop} {d : DefRec} {K : Params → PySem.W.Frag} (hn : l.most = some 63) (hdf : d.params.defaults = [])
    (hY : ∀ (w : World) (h : Heap), YP w h → (K w.params).In h)
    (F : ∀ (w : World) (mg : Str → Option Value) (fa : Addr) (h : Heap), (K w.params).In h → h.Ns mainGlobals mg → mg d.name = some (.ref fa) →
      ∃ fd : FuncData, (∀ (s : Shared) (u : Value), BindsTo s fd ⟨[u], []⟩ [("script", u)]) ∧ ∀ base : Heap, (K w.params).In base → base.Ns mainGlobals mg → FnOk l.prog w (K w.params) mg base CX0 100 fa fd ["script"] (spLaw (K w.params))) :
    PySem.W.WalkO q loose XP YP l.row.toRowW d [] (fun f vs => PySem.call f vs) :=
  L2.walk_of (n := 63) (k := 100) (x := "script") (CX := fun _ => CX0) (sp := fun w => spLaw (K w.params)) hn (by decide) hdf ⟨rfl, by decide, by decide⟩ hY F (fun _ _ a ns hl ho hS => lawL_sp hl ho hS) fun _ _ _ _ _ z => z
end Lw
open PySem PySem.W PyProof.Rows
set_option maxRecDepth 100000 in
set_option maxHeartbeats 0 in
theorem PySem.Challenge.cw_exactkinds_k30_groups_and_clauses_holds : PySem.Challenge.rw_exactkinds_k30_groups_and_clauses.Holds := by
  w_on; o_law; k_head; (case hw => w_witness2)
  k_fill
  refine Lw.walk (l := PySem.Challenge.rw_exactkinds_k30_groups_and_clauses) rfl rfl (fun w h Y => PySem.W.kIn_of Y) ?F
  case F =>
    intro w mg fa h KX G hmg
    refine' Lw.all_mk KX G hmg ?a0 ?l0 ?c0 ?k0 ?a1 ?l1 ?c1 ?k1 ?a2 ?l2 ?c2 ?k2 ?a3 ?l3 ?c3 ?k3 ?a4 ?l4 ?c4 ?k4 ?a5 ?l5 ?c5 ?k5 ?a6 ?l6 ?c6 ?k6 ?a7 ?l7 ?c7 ?k7 ?a8 ?l8 ?c8 ?k8 ?a9 ?l9 ?c9 ?k9 ?a10 ?l10 ?c10 ?k10 ?a11 ?l11 ?c11 ?k11 ?a12 ?l12 ?c12 ?k12 ?a13 ?l13 ?c13 ?k13 ?a14 ?l14 ?c14 ?k14 ?a15 ?l15 ?c15 ?k15 ?a16 ?l16 ?c16 ?k16 ?a17 ?l17 ?c17 ?k17 ?a18 ?l18 ?c18 ?k18 ?a19 ?l19 ?c19 ?k19 ?a20 ?l20 ?c20 ?k20 ?a21 ?l21 ?c21 ?k21 ?a22 ?l22 ?c22 ?k22 ?a23 ?l23 ?c23 ?k23 ?a24 ?l24 ?c24 ?k24 ?z0 ?z1 ?z2 ?z3 ?z4 ?z5 ?z6 ?z7 ?z8 ?z9 ?z10 ?z11
    (case a0 => k_is)
    (case l0 => k_is)
    (case c0 => k_is)
    (case k0 => k_is)
    (case a1 => k_is)
    (case l1 => k_is)
    (case c1 => k_is)
    (case k1 => k_is)
    (case a2 => k_is)
    (case l2 => k_is)
    (case c2 => k_is)
    (case k2 => k_is)
    (case a3 => k_is)
    (case l3 => k_is)
    (case c3 => k_is)
    (case k3 => k_is)
    (case a4 => k_is)
    (case l4 => k_is)
    (case c4 => k_is)
    (case k4 => k_is)
    (case a5 => k_is)
    (case l5 => k_is)
    (case c5 => k_is)
    (case k5 => k_is)
    (case a6 => k_is)
    (case l6 => k_is)
    (case c6 => k_is)
    (case k6 => k_is)
    (case a7 => k_is)
    (case l7 => k_is)
    (case c7 => k_is)
    (case k7 => k_is)
    (case a8 => k_is)
    (case l8 => k_is)
    (case c8 => k_is)
    (case k8 => k_is)
    (case a9 => k_is)
    (case l9 => k_is)
    (case c9 => k_is)
    (case k9 => k_is)
    (case a10 => k_is)
    (case l10 => k_is)
    (case c10 => k_is)
    (case k10 => k_is)
    (case a11 => k_is)
    (case l11 => k_is)
    (case c11 => k_is)
    (case k11 => k_is)
    (case a12 => k_is)
    (case l12 => k_is)
    (case c12 => k_is)
    (case k12 => k_is)
    (case a13 => k_is)
    (case l13 => k_is)
    (case c13 => k_is)
    (case k13 => k_is)
    (case a14 => k_is)
    (case l14 => k_is)
    (case c14 => k_is)
    (case k14 => k_is)
    (case a15 => k_is)
    (case l15 => k_is)
    (case c15 => k_is)
    (case k15 => k_is)
    (case a16 => k_is)
    (case l16 => k_is)
    (case c16 => k_is)
    (case k16 => k_is)
    (case a17 => k_is)
    (case l17 => k_is)
    (case c17 => k_is)
    (case k17 => k_is)
    (case a18 => k_is)
    (case l18 => k_is)
    (case c18 => k_is)
    (case k18 => k_is)
    (case a19 => k_is)
    (case l19 => k_is)
    (case c19 => k_is)
    (case k19 => k_is)
    (case a20 => k_is)
    (case l20 => k_is)
    (case c20 => k_is)
    (case k20 => k_is)
    (case a21 => k_is)
    (case l21 => k_is)
    (case c21 => k_is)
    (case k21 => k_is)
    (case a22 => k_is)
    (case l22 => k_is)
    (case c22 => k_is)
    (case k22 => k_is)
    (case a23 => k_is)
    (case l23 => k_is)
    (case c23 => k_is)
    (case k23 => k_is)
    (case a24 => k_is)
    (case l24 => k_is)
    (case c24 => k_is)
    (case k24 => k_is)
    (case z0 => k_is)
    (case z1 => k_is)
    (case z2 => k_is)
    (case z3 => k_is)
    (case z4 => k_is)
    (case z5 => k_is)
    (case z6 => k_is)
    (case z7 => k_is)
    (case z8 => k_is)
    (case z9 => k_is)
    (case z10 => k_is)
    (case z11 => k_is)
