import PyProof.Rows.All
import Wide.All
import OpenK.AllK
import Wide.FinOn
import PySem.Challenge.RW_morethanhalf_k01_more_than_half
import HandS.ForMost
import HandS.ForExc
import HandS.Wide
import HandS.SortInts
import HandS.Deep
import HandS.Conv
import HandS.Style
import HandS.IsInst
import HandS.TupAny
import HandS.Zip
import HandS.TupLe
import KE.KDictList
set_option Elab.async false
set_option linter.all false
set_option maxRecDepth 100000
namespace DL
open PySem PySem.Spec PyProof.Rows L2

abbrev D := PyData

/-! ### data in a heap -/
mutual
inductive Rp (F : Hp) : V → D → Prop
  | non : Rp F .non .none
  | bl (b : Bool) : Rp F (.bl b) (.bool b)
  | int (i : Int) : Rp F (.int i) (.int i)
  | str (x : Str) : Rp F (.str x) (.str x)
  | lst {a : Addr} {xs : List V} {ds : List D} : Rd F a (.lst xs) → RpA F xs ds → Rp F (.ref a) (.list ds)
  | tup {a : Addr} {xs : List V} {ds : List D} : Rd F a (.tup xs) → RpA F xs ds → Rp F (.ref a) (.tuple ds)
inductive RpA (F : Hp) : List V → List D → Prop
  | nil : RpA F [] []
  | cons {v : V} {vs : List V} {d : D} {ds : List D} : Rp F v d → RpA F vs ds → RpA F (v :: vs) (d :: ds)
end

theorem Rd.same {F F' : Hp} {a : Addr} {o : HO} (s : Same F F') (h : Rd F a o) : Rd F' a o := by
  rcases h with h | ⟨u, h⟩
  · exact .inl (s _ _ h)
  · exact .inr ⟨u, s _ _ h⟩
mutual
theorem Rp.mono {F F' : Hp} (s : Same F F') : ∀ {v : V} {d : D}, Rp F v d → Rp F' v d
  | _, _, .non => .non
  | _, _, .bl b => .bl b
  | _, _, .int i => .int i
  | _, _, .str x => .str x
  | _, _, .lst h r => .lst (Rd.same s h) (RpA.mono s r)
  | _, _, .tup h r => .tup (Rd.same s h) (RpA.mono s r)
theorem RpA.mono {F F' : Hp} (s : Same F F') : ∀ {vs : List V} {ds : List D}, RpA F vs ds → RpA F' vs ds
  | _, _, .nil => .nil
  | _, _, .cons h r => .cons (Rp.mono s h) (RpA.mono s r)
end
mutual
theorem Rp.dp {K : PySem.W.Frag} {F H : Hp} (s : Same F H) : ∀ {v : V} {d : D}, Rp F v d → Dp K H v d
  | _, _, .non => .non
  | _, _, .bl b => .bl b
  | _, _, .int i => .int i
  | _, _, .str x => .str x
  | _, _, .lst h r => .lst (.inl (Rd.same s h)) (RpA.dp s r)
  | _, _, .tup h r => .tup (.inl (Rd.same s h)) (RpA.dp s r)
theorem RpA.dp {K : PySem.W.Frag} {F H : Hp} (s : Same F H) : ∀ {vs : List V} {ds : List D}, RpA F vs ds → DpAll K H vs ds
  | _, _, .nil => .nil
  | _, _, .cons h r => .cons (Rp.dp s h) (RpA.dp s r)
end
theorem RpA.len {F : Hp} : ∀ {vs : List V} {ds : List D}, RpA F vs ds → vs.length = ds.length
  | _, _, .nil => rfl
  | _, _, .cons _ r => by rw [List.length_cons, List.length_cons, RpA.len r]
theorem RpA.get {F : Hp} : ∀ {vs : List V} {ds : List D} {i : Nat} {d : D}, RpA F vs ds → ds[i]? = some d → ∃ v, vs[i]? = some v ∧ Rp F v d
  | _, _, _, _, .nil, e => by simp at e
  | _, _, 0, _, .cons h _, e => by simp at e; subst e; exact ⟨_, rfl, h⟩
  | _, _, i + 1, _, .cons _ r, e => by simpa using RpA.get r (by simpa using e)
theorem RpA.getV {F : Hp} : ∀ {vs : List V} {ds : List D} {i : Nat} {v : V}, RpA F vs ds → vs[i]? = some v → ∃ d, ds[i]? = some d ∧ Rp F v d
  | _, _, _, _, .nil, e => by simp at e
  | _, _, 0, _, .cons h _, e => by simp at e; subst e; exact ⟨_, rfl, h⟩
  | _, _, i + 1, _, .cons _ r, e => by simpa using RpA.getV r (by simpa using e)
theorem RpA.append {F : Hp} : ∀ {vs ws : List V} {ds es : List D}, RpA F vs ds → RpA F ws es → RpA F (vs ++ ws) (ds ++ es)
  | _, _, _, _, .nil, s => s
  | _, _, _, _, .cons h r, s => .cons h (RpA.append r s)
theorem RpA.take {F : Hp} : ∀ {vs : List V} {ds : List D} (n : Nat), RpA F vs ds → RpA F (vs.take n) (ds.take n)
  | _, _, 0, _ => .nil
  | _, _, _ + 1, .nil => .nil
  | _, _, n + 1, .cons h r => .cons h (RpA.take n r)
theorem RpA.drop {F : Hp} : ∀ {vs : List V} {ds : List D} (n : Nat), RpA F vs ds → RpA F (vs.drop n) (ds.drop n)
  | _, _, 0, r => r
  | _, _, _ + 1, .nil => .nil
  | _, _, n + 1, .cons _ r => RpA.drop n r
theorem RpA.set {F : Hp} {v : V} {d : D} (h : Rp F v d) : ∀ {vs : List V} {ds : List D} (i : Nat), RpA F vs ds → RpA F (vs.set i v) (ds.set i d)
  | _, _, _, .nil => .nil
  | _, _, 0, .cons _ r => .cons h r
  | _, _, i + 1, .cons g r => .cons g (RpA.set h i r)
theorem RpA.erase {F : Hp} : ∀ {vs : List V} {ds : List D} (i : Nat), RpA F vs ds → RpA F (vs.eraseIdx i) (ds.eraseIdx i)
  | _, _, _, .nil => .nil
  | _, _, 0, .cons _ r => r
  | _, _, i + 1, .cons g r => .cons g (RpA.erase i r)
theorem RpA.reverse {F : Hp} : ∀ {vs : List V} {ds : List D}, RpA F vs ds → RpA F vs.reverse ds.reverse
  | _, _, .nil => .nil
  | _, _, .cons h r => by rw [List.reverse_cons, List.reverse_cons]; exact (RpA.reverse r).append (.cons h .nil)
theorem RpA.ints (F : Hp) : ∀ ns : List Int, RpA F (ns.map V.int) (ns.map PyData.int)
  | [] => .nil
  | n :: r => .cons (.int n) (RpA.ints F r)
theorem RpA.ofInts {F : Hp} : ∀ {vs : List V} {ns : List Int}, RpA F vs (ns.map PyData.int) → vs = ns.map V.int
  | _, [], h => by cases h; rfl
  | _, n :: r, h => by
    cases h with
    | cons h1 h2 =>
      cases h1
      rw [RpA.ofInts h2]
      rfl
theorem RpA.rep {F : Hp} {vs : List V} {ds : List D} (h : RpA F vs ds) : ∀ k : Nat, RpA F (List.replicate k vs).flatten (List.replicate k ds).flatten
  | 0 => .nil
  | k + 1 => by
    rw [List.replicate_succ, List.replicate_succ, List.flatten_cons, List.flatten_cons]
    exact h.append (RpA.rep h k)

/-- scalars -/
def scal : D → Bool
  | .none => true
  | .bool _ => true
  | .int _ => true
  | .str _ => true
  | _ => false
theorem Rp.scal {F F' : Hp} {v : V} {d : D} (h : Rp F v d) (s : DL.scal d = true) : Rp F' v d := by
  cases h with
  | non => exact .non
  | bl b => exact .bl b
  | int i => exact .int i
  | str x => exact .str x
  | lst _ _ => cases s
  | tup _ _ => cases s
theorem RpA.scal {F F' : Hp} : ∀ {vs : List V} {ds : List D}, RpA F vs ds → ds.all DL.scal = true → RpA F' vs ds
  | _, _, .nil, _ => .nil
  | _, _, .cons h r, s => by
    simp only [List.all_cons, Bool.and_eq_true] at s
    exact .cons (h.scal s.1) (RpA.scal r s.2)

/-! ### regions -/
def emp : Hp := fun _ => none
def sgl (l : Addr) (o : HO) : Hp := fun a => if a = l then some o else none
def jn (F R : Hp) : Hp := fun a => match R a with | some o => some o | none => F a
def dj (F R : Hp) : Prop := ∀ a o, R a = some o → F a = none
def nwr (H F : Hp) : Hp := fun a => match H a with | some _ => none | none => F a
def nofz (R : Hp) : Prop := ∀ a ob u, R a ≠ some (.frz ob u)
def bsel (b : Bool) (N F : Hp) : Hp := match b with | true => N | false => F
theorem sgl_same {l : Addr} {o : HO} : sgl l o l = some o := by unfold sgl; rw [if_pos rfl]
theorem sgl_ne {l a : Addr} {o : HO} (h : a ≠ l) : sgl l o a = none := by unfold sgl; rw [if_neg h]
theorem sgl_some {l a : Addr} {o u : HO} (h : sgl l o a = some u) : a = l ∧ o = u := by
  unfold sgl at h
  split at h
  · exact ⟨by assumption, Option.some.inj h⟩
  · cases h
theorem nofz_sgl {l : Addr} {o : HO} (h : ∀ ob u, o ≠ .frz ob u) : nofz (sgl l o) := fun a ob u e => by
  obtain ⟨_, e⟩ := sgl_some e
  exact h ob u e
theorem sgl_same_iff {l : Addr} {o : HO} {H : Hp} (h : H l = some o) : Same (sgl l o) H := fun a u e => by
  obtain ⟨rfl, rfl⟩ := sgl_some e
  exact h
theorem jn_left {F R : Hp} (d : dj F R) : Same F (jn F R) := fun a o e => by
  unfold jn
  split
  · rename_i u q
    rw [d a u q] at e
    cases e
  · exact e
theorem jn_right {F R : Hp} : Same R (jn F R) := fun a o e => by
  unfold jn
  rw [e]
theorem jn_some {F R : Hp} {a : Addr} {o : HO} (h : jn F R a = some o) : R a = some o ∨ (R a = none ∧ F a = some o) := by
  unfold jn at h
  split at h
  · rename_i u q
    cases h
    exact .inl q
  · rename_i q
    exact .inr ⟨q, h⟩
theorem jn_none {F R : Hp} {a : Addr} (h : jn F R a = none) : R a = none ∧ F a = none := by
  unfold jn at h
  split at h
  · cases h
  · rename_i q
    exact ⟨q, h⟩
theorem jn_none_of {F R : Hp} {a : Addr} (h1 : R a = none) (h2 : F a = none) : jn F R a = none := by
  unfold jn
  rw [h1]
  exact h2
theorem jn_same {F R H : Hp} (h1 : Same F H) (h2 : Same R H) : Same (jn F R) H := fun a o e => by
  rcases jn_some e with e | ⟨_, e⟩
  · exact h2 _ _ e
  · exact h1 _ _ e
theorem jn_mono {F F' R : Hp} (h : Same F F') : Same (jn F R) (jn F' R) := fun a o e => by
  rcases jn_some e with e | ⟨n, e⟩
  · exact jn_right _ _ e
  · unfold jn
    rw [n]
    exact h _ _ e
theorem emp_same (H : Hp) : Same emp H := fun _ _ e => nomatch e
theorem bsel_mono {b : Bool} {N F N' F' : Hp} (h1 : Same N N') (h2 : Same F F') : Same (bsel b N F) (bsel b N' F') := by
  cases b
  · exact h2
  · exact h1
theorem bsel_sub {b : Bool} {N F : Hp} (h : Same N F) : Same (bsel b N F) F := by
  cases b
  · exact Same.refl F
  · exact h
theorem bsel_low {b : Bool} {N F : Hp} (h : Same N F) : Same (bsel b N F) (bsel false N F) := bsel_sub h
theorem bsel_and_l {b c : Bool} {N F : Hp} (h : Same N F) : Same (bsel b N F) (bsel (b && c) N F) := by
  cases b <;> cases c <;> first | exact Same.refl _ | exact h
theorem bsel_and_r {b c : Bool} {N F : Hp} (h : Same N F) : Same (bsel c N F) (bsel (b && c) N F) := by
  cases b <;> cases c <;> first | exact Same.refl _ | exact h

/-! ### slots, environments, tokens -/
inductive Slot where
  | un
  | fro (b : Bool) (d : D)
  | own (p b : Bool) (xs : List D)
  | ex (d : D)
  | lent
abbrev Env := List Slot
inductive Tok where
  | fz (b : Bool) (d : D)
  | sl (i : Nat)
  | nw (b : Bool) (xs : List D)
  | ex (d : D)

def SlotOk (B : Hp) (pn : Nat → Option Addr) (σ : L2.St) (F N : Hp) (i : Nat) (R : Hp) : Slot → Prop
  | .un => R = emp
  | .fro b d => R = emp ∧ ∃ v, σ[i]? = some (some v) ∧ Rp (bsel b N F) v d
  | .own p b xs => ∃ l vs, σ[i]? = some (some (.ref l)) ∧ R = sgl l (.lst vs) ∧ RpA (bsel b N F) vs xs ∧ (if p then pn i = some l else B l = none)
  | .ex d => ∃ v, σ[i]? = some (some v) ∧ Rp R v d ∧ dj B R ∧ nofz R
  | .lent => R = emp ∧ ∃ l, pn i = some l ∧ σ[i]? = some (some (.ref l))

/-- the state as the environment tells it -/
structure Ok (B : Hp) (pn : Nat → Option Addr) (env : Env) (σ : L2.St) (F N G : Hp) (Rg : Nat → Hp) (H : Hp) : Prop where
  len : env.length = σ.length
  sF : Same F H
  sN : Same N F
  sG : Same G H
  dG : dj F G
  nB : dj B N
  nZ : nofz N
  hB : ∀ a, H a = none → B a = none
  sl : ∀ i s, env[i]? = some s → SlotOk B pn σ F N i (Rg i) s
  sR : ∀ i, Same (Rg i) H
  dF : ∀ i, dj F (Rg i)
  dRG : ∀ i, dj G (Rg i)
  dR : ∀ i j, i ≠ j → dj (Rg i) (Rg j)
  out : ∀ i, env.length ≤ i → Rg i = emp

def TokOk (B : Hp) (σ : L2.St) (F N : Hp) (R : Hp) : Tok → V → Prop
  | .fz b d, v => R = emp ∧ Rp (bsel b N F) v d
  | .sl i, v => R = emp ∧ σ[i]? = some (some v)
  | .nw b xs, v => ∃ l vs, v = .ref l ∧ R = sgl l (.lst vs) ∧ RpA (bsel b N F) vs xs ∧ B l = none
  | .ex d, v => Rp R v d ∧ dj B R ∧ nofz R
/-- a token's region apart from all else -/
structure Apart (F G : Hp) (Rg : Nat → Hp) (H R : Hp) : Prop where
  sR : Same R H
  dF : dj F R
  dG : dj G R
  dR : ∀ i, dj (Rg i) R
theorem dj_comm {F R : Hp} (h : dj F R) : dj R F := fun a o e => by
  cases q : R a with
  | none => rfl
  | some u =>
    rw [h a u q] at e
    cases e
theorem dj_emp (F : Hp) : dj F emp := fun _ _ e => nomatch e
theorem emp_dj (F : Hp) : dj emp F := fun _ _ _ => rfl
theorem Apart.none {F G : Hp} {Rg : Nat → Hp} {H : Hp} : Apart F G Rg H emp := ⟨emp_same H, dj_emp _, dj_emp _, fun _ => dj_emp _⟩

/-! ### results of expressions -/
inductive ER where
  | ok (t : Tok) (e : Env)
  | exc (c : String) (e : Env)
  | bad
abbrev DE := Env → ER

/-- what is read without being kept -/
def rd (env : Env) : Tok → Option D
  | .fz _ d => some d
  | .nw _ xs => some (.list xs)
  | .ex d => some d
  | .sl i => match env[i]? with
    | some (.fro _ d) => some d
    | some (.own _ _ xs) => some (.list xs)
    | some (.ex d) => some d
    | _ => none
def rdT (env : Env) : Tok → Option (Bool × D)
  | .fz b d => some (b, d)
  | .nw b xs => some (b, .list xs)
  | .ex _ => none
  | .sl i => match env[i]? with
    | some (.fro b d) => some (b, d)
    | some (.own _ b xs) => some (b, .list xs)
    | _ => none

section
variable {B : Hp} {pn : Nat → Option Addr} {env : Env} {σ : L2.St} {F N G : Hp} {Rg : Nat → Hp} {H R : Hp}
theorem Ok.res (I : Ok B pn env σ F N G Rg H) (A : Apart F G Rg H R) : Ok B pn env σ F N (jn G R) Rg H where
  len := I.len
  sF := I.sF
  sN := I.sN
  sG := jn_same I.sG A.sR
  dG := fun a o e => by
    rcases jn_some e with e | ⟨_, e⟩
    · exact A.dF a o e
    · exact I.dG a o e
  nB := I.nB
  nZ := I.nZ
  hB := I.hB
  sl := I.sl
  sR := I.sR
  dF := I.dF
  dRG := fun i => dj_comm fun a o e => by
    rcases jn_some e with e | ⟨_, e⟩
    · exact A.dR i a o e
    · exact dj_comm (I.dRG i) a o e
  dR := I.dR
  out := I.out
theorem Ok.unres {G' : Hp} (I : Ok B pn env σ F N G' Rg H) (s : Same G G') : Ok B pn env σ F N G Rg H where
  len := I.len
  sF := I.sF
  sN := I.sN
  sG := s.trans I.sG
  dG := fun a o e => I.dG a o (s _ _ e)
  nB := I.nB
  nZ := I.nZ
  hB := I.hB
  sl := I.sl
  sR := I.sR
  dF := I.dF
  dRG := fun i => dj_comm fun a o e => dj_comm (I.dRG i) a o (s _ _ e)
  dR := I.dR
  out := I.out
theorem Apart.back {F2 : Hp} {Rg2 : Nat → Hp} {H2 : Hp} (I : Ok B pn env σ F2 N (jn G R) Rg2 H2) (d : dj G R) : Apart F2 G Rg2 H2 R where
  sR := fun a o e => I.sG _ _ (jn_right _ _ e)
  dF := fun a o e => I.dG a o (jn_right _ _ e)
  dG := d
  dR := fun i a o e => dj_comm (I.dRG i) a o (jn_right _ _ e)
theorem Ok.slot {i : Nat} {s : Slot} (I : Ok B pn env σ F N G Rg H) (e : env[i]? = some s) : SlotOk B pn σ F N i (Rg i) s := I.sl i s e
theorem SlotOk.mono {F' N' : Hp} {i : Nat} {s : Slot} (hF : Same F F') (hN : Same N N') (h : SlotOk B pn σ F N i R s) : SlotOk B pn σ F' N' i R s := by
  cases s with
  | un => exact h
  | fro b d =>
    obtain ⟨e, v, e1, r⟩ := h
    exact ⟨e, v, e1, r.mono (bsel_mono hN hF)⟩
  | own p b xs =>
    obtain ⟨l, vs, e1, e2, r, q⟩ := h
    exact ⟨l, vs, e1, e2, r.mono (bsel_mono hN hF), q⟩
  | ex d => exact h
  | lent => exact h
theorem TokOk.mono {F' N' : Hp} {t : Tok} {v : V} (hF : Same F F') (hN : Same N N') (h : TokOk B σ F N R t v) : TokOk B σ F' N' R t v := by
  cases t with
  | fz b d => exact ⟨h.1, h.2.mono (bsel_mono hN hF)⟩
  | sl i => exact h
  | nw b xs =>
    obtain ⟨l, vs, e1, e2, r, q⟩ := h
    exact ⟨l, vs, e1, e2, r.mono (bsel_mono hN hF), q⟩
  | ex d => exact h
/-- the heap grows -/
theorem Ok.grow {H' : Hp} (I : Ok B pn env σ F N G Rg H) (s : Same H H') : Ok B pn env σ F N G Rg H' where
  len := I.len
  sF := I.sF.trans s
  sN := I.sN
  sG := I.sG.trans s
  dG := I.dG
  nB := I.nB
  nZ := I.nZ
  hB := fun a e => I.hB a (s.free e)
  sl := I.sl
  sR := fun i => (I.sR i).trans s
  dF := I.dF
  dRG := I.dRG
  dR := I.dR
  out := I.out
theorem Apart.grow {H' : Hp} (A : Apart F G Rg H R) (s : Same H H') : Apart F G Rg H' R := ⟨A.sR.trans s, A.dF, A.dG, A.dR⟩
/-- a region apart is frozen -/
theorem Ok.frz (I : Ok B pn env σ F N G Rg H) (A : Apart F G Rg H R) : Ok B pn env σ (jn F R) N G Rg H where
  len := I.len
  sF := jn_same I.sF A.sR
  sN := I.sN.trans (jn_left A.dF)
  sG := I.sG
  dG := fun a o e => jn_none_of (dj_comm A.dG a o e) (I.dG a o e)
  nB := I.nB
  nZ := I.nZ
  hB := I.hB
  sl := fun i s e => (I.sl i s e).mono (jn_left A.dF) (Same.refl _)
  sR := I.sR
  dF := fun i a o e => jn_none_of (dj_comm (A.dR i) a o e) (I.dF i a o e)
  dRG := I.dRG
  dR := I.dR
  out := I.out
theorem Ok.frzN (I : Ok B pn env σ F N G Rg H) (A : Apart F G Rg H R) (nb : dj B R) (nz : nofz R) : Ok B pn env σ (jn F R) (jn N R) G Rg H where
  len := I.len
  sF := jn_same I.sF A.sR
  sN := jn_mono I.sN
  sG := I.sG
  dG := fun a o e => jn_none_of (dj_comm A.dG a o e) (I.dG a o e)
  nB := fun a o e => by
    rcases jn_some e with e | ⟨_, e⟩
    · exact nb a o e
    · exact I.nB a o e
  nZ := fun a ob u e => by
    rcases jn_some e with e | ⟨_, e⟩
    · exact nz a ob u e
    · exact I.nZ a ob u e
  hB := I.hB
  sl := fun i s e => (I.sl i s e).mono (jn_left A.dF) (jn_left fun a o e => by
    cases q : N a with
    | none => rfl
    | some u =>
      have := I.sN _ _ q
      rw [A.dF a o e] at this
      cases this)
  sR := I.sR
  dF := fun i a o e => jn_none_of (dj_comm (A.dR i) a o e) (I.dF i a o e)
  dRG := I.dRG
  dR := I.dR
  out := I.out
theorem Ok.djN (I : Ok B pn env σ F N G Rg H) (A : Apart F G Rg H R) : dj N R := fun a o e => by
  cases q : N a with
  | none => rfl
  | some u =>
    have := I.sN _ _ q
    rw [A.dF a o e] at this
    cases this
/-- a slot's region is taken off it -/
def offR (Rg : Nat → Hp) (i : Nat) : Nat → Hp := fun j => if j = i then emp else Rg j
def setR (Rg : Nat → Hp) (i : Nat) (R : Hp) : Nat → Hp := fun j => if j = i then R else Rg j
theorem setR_same {i : Nat} : setR Rg i R i = R := by unfold setR; rw [if_pos rfl]
theorem setR_ne {i j : Nat} (h : j ≠ i) : setR Rg i R j = Rg j := by unfold setR; rw [if_neg h]
/-- a slot is stored: its new region apart from all but its old one -/
theorem Ok.put {σ' : L2.St} {i : Nat} {s : Slot} (I : Ok B pn env σ F N G Rg H) (hi : i < env.length) (hs : SlotOk B pn σ' F N i R s) (sR : Same R H) (dF : dj F R) (dG : dj G R) (dR : ∀ j, j ≠ i → dj (Rg j) R)
    (hσ : ∀ j, j ≠ i → σ'[j]? = σ[j]?) (hl : σ'.length = σ.length) : Ok B pn (env.set i s) σ' F N G (setR Rg i R) H where
  len := by rw [List.length_set, hl]; exact I.len
  sF := I.sF
  sN := I.sN
  sG := I.sG
  dG := I.dG
  nB := I.nB
  nZ := I.nZ
  hB := I.hB
  sl := fun j t e => by
    by_cases hj : j = i
    · subst hj
      rw [List.getElem?_set_self hi] at e
      cases e
      rw [setR_same]
      exact hs
    · rw [List.getElem?_set_ne (Ne.symm hj)] at e
      rw [setR_ne hj]
      have h := I.sl j t e
      cases t with
      | un => exact h
      | fro b d =>
        obtain ⟨z, v, e1, r⟩ := h
        exact ⟨z, v, (hσ j hj).trans e1, r⟩
      | own p b xs =>
        obtain ⟨l, vs, e1, e2, r, q⟩ := h
        exact ⟨l, vs, (hσ j hj).trans e1, e2, r, q⟩
      | ex d =>
        obtain ⟨v, e1, r⟩ := h
        exact ⟨v, (hσ j hj).trans e1, r⟩
      | lent =>
        obtain ⟨z, l, e0, e1⟩ := h
        exact ⟨z, l, e0, (hσ j hj).trans e1⟩
  sR := fun j => by
    by_cases hj : j = i
    · subst hj; rw [setR_same]; exact sR
    · rw [setR_ne hj]; exact I.sR j
  dF := fun j => by
    by_cases hj : j = i
    · subst hj; rw [setR_same]; exact dF
    · rw [setR_ne hj]; exact I.dF j
  dRG := fun j => by
    by_cases hj : j = i
    · subst hj; rw [setR_same]; exact dG
    · rw [setR_ne hj]; exact I.dRG j
  dR := fun j k h => by
    by_cases hj : j = i
    · subst hj
      have hk : k ≠ j := fun z => h z.symm
      rw [setR_same, setR_ne hk]
      exact dj_comm (dR k hk)
    · rw [setR_ne hj]
      by_cases hk : k = i
      · subst hk; rw [setR_same]; exact dR j hj
      · rw [setR_ne hk]; exact I.dR j k h
  out := fun j h => by
    rw [List.length_set] at h
    have hj : j ≠ i := fun z => by subst z; exact absurd hi (Nat.not_lt.mpr h)
    rw [setR_ne hj]
    exact I.out j h
end
end DL
namespace DL
open PySem PySem.Spec PyProof.Rows L2
section
variable {B : Hp} {pn : Nat → Option Addr} {env : Env} {σ : L2.St} {F N G : Hp} {Rg : Nat → Hp} {H R : Hp}
theorem upd_Same {H : Hp} {p : Addr} {o : HO} (h : H p = none) : Same H (upd H p o) := fun b x e => by
  rw [upd_ne (ne_of_none e h)]
  exact e
theorem dj_sgl {F : Hp} {l : Addr} {o : HO} (h : F l = none) : dj F (sgl l o) := fun a u e => by
  obtain ⟨rfl, _⟩ := sgl_some e
  exact h
theorem Ok.fresh (I : Ok B pn env σ F N G Rg H) {l : Addr} {o : HO} (h : H l = none) : Apart F G Rg (upd H l o) (sgl l o) :=
  ⟨sgl_same_iff upd_same, dj_sgl (I.sF.free h), dj_sgl (I.sG.free h), fun i => dj_sgl ((I.sR i).free h)⟩
theorem Ok.slotLt {i : Nat} {s : Slot} (e : env[i]? = some s) : i < env.length := (List.getElem?_eq_some_iff.mp e).1
/-- a slot's own region, taken off -/
theorem Ok.off {i : Nat} (I : Ok B pn env σ F N G Rg H) (hi : i < env.length) : Ok B pn (env.set i .un) σ F N G (setR Rg i emp) H :=
  I.put hi rfl (emp_same _) (dj_emp _) (dj_emp _) (fun _ _ => dj_emp _) (fun _ _ => rfl) rfl
theorem Ok.offApart {i : Nat} (I : Ok B pn env σ F N G Rg H) : Apart F G (setR Rg i emp) H (Rg i) :=
  ⟨I.sR i, I.dF i, I.dRG i, fun j => by
    by_cases h : j = i
    · subst h; rw [setR_same]; exact emp_dj _
    · rw [setR_ne h]; exact I.dR j i h⟩
theorem set_set {α : Type} {l : List α} {i : Nat} {a b : α} : (l.set i a).set i b = l.set i b := by
  rw [List.set_set]
theorem setR_setR {i : Nat} {R R' : Hp} : setR (setR Rg i R) i R' = setR Rg i R' := by
  funext j; unfold setR; split <;> rfl
theorem Ok.freeze {i : Nat} {b : Bool} {d : D} {v : V} (I : Ok B pn env σ F N G Rg H) (hi : i < env.length) (hv : σ[i]? = some (some v)) (hB : dj B (Rg i)) (hZ : nofz (Rg i))
    (hr : ∀ F' N', Same F F' → Same N N' → Same (Rg i) (bsel b N' F') → Rp (bsel b N' F') v d) :
    ∃ F' N' Rg', Ok B pn (env.set i (.fro b d)) σ F' N' G Rg' H ∧ Same F F' ∧ Same N N' ∧ Rp (bsel b N' F') v d := by
  have I1 := I.off hi
  have A1 := I.offApart (i := i)
  cases b with
  | true =>
    have I2 := I1.frzN A1 hB hZ
    have hN := I1.djN A1
    have r := hr _ _ (jn_left A1.dF) (jn_left hN) (show Same (Rg i) (jn N (Rg i)) from jn_right)
    have I3 := I2.put (σ' := σ) (i := i) (s := .fro true d) (R := emp) (by rw [List.length_set]; exact hi) ⟨rfl, v, hv, r⟩ (emp_same _) (dj_emp _) (dj_emp _) (fun _ _ => dj_emp _) (fun _ _ => rfl) rfl
    rw [set_set] at I3
    exact ⟨_, _, _, I3, jn_left A1.dF, jn_left hN, r⟩
  | false =>
    have I2 := I1.frz A1
    have r := hr _ N (jn_left A1.dF) (Same.refl _) (show Same (Rg i) (jn F (Rg i)) from jn_right)
    have I3 := I2.put (σ' := σ) (i := i) (s := .fro false d) (R := emp) (by rw [List.length_set]; exact hi) ⟨rfl, v, hv, r⟩ (emp_same _) (dj_emp _) (dj_emp _) (fun _ _ => dj_emp _) (fun _ _ => rfl) rfl
    rw [set_set] at I3
    exact ⟨_, _, _, I3, jn_left A1.dF, Same.refl _, r⟩
/-- a token's value is kept: its region frozen -/
def take (env : Env) : Tok → Option (Bool × D × Env)
  | .fz b d => some (b, d, env)
  | .nw b xs => some (b, .list xs, env)
  | .ex d => some (true, d, env)
  | .sl i => match env[i]? with
    | some (.fro b d) => some (b, d, env)
    | some (.own false b xs) => some (b, .list xs, env.set i (.fro b (.list xs)))
    | some (.ex d) => some (true, d, env.set i (.fro true d))
    | _ => none
theorem lst_of {b : Bool} {N F : Hp} {l : Addr} {vs : List V} {xs : List D} (h : Same (sgl l (.lst vs)) (bsel b N F)) (r : RpA (bsel b N F) vs xs) : Rp (bsel b N F) (.ref l) (.list xs) :=
  .lst (.inl (h _ _ sgl_same)) r
theorem dj_B_sgl {l : Addr} {o : HO} (h : B l = none) : dj B (sgl l o) := dj_sgl h
theorem take_ok {t : Tok} {v : V} {b : Bool} {d : D} {e' : Env} (I : Ok B pn env σ F N G Rg H) (T : TokOk B σ F N R t v) (A : Apart F G Rg H R) (h : take env t = some (b, d, e')) :
    ∃ F' N' Rg', Ok B pn e' σ F' N' G Rg' H ∧ Same F F' ∧ Same N N' ∧ Rp (bsel b N' F') v d := by
  cases t with
  | fz b0 d0 =>
    obtain ⟨rfl, rfl, rfl⟩ : b0 = b ∧ d0 = d ∧ env = e' := by
      simp only [take, Option.some.injEq, Prod.mk.injEq] at h
      exact h
    exact ⟨F, N, Rg, I, Same.refl _, Same.refl _, T.2⟩
  | nw b0 xs =>
    obtain ⟨rfl, rfl, rfl⟩ : b0 = b ∧ .list xs = d ∧ env = e' := by
      simp only [take, Option.some.injEq, Prod.mk.injEq] at h
      exact h
    obtain ⟨l, vs, rfl, rfl, r, q⟩ := T
    cases b0 with
    | true => 
      have hN := I.djN A
      exact ⟨_, _, _, I.frzN A (dj_B_sgl q) (nofz_sgl (by intro _ _ z; cases z)), jn_left A.dF, jn_left hN, lst_of (b := true) jn_right (r.mono (jn_left hN))⟩
    | false => exact ⟨_, _, _, I.frz A, jn_left A.dF, Same.refl _, lst_of (b := false) (N := N) jn_right (r.mono (jn_left A.dF))⟩
  | ex d0 =>
    obtain ⟨rfl, rfl, rfl⟩ : true = b ∧ d0 = d ∧ env = e' := by
      simp only [take, Option.some.injEq, Prod.mk.injEq] at h
      exact h
    obtain ⟨r, q, nz⟩ := T
    have hN := I.djN A
    exact ⟨_, _, _, I.frzN A q nz, jn_left A.dF, jn_left hN, (show Rp (jn N R) v d0 from r.mono jn_right)⟩
  | sl i =>
    obtain ⟨_, hv⟩ := T
    simp only [take] at h
    cases e : env[i]? with
    | none => rw [e] at h; cases h
    | some s =>
      rw [e] at h
      have S := I.sl i s e
      have hi := Ok.slotLt e
      cases s with
      | un => cases h
      | lent => cases h
      | fro b0 d0 =>
        simp only [Option.some.injEq, Prod.mk.injEq] at h
        obtain ⟨rfl, rfl, rfl⟩ := h
        obtain ⟨_, w, e1, r⟩ := S
        rw [hv] at e1
        cases e1
        exact ⟨F, N, Rg, I, Same.refl _, Same.refl _, r⟩
      | own p b0 xs =>
        cases p with
        | true => cases h
        | false =>
          simp only [Option.some.injEq, Prod.mk.injEq] at h
          obtain ⟨rfl, rfl, rfl⟩ := h
          obtain ⟨l, vs, e1, e2, r, q⟩ := S
          rw [hv] at e1
          cases e1
          refine I.freeze hi hv (by rw [e2]; exact dj_B_sgl q) (by rw [e2]; exact nofz_sgl (by intro _ _ z; cases z)) fun F' N' hF hN hs => ?_
          rw [e2] at hs
          exact lst_of hs (r.mono (bsel_mono hN hF))
      | ex d0 =>
        simp only [Option.some.injEq, Prod.mk.injEq] at h
        obtain ⟨rfl, rfl, rfl⟩ := h
        obtain ⟨w, e1, r, q, nz⟩ := S
        rw [hv] at e1
        cases e1
        exact I.freeze hi hv q nz fun F' N' hF hN hs => r.mono hs
/-- what is read stands in the heap -/
theorem rd_ok {t : Tok} {v : V} {d : D} (I : Ok B pn env σ F N G Rg H) (T : TokOk B σ F N R t v) (sR : Same R H) (h : rd env t = some d) : Rp H v d := by
  have hb : ∀ b, Same (bsel b N F) H := fun b => (bsel_sub I.sN).trans I.sF
  cases t with
  | fz b0 d0 => cases h; exact T.2.mono (hb _)
  | nw b0 xs =>
    cases h
    obtain ⟨l, vs, rfl, rfl, r, q⟩ := T
    exact .lst (.inl (sR _ _ sgl_same)) (r.mono (hb _))
  | ex d0 => cases h; exact T.1.mono sR
  | sl i =>
    obtain ⟨_, hv⟩ := T
    simp only [rd] at h
    cases e : env[i]? with
    | none => rw [e] at h; cases h
    | some s =>
      rw [e] at h
      have S := I.sl i s e
      cases s with
      | un => cases h
      | lent => cases h
      | fro b0 d0 =>
        cases h
        obtain ⟨_, w, e1, r⟩ := S
        rw [hv] at e1
        cases e1
        exact r.mono (hb _)
      | own p b0 xs =>
        cases h
        obtain ⟨l, vs, e1, e2, r, q⟩ := S
        rw [hv] at e1
        cases e1
        have s := I.sR i
        rw [e2] at s
        exact .lst (.inl (s _ _ sgl_same)) (r.mono (hb _))
      | ex d0 =>
        cases h
        obtain ⟨w, e1, r, q⟩ := S
        rw [hv] at e1
        cases e1
        exact r.mono (I.sR i)

/-! ### lists of tokens -/
def ToksOk (B : Hp) (σ : L2.St) (F N : Hp) (Rg : Nat → Hp) (H : Hp) : Hp → List Tok → List V → Prop
  | _, [], vs => vs = []
  | G, t :: ts, vs => ∃ v r R, vs = v :: r ∧ TokOk B σ F N R t v ∧ Apart F G Rg H R ∧ ToksOk B σ F N Rg H (jn G R) ts r
def rds (env : Env) : List Tok → Option (List D)
  | [] => some []
  | t :: ts => match rd env t with
    | none => none
    | some d => match rds env ts with
      | none => none
      | some ds => some (d :: ds)
theorem rds_ok : ∀ {ts : List Tok} {vs : List V} {ds : List D} {G : Hp}, Ok B pn env σ F N G Rg H → ToksOk B σ F N Rg H G ts vs → rds env ts = some ds → RpA H vs ds
  | [], vs, ds, G, I, T, h => by
    cases h
    have e : vs = [] := T
    subst e
    exact .nil
  | t :: ts, vs, ds, G, I, T, h => by
    obtain ⟨v, r, R, rfl, t1, a1, tr⟩ := T
    simp only [rds] at h
    cases e1 : rd env t with
    | none => rw [e1] at h; cases h
    | some d =>
      rw [e1] at h
      cases e2 : rds env ts with
      | none => rw [e2] at h; cases h
      | some ds' =>
        rw [e2] at h
        cases h
        exact .cons (rd_ok I t1 a1.sR e1) (rds_ok (I.res a1) tr e2)
/-- tagged data in the frozen regions -/
def RpB (N F : Hp) : List V → List (Bool × D) → Prop
  | vs, [] => vs = []
  | vs, (b, d) :: ps => ∃ v r, vs = v :: r ∧ Rp (bsel b N F) v d ∧ RpB N F r ps
theorem RpB.mono {N F N' F' : Hp} (hN : Same N N') (hF : Same F F') : ∀ {ps : List (Bool × D)} {vs : List V}, RpB N F vs ps → RpB N' F' vs ps
  | [], _, h => h
  | (b, d) :: ps, _, h => by
    obtain ⟨v, r, e, h1, h2⟩ := h
    exact ⟨v, r, e, h1.mono (bsel_mono hN hF), h2.mono hN hF⟩
def tagAll : List (Bool × D) → Bool
  | [] => true
  | (b, _) :: ps => b && tagAll ps
theorem RpB.all {N F : Hp} (s : Same N F) : ∀ {ps : List (Bool × D)} {vs : List V}, RpB N F vs ps → RpA (bsel (tagAll ps) N F) vs (ps.map (·.2))
  | [], vs, h => by
    have e : vs = [] := h
    subst e
    exact .nil
  | (b, d) :: ps, vs, h => by
    obtain ⟨v, r, rfl, h1, h2⟩ := h
    exact .cons (h1.mono (bsel_and_l s)) (h2.all s |>.mono (bsel_and_r s))
def takes (env : Env) : List Tok → Option (List (Bool × D) × Env)
  | [] => some ([], env)
  | t :: ts => match takes env ts with
    | none => none
    | some (ps, e1) => match take e1 t with
      | none => none
      | some (b, d, e2) => some ((b, d) :: ps, e2)
theorem TokOk.ext {F' N' : Hp} {t : Tok} {v : V} (hF : Same F F') (hN : Same N N') (h : TokOk B σ F N R t v) : TokOk B σ F' N' R t v := h.mono hF hN
theorem takes_ok : ∀ {ts : List Tok} {vs : List V} {ps : List (Bool × D)} {e' : Env} {G : Hp}, Ok B pn env σ F N G Rg H → ToksOk B σ F N Rg H G ts vs → takes env ts = some (ps, e') →
    ∃ F' N' Rg', Ok B pn e' σ F' N' G Rg' H ∧ Same F F' ∧ Same N N' ∧ RpB N' F' vs ps
  | [], vs, ps, e', G, I, T, h => by
    cases h
    have e : vs = [] := T
    subst e
    exact ⟨F, N, Rg, I, Same.refl _, Same.refl _, rfl⟩
  | t :: ts, vs, ps, e', G, I, T, h => by
    obtain ⟨v, r, R, rfl, t1, a1, tr⟩ := T
    simp only [takes] at h
    cases e1 : takes env ts with
    | none => rw [e1] at h; cases h
    | some q =>
      obtain ⟨ps', en⟩ := q
      rw [e1] at h
      simp only at h
      cases e2 : take en t with
      | none => rw [e2] at h; cases h
      | some q =>
        obtain ⟨b, d, en2⟩ := q
        rw [e2] at h
        cases h
        obtain ⟨F1, N1, Rg1, I1, hF1, hN1, r1⟩ := takes_ok (I.res a1) tr e1
        have A1 : Apart F1 G Rg1 H R := .back I1 a1.dG
        obtain ⟨F2, N2, Rg2, I2, hF2, hN2, r2⟩ := take_ok (I1.unres (jn_left a1.dG)) (t1.mono hF1 hN1) A1 e2
        exact ⟨F2, N2, Rg2, I2, hF1.trans hF2, hN1.trans hN2, v, r, rfl, r2, r1.mono hN2 hF2⟩
/-- a view: frozen, or a list that stands by itself -/
def Vw (N F H : Hp) (v : V) (b : Bool) (d : D) : Prop := Rp (bsel b N F) v d ∨ ∃ l vs xs, v = .ref l ∧ d = .list xs ∧ H l = some (.lst vs) ∧ RpA (bsel b N F) vs xs
def Vws (N F H : Hp) : List V → List (Bool × D) → Prop
  | vs, [] => vs = []
  | vs, (b, d) :: ps => ∃ v r, vs = v :: r ∧ Vw N F H v b d ∧ Vws N F H r ps
theorem Vw.mono {N F N' F' H H' : Hp} {v : V} {b : Bool} {d : D} (hN : Same N N') (hF : Same F F') (hH : Same H H') (h : Vw N F H v b d) : Vw N' F' H' v b d := by
  rcases h with h | ⟨l, vs, xs, e1, e2, e3, r⟩
  · exact .inl (h.mono (bsel_mono hN hF))
  · exact .inr ⟨l, vs, xs, e1, e2, hH _ _ e3, r.mono (bsel_mono hN hF)⟩
theorem Vws.mono {N F N' F' H H' : Hp} (hN : Same N N') (hF : Same F F') (hH : Same H H') : ∀ {ps : List (Bool × D)} {vs : List V}, Vws N F H vs ps → Vws N' F' H' vs ps
  | [], _, h => h
  | (b, d) :: ps, _, h => by
    obtain ⟨v, r, e, h1, h2⟩ := h
    exact ⟨v, r, e, h1.mono hN hF hH, h2.mono hN hF hH⟩
def view (env : Env) : Tok → Option (Bool × D × Env)
  | .nw b xs => some (b, .list xs, env)
  | .sl i => match env[i]? with
    | some (.fro b d) => some (b, d, env)
    | some (.own _ b xs) => some (b, .list xs, env)
    | some (.ex d) => some (true, d, env.set i (.fro true d))
    | _ => none
  | .fz b d => some (b, d, env)
  | .ex d => some (true, d, env)
def views (env : Env) : List Tok → Option (List (Bool × D) × Env)
  | [] => some ([], env)
  | t :: ts => match views env ts with
    | none => none
    | some (ps, e1) => match view e1 t with
      | none => none
      | some (b, d, e2) => some ((b, d) :: ps, e2)
theorem view_ok {t : Tok} {v : V} {b : Bool} {d : D} {e' : Env} (I : Ok B pn env σ F N G Rg H) (T : TokOk B σ F N R t v) (A : Apart F G Rg H R) (h : view env t = some (b, d, e')) :
    ∃ F' N' Rg', Ok B pn e' σ F' N' G Rg' H ∧ Same F F' ∧ Same N N' ∧ Vw N' F' H v b d := by
  have tk : take env t = some (b, d, e') → ∃ F' N' Rg', Ok B pn e' σ F' N' G Rg' H ∧ Same F F' ∧ Same N N' ∧ Vw N' F' H v b d := fun h => by
    obtain ⟨F', N', Rg', I', hF, hN, r⟩ := take_ok I T A h
    exact ⟨F', N', Rg', I', hF, hN, .inl r⟩
  cases t with
  | fz b0 d0 => exact tk h
  | ex d0 => exact tk h
  | nw b0 xs =>
    cases h
    obtain ⟨l, vs, rfl, rfl, r, q⟩ := T
    exact ⟨F, N, Rg, I, Same.refl _, Same.refl _, .inr ⟨l, vs, xs, rfl, rfl, A.sR _ _ sgl_same, r⟩⟩
  | sl i =>
    simp only [view] at h
    cases e : env[i]? with
    | none => rw [e] at h; cases h
    | some s =>
      rw [e] at h
      cases s with
      | un => cases h
      | lent => cases h
      | fro b0 d0 => exact tk (by simp only [take]; rw [e]; exact h)
      | ex d0 => exact tk (by simp only [take]; rw [e]; exact h)
      | own p b0 xs =>
        cases h
        obtain ⟨l, vs, e1, e2, r, q⟩ := I.sl i _ e
        rw [T.2] at e1
        cases e1
        have s := I.sR i
        rw [e2] at s
        exact ⟨F, N, Rg, I, Same.refl _, Same.refl _, .inr ⟨l, vs, xs, rfl, rfl, s _ _ sgl_same, r⟩⟩
theorem views_ok : ∀ {ts : List Tok} {vs : List V} {ps : List (Bool × D)} {e' : Env} {G : Hp}, Ok B pn env σ F N G Rg H → ToksOk B σ F N Rg H G ts vs → views env ts = some (ps, e') →
    ∃ F' N' Rg', Ok B pn e' σ F' N' G Rg' H ∧ Same F F' ∧ Same N N' ∧ Vws N' F' H vs ps
  | [], vs, ps, e', G, I, T, h => by
    cases h
    have e : vs = [] := T
    subst e
    exact ⟨F, N, Rg, I, Same.refl _, Same.refl _, rfl⟩
  | t :: ts, vs, ps, e', G, I, T, h => by
    obtain ⟨v, r, R, rfl, t1, a1, tr⟩ := T
    simp only [views] at h
    cases e1 : views env ts with
    | none => rw [e1] at h; cases h
    | some q =>
      obtain ⟨ps', en⟩ := q
      rw [e1] at h
      simp only at h
      cases e2 : view en t with
      | none => rw [e2] at h; cases h
      | some q =>
        obtain ⟨b, d, en2⟩ := q
        rw [e2] at h
        cases h
        obtain ⟨F1, N1, Rg1, I1, hF1, hN1, r1⟩ := views_ok (I.res a1) tr e1
        have A1 : Apart F1 G Rg1 H R := .back I1 a1.dG
        obtain ⟨F2, N2, Rg2, I2, hF2, hN2, r2⟩ := view_ok (I1.unres (jn_left a1.dG)) (t1.mono hF1 hN1) A1 e2
        exact ⟨F2, N2, Rg2, I2, hF1.trans hF2, hN1.trans hN2, v, r, rfl, r2, r1.mono hN2 hF2 (Same.refl _)⟩
end

/-! ### readings -/
/-- what is wanted behind an evaluation -/
def Aft (B : Hp) (pn : Nat → Option Addr) (σ : L2.St) (F N G : Hp) (W : L2.WX) (cm : String → Addr) (Q : VK) : ER → Prop
  | .ok t e' => ∀ v F' N' Rg' H' R, Ok B pn e' σ F' N' G Rg' H' → Same F F' → Same N N' → TokOk B σ F' N' R t v → Apart F' G Rg' H' R → Q v H'
  | .exc c e' => ∀ F' N' Rg' H', Ok B pn e' σ F' N' G Rg' H' → Same F F' → Same N N' → W (.ref (cm c)) none σ H'
  | .bad => False
def tD (W : L2.WX) (cm : String → Addr) (f : DE) : TE := fun σ H Q => ∃ B pn F N G Rg env, Ok B pn env σ F N G Rg H ∧ Aft B pn σ F N G W cm Q (f env)
theorem Aft.imp {B : Hp} {pn : Nat → Option Addr} {σ : L2.St} {F N G : Hp} {W : L2.WX} {cm : String → Addr} {Q Q' : VK} {r : ER} (h : Aft B pn σ F N G W cm Q r) (k : ∀ v H, Q v H → Q' v H) : Aft B pn σ F N G W cm Q' r := by
  cases r with
  | ok t e' => exact fun v F' N' Rg' H' R I hF hN T A => k _ _ (h v F' N' Rg' H' R I hF hN T A)
  | exc c e' => exact h
  | bad => exact h
theorem PEimp {X : Cx} {e : Expr} {t t' : TE} (h : PE X e t) (k : ∀ σ H Q, t' σ H Q → t σ H Q) : PE X e t' := ⟨fun pins s σ H Q I hw => h.run pins s σ H Q I (k _ _ _ hw)⟩
theorem PSimp {X : Cx} {e : Stmt} {t t' : TS} (h : PS X e t) (k : ∀ D σ H, t' D σ H → t D σ H) : PS X e t' := ⟨fun pins s σ H D I hw => h.run pins s σ H D I (k _ _ _ hw)⟩
theorem PSsimp {X : Cx} {e : List Stmt} {t t' : TS} (h : PSs X e t) (k : ∀ D σ H, t' D σ H → t D σ H) : PSs X e t' := ⟨fun pins s σ H D I hw => h.run pins s σ H D I (k _ _ _ hw)⟩
inductive AR where
  | ok (ts : List Tok) (e : Env)
  | exc (c : String) (e : Env)
  | bad
def dArgs : List DE → Env → AR
  | [], env => .ok [] env
  | f :: fs, env => match f env with
    | .ok t e1 => match dArgs fs e1 with
      | .ok ts e2 => .ok (t :: ts) e2
      | .exc c e2 => .exc c e2
      | .bad => .bad
    | .exc c e1 => .exc c e1
    | .bad => .bad
def tAD (W : L2.WX) (cm : String → Addr) : List DE → TA
  | [] => tNil
  | f :: fs => tCons (tD W cm f) (tAD W cm fs)
def AftA (B : Hp) (pn : Nat → Option Addr) (σ : L2.St) (F N G : Hp) (W : L2.WX) (cm : String → Addr) (Q : List V → Hp → Prop) : AR → Prop
  | .ok ts e' => ∀ vs F' N' Rg' H', Ok B pn e' σ F' N' G Rg' H' → Same F F' → Same N N' → ToksOk B σ F' N' Rg' H' G ts vs → Q vs H'
  | .exc c e' => ∀ F' N' Rg' H', Ok B pn e' σ F' N' G Rg' H' → Same F F' → Same N N' → W (.ref (cm c)) none σ H'
  | .bad => False
theorem args_read {W : L2.WX} {cm : String → Addr} {B : Hp} {pn : Nat → Option Addr} {σ : L2.St} : ∀ {fs : List DE} {F N G : Hp} {Rg : Nat → Hp} {H : Hp} {env : Env} {Q : List V → Hp → Prop}, Ok B pn env σ F N G Rg H → AftA B pn σ F N G W cm Q (dArgs fs env) → tAD W cm fs σ H Q
  | [], F, N, G, Rg, H, env, Q, I, h => h [] F N Rg H I (Same.refl _) (Same.refl _) rfl
  | f :: fs, F, N, G, Rg, H, env, Q, I, h => by
    refine ⟨B, pn, F, N, G, Rg, env, I, ?_⟩
    simp only [dArgs] at h
    cases e1 : f env with
    | bad => rw [e1] at h; exact h
    | exc c en => rw [e1] at h; exact h
    | ok t en =>
      rw [e1] at h
      intro v F1 N1 Rg1 H1 R1 I1 hF1 hN1 T1 A1
      refine args_read (I1.res A1) ?_
      simp only at h
      cases e2 : dArgs fs en with
      | bad => rw [e2] at h; exact h
      | exc c en2 =>
        rw [e2] at h
        exact fun F2 N2 Rg2 H2 I2 hF2 hN2 => h F2 N2 Rg2 H2 (I2.unres (jn_left A1.dG)) (hF1.trans hF2) (hN1.trans hN2)
      | ok ts en2 =>
        rw [e2] at h
        exact fun vs F2 N2 Rg2 H2 I2 hF2 hN2 T2 => h (v :: vs) F2 N2 Rg2 H2 (I2.unres (jn_left A1.dG)) (hF1.trans hF2) (hN1.trans hN2) ⟨v, vs, R1, rfl, T1.mono hF2 hN2, .back I2 A1.dG, T2⟩
/-- an operation on evaluated arguments -/
def dAp (op : List Tok → Env → ER) (fs : List DE) : DE := fun env => match dArgs fs env with
  | .ok ts e => op ts e
  | .exc c e => .exc c e
  | .bad => .bad
def ApR (W : L2.WX) (cm : String → Addr) (op : List Tok → Env → ER) (r : L2.St → List V → Hp → VK → Prop) : Prop :=
  ∀ {B : Hp} {pn : Nat → Option Addr} {env : Env} {σ : L2.St} {F N G : Hp} {Rg : Nat → Hp} {H : Hp} {ts : List Tok} {vs : List V} {Q : VK}, Ok B pn env σ F N G Rg H → ToksOk B σ F N Rg H G ts vs → Aft B pn σ F N G W cm Q (op ts env) → r σ vs H Q
theorem Aft.low {B : Hp} {pn : Nat → Option Addr} {σ : L2.St} {F N G F1 N1 : Hp} {W : L2.WX} {cm : String → Addr} {Q : VK} {r : ER} (hF : Same F F1) (hN : Same N N1) (h : Aft B pn σ F N G W cm Q r) : Aft B pn σ F1 N1 G W cm Q r := by
  cases r with
  | ok t e' => exact fun v F' N' Rg' H' R I hF' hN' T A => h v F' N' Rg' H' R I (hF.trans hF') (hN.trans hN') T A
  | exc c e' => exact fun F' N' Rg' H' I hF' hN' => h F' N' Rg' H' I (hF.trans hF') (hN.trans hN')
  | bad => exact h
theorem ap_read {W : L2.WX} {cm : String → Addr} {op : List Tok → Env → ER} {r : L2.St → List V → Hp → VK → Prop} {fs : List DE} (ho : ApR W cm op r) {σ : L2.St} {H : Hp} {Q : VK} (h : tD W cm (dAp op fs) σ H Q) : tAD W cm fs σ H fun vs H' => r σ vs H' Q := by
  obtain ⟨B, pn, F, N, G, Rg, env, I, h⟩ := h
  refine args_read I ?_
  unfold dAp at h
  cases e : dArgs fs env with
  | bad => rw [e] at h; exact h
  | exc c en => rw [e] at h; exact h
  | ok ts en =>
    rw [e] at h
    exact fun vs F1 N1 Rg1 H1 I1 hF1 hN1 T1 => ho I1 T1 (h.low hF1 hN1)

/-! ### operations that only look -/
/-- the result is a scalar -/
def ScR (r : L2.St → List V → Hp → VK → Prop) (op : List D → Option D) : Prop := ∀ (σ : L2.St) (H : Hp) (vs : List V) (ds : List D) (d : D) (Q : VK), RpA H vs ds → op ds = some d → (∀ v, Rp emp v d → Q v H) → r σ vs H Q
def opSc (op : List D → Option D) : List Tok → Env → ER := fun ts env => match rds env ts with
  | none => .bad
  | some ds => match op ds with
    | none => .bad
    | some d => .ok (.fz true d) env
theorem ap_sc {W : L2.WX} {cm : String → Addr} {op : List D → Option D} {r : L2.St → List V → Hp → VK → Prop} (hr : ScR r op) : ApR W cm (opSc op) r := by
  intro B pn env σ F N G Rg H ts vs Q I T h
  unfold opSc at h
  cases e1 : rds env ts with
  | none => rw [e1] at h; exact h.elim
  | some ds =>
    rw [e1] at h
    simp only at h
    cases e2 : op ds with
    | none => rw [e2] at h; exact h.elim
    | some d =>
      rw [e2] at h
      refine hr σ H vs ds d Q (rds_ok I T e1) e2 fun v rv => ?_
      exact h v F N Rg H emp I (Same.refl _) (Same.refl _) ⟨rfl, rv.mono (emp_same _)⟩ .none
/-- what an operation hands back: a thing that stands, a new list, a new tuple -/
def RM (N F H : Hp) (t : Tok) (v : V) (H' : Hp) : Prop :=
  (H' = H ∧ ∃ b d, t = .fz b d ∧ Rp (bsel b N F) v d) ∨
  (∃ l vs b xs, t = .nw b xs ∧ v = .ref l ∧ H l = none ∧ H' = upd H l (.lst vs) ∧ RpA (bsel b N F) vs xs) ∨
  (∃ l vs b xs, t = .fz b (.tuple xs) ∧ v = .ref l ∧ H l = none ∧ H' = upd H l (.tup vs) ∧ RpA (bsel b N F) vs xs)
theorem RM.done {B : Hp} {pn : Nat → Option Addr} {env : Env} {σ : L2.St} {F N G : Hp} {Rg : Nat → Hp} {H H' : Hp} {t : Tok} {v : V} {W : L2.WX} {cm : String → Addr} {Q : VK} (I : Ok B pn env σ F N G Rg H) (m : RM N F H t v H') (h : Aft B pn σ F N G W cm Q (.ok t env)) : Q v H' := by
  rcases m with ⟨rfl, b, d, rfl, r⟩ | ⟨l, vs, b, xs, rfl, rfl, hl, rfl, r⟩ | ⟨l, vs, b, xs, rfl, rfl, hl, rfl, r⟩
  · exact h v F N Rg H' emp I (Same.refl _) (Same.refl _) ⟨rfl, r⟩ .none
  · have I1 := I.grow (upd_Same (o := .lst vs) hl)
    exact h (.ref l) F N Rg _ _ I1 (Same.refl _) (Same.refl _) ⟨l, vs, rfl, rfl, r, I.hB l hl⟩ (I.fresh hl)
  · have I1 := I.grow (upd_Same (o := .tup vs) hl)
    have A := I.fresh (o := .tup vs) hl
    cases b with
    | true =>
      have hN := I1.djN A
      refine h (.ref l) _ _ Rg _ emp (I1.frzN A (dj_sgl (I.hB l hl)) (nofz_sgl (by intro _ _ z; cases z))) (jn_left A.dF) (jn_left hN) ⟨rfl, ?_⟩ .none
      exact .tup (.inl (jn_right _ _ sgl_same)) (r.mono (jn_left hN))
    | false =>
      refine h (.ref l) _ _ Rg _ emp (I1.frz A) (jn_left A.dF) (Same.refl _) ⟨rfl, ?_⟩ .none
      exact .tup (.inl (jn_right _ _ sgl_same)) (r.mono (jn_left A.dF))
def ElR (r : L2.St → List V → Hp → VK → Prop) (op : List (Bool × D) → Option Tok) : Prop := ∀ (σ : L2.St) (N F H : Hp) (vs : List V) (ps : List (Bool × D)) (t : Tok) (Q : VK), Same N F → Same F H → Vws N F H vs ps → op ps = some t → (∀ v H', RM N F H t v H' → Q v H') → r σ vs H Q
def opEl (op : List (Bool × D) → Option Tok) : List Tok → Env → ER := fun ts env => match views env ts with
  | none => .bad
  | some (ps, e') => match op ps with
    | none => .bad
    | some t => .ok t e'
theorem ap_el {W : L2.WX} {cm : String → Addr} {op : List (Bool × D) → Option Tok} {r : L2.St → List V → Hp → VK → Prop} (hr : ElR r op) : ApR W cm (opEl op) r := by
  intro B pn env σ F N G Rg H ts vs Q I T h
  unfold opEl at h
  cases e1 : views env ts with
  | none => rw [e1] at h; exact h.elim
  | some q =>
    obtain ⟨ps, e'⟩ := q
    rw [e1] at h
    simp only at h
    cases e2 : op ps with
    | none => rw [e2] at h; exact h.elim
    | some t =>
      rw [e2] at h
      obtain ⟨F1, N1, Rg1, I1, hF, hN, V1⟩ := views_ok I T e1
      refine hr σ N1 F1 H vs ps t Q I1.sN I1.sF V1 e2 fun v H' m => ?_
      exact m.done I1 (h.low hF hN)
/-- operations that keep what is handed in -/
def TkR (r : L2.St → List V → Hp → VK → Prop) (op : List (Bool × D) → Option Tok) : Prop := ∀ (σ : L2.St) (N F H : Hp) (vs : List V) (ps : List (Bool × D)) (t : Tok) (Q : VK), Same N F → Same F H → RpB N F vs ps → op ps = some t → (∀ v H', RM N F H t v H' → Q v H') → r σ vs H Q
def opTk (op : List (Bool × D) → Option Tok) : List Tok → Env → ER := fun ts env => match takes env ts with
  | none => .bad
  | some (ps, e') => match op ps with
    | none => .bad
    | some t => .ok t e'
theorem ap_tk {W : L2.WX} {cm : String → Addr} {op : List (Bool × D) → Option Tok} {r : L2.St → List V → Hp → VK → Prop} (hr : TkR r op) : ApR W cm (opTk op) r := by
  intro B pn env σ F N G Rg H ts vs Q I T h
  unfold opTk at h
  cases e1 : takes env ts with
  | none => rw [e1] at h; exact h.elim
  | some q =>
    obtain ⟨ps, e'⟩ := q
    rw [e1] at h
    simp only at h
    cases e2 : op ps with
    | none => rw [e2] at h; exact h.elim
    | some t =>
      rw [e2] at h
      obtain ⟨F1, N1, Rg1, I1, hF, hN, V1⟩ := takes_ok I T e1
      refine hr σ N1 F1 H vs ps t Q I1.sN I1.sF V1 e2 fun v H' m => ?_
      exact m.done I1 (h.low hF hN)
end DL
namespace DL
open PySem PySem.Spec PyProof.Rows L2
/-! ### what a def does -/
inductive Arg where
  | v (b : Bool) (d : D)
  | o (b : Bool) (xs : List D)
inductive FR where
  | ok (t : Tok) (outs : List (Option (Bool × List D)))
  | exc (c : String)
  | bad
abbrev Fn := List Arg → FR
def argSlot : Arg → Slot
  | .v b d => .fro b d
  | .o b xs => .own true b xs
def argEnv (l : List Arg) : Env := l.map argSlot
def outSlot : Option (Bool × List D) → Slot
  | none => .un
  | some (b, xs) => .own true b xs
def outEnv (l : List (Option (Bool × List D))) : Env := l.map outSlot
def noSl : Tok → Bool
  | .sl _ => false
  | _ => true
structure Entry (B : Hp) (pn : Nat → Option Addr) (args : List Arg) (vs : List V) (F N G : Hp) (Rg : Nat → Hp) (H : Hp) : Prop where
  ok : Ok B pn (argEnv args) (vs.map some) F N G Rg H
  cov : ∀ a o, H a = some o → F a = some o ∨ G a = some o ∨ ∃ i, Rg i a = some o
def spD (cm : String → Addr) (fn : Fn) : Sp := fun vs H Q E => ∃ B pn F N G Rg args, Entry B pn args vs F N G Rg H ∧ (match fn args with
  | .ok t outs => noSl t = true ∧ ∀ v F' N' Rg' H' R, Ok B pn (outEnv outs) (vs.map some) F' N' G Rg' H' → Same F F' → Same N N' → TokOk B [] F' N' R t v → Apart F' G Rg' H' R → dj H R → Q v H'
  | .exc c => ∀ F' N' Rg' H', Ok B pn (args.map fun _ => Slot.un) (vs.map some) F' N' G Rg' H' → Same F F' → Same N N' → E (.ref (cm c)) none H'
  | .bad => False)
/-- a def may do more than is told of it -/
def FRle : FR → FR → Prop
  | .bad, _ => True
  | r, r' => r = r'

/-! ### the caller -/
structure PArgs (F N J : Hp) (args : List Arg) (vs : List V) : Prop where
  len : args.length = vs.length
  pv : ∀ (j : Nat) (b : Bool) (d : D), args[j]? = some (Arg.v b d) → ∃ v : V, vs[j]? = some v ∧ Rp (bsel b N F) v d
  po : ∀ (j : Nat) (b : Bool) (xs : List D), args[j]? = some (Arg.o b xs) → ∃ l ws, vs[j]? = some (V.ref l) ∧ J = sgl l (.lst ws) ∧ RpA (bsel b N F) ws xs
  one : ∀ (j k : Nat) (b : Bool) (xs : List D) (c : Bool) (ys : List D), args[j]? = some (Arg.o b xs) → args[k]? = some (Arg.o c ys) → j = k
  non : (∀ (j : Nat) (b : Bool) (xs : List D), args[j]? ≠ some (Arg.o b xs)) → J = emp
def hasO (args : List Arg) : Bool := args.any fun a => match a with | .o _ _ => true | _ => false
abbrev Back := Option (Option (Nat × Bool))
def prep (env : Env) : List Bool → List Tok → Option (List Arg × Back × Env)
  | [], [] => some ([], none, env)
  | m :: ms, t :: ts => match prep env ms ts with
    | none => none
    | some (args, w, e1) => match m with
      | false => match take e1 t with
        | none => none
        | some (b, d, e2) => some (.v b d :: args, w, e2)
      | true => match w with
        | some _ => none
        | none => match t with
          | .nw b xs => some (.o b xs :: args, some none, e1)
          | .sl i => match e1[i]? with
            | some (.own p b xs) => some (.o b xs :: args, some (some (i, p)), e1.set i .un)
            | _ => none
          | _ => none
  | _, _ => none
/-- where the handed list goes back to -/
def BackOk (B : Hp) (pn : Nat → Option Addr) (env : Env) (σ : L2.St) (J : Hp) : Back → Prop
  | none => J = emp
  | some none => True
  | some (some (i, p)) => env[i]? = some .un ∧ ∃ l ws, J = sgl l (.lst ws) ∧ σ[i]? = some (some (.ref l)) ∧ (if p then pn i = some l else B l = none)
section
variable {B : Hp} {pn : Nat → Option Addr} {env : Env} {σ : L2.St} {F N G : Hp} {Rg : Nat → Hp} {H R : Hp}
theorem cons_get {α : Type} {a : α} {l : List α} {j : Nat} {x : α} (h : (a :: l)[j]? = some x) : (j = 0 ∧ a = x) ∨ ∃ k, j = k + 1 ∧ l[k]? = some x := by
  cases j with
  | zero => exact .inl ⟨rfl, by simpa using h⟩
  | succ k => exact .inr ⟨k, rfl, by simpa using h⟩
theorem PArgs.mono {F N F' N' J : Hp} {args : List Arg} {vs : List V} (hF : Same F F') (hN : Same N N') (h : PArgs F N J args vs) : PArgs F' N' J args vs where
  len := h.len
  pv := fun j b d e => let ⟨v, e1, r⟩ := h.pv j b d e; ⟨v, e1, r.mono (bsel_mono hN hF)⟩
  po := fun j b xs e => let ⟨l, ws, e1, e2, r⟩ := h.po j b xs e; ⟨l, ws, e1, e2, r.mono (bsel_mono hN hF)⟩
  one := h.one
  non := h.non
theorem PArgs.consV {F N J : Hp} {args : List Arg} {vs : List V} {v : V} {b : Bool} {d : D} (h : PArgs F N J args vs) (r : Rp (bsel b N F) v d) : PArgs F N J (.v b d :: args) (v :: vs) where
  len := by rw [List.length_cons, List.length_cons, h.len]
  pv := fun j b' d' e => by
    rcases cons_get e with ⟨rfl, e⟩ | ⟨k, rfl, e⟩
    · cases e; exact ⟨v, rfl, r⟩
    · simpa using h.pv k b' d' e
  po := fun j b' xs e => by
    rcases cons_get e with ⟨rfl, e⟩ | ⟨k, rfl, e⟩
    · cases e
    · simpa using h.po k b' xs e
  one := fun j k b xs c ys e1 e2 => by
    rcases cons_get e1 with ⟨rfl, e⟩ | ⟨j', rfl, e1⟩
    · cases e
    · rcases cons_get e2 with ⟨rfl, e⟩ | ⟨k', rfl, e2⟩
      · cases e
      · rw [h.one _ _ _ _ _ _ e1 e2]
  non := fun q => h.non fun j b xs e => q (j + 1) b xs (by simpa using e)
theorem PArgs.consO {F N : Hp} {args : List Arg} {vs : List V} {l : Addr} {ws : List V} {b : Bool} {xs : List D} (h : PArgs F N emp args vs) (no : ∀ (j : Nat) (b : Bool) (xs : List D), args[j]? ≠ some (Arg.o b xs)) (r : RpA (bsel b N F) ws xs) :
    PArgs F N (sgl l (.lst ws)) (.o b xs :: args) (.ref l :: vs) where
  len := by rw [List.length_cons, List.length_cons, h.len]
  pv := fun j b' d' e => by
    rcases cons_get e with ⟨rfl, e⟩ | ⟨k, rfl, e⟩
    · cases e
    · simpa using h.pv k b' d' e
  po := fun j b' xs e => by
    rcases cons_get e with ⟨rfl, e⟩ | ⟨k, rfl, e⟩
    · cases e; exact ⟨l, ws, rfl, rfl, r⟩
    · exact absurd e (no k b' xs)
  one := fun j k b xs c ys e1 e2 => by
    rcases cons_get e1 with ⟨rfl, e⟩ | ⟨j', rfl, e1⟩
    · rcases cons_get e2 with ⟨rfl, e⟩ | ⟨k', rfl, e2⟩
      · rfl
      · exact absurd e2 (no _ _ _)
    · exact absurd e1 (no _ _ _)
  non := fun q => absurd rfl (q 0 b xs)
theorem prep_ok : ∀ {ms : List Bool} {ts : List Tok} {vs : List V} {args : List Arg} {w : Back} {e' : Env} {G : Hp}, Ok B pn env σ F N G Rg H → ToksOk B σ F N Rg H G ts vs → prep env ms ts = some (args, w, e') →
    ∃ F' N' Rg' J, Ok B pn e' σ F' N' G Rg' H ∧ Same F F' ∧ Same N N' ∧ Apart F' G Rg' H J ∧ PArgs F' N' J args vs ∧ BackOk B pn e' σ J w ∧ (w = none → ∀ (j : Nat) (b : Bool) (xs : List D), args[j]? ≠ some (Arg.o b xs))
  | [], [], vs, args, w, e', G, I, T, h => by
    cases h
    have e : vs = [] := T
    subst e
    exact ⟨F, N, Rg, emp, I, Same.refl _, Same.refl _, .none, ⟨rfl, fun _ _ _ e => by simp at e, fun _ _ _ e => by simp at e, fun _ _ _ _ _ _ e => by simp at e, fun _ => rfl⟩, rfl, fun _ _ _ _ e => by simp at e⟩
  | [], _ :: _, _, _, _, _, _, _, _, h => by cases h
  | _ :: _, [], _, _, _, _, _, _, _, h => by cases h
  | m :: ms, t :: ts, vs, args, w, e', G, I, T, h => by
    obtain ⟨v, r, R, rfl, t1, a1, tr⟩ := T
    simp only [prep] at h
    cases e1 : prep env ms ts with
    | none => rw [e1] at h; cases h
    | some q =>
      obtain ⟨args', w', en⟩ := q
      rw [e1] at h
      simp only at h
      obtain ⟨F1, N1, Rg1, J, I1, hF1, hN1, AJ, P1, BK, NO⟩ := prep_ok (I.res a1) tr e1
      have A1 : Apart F1 G Rg1 H R := .back I1 a1.dG
      have I1' := I1.unres (jn_left a1.dG)
      have dRJ : dj R J := fun a o e => by
        cases q : R a with
        | none => rfl
        | some u =>
          have z := AJ.dG a o e
          rw [jn_right _ _ q] at z
          cases z
      have dGJ : dj G J := fun a o e => (jn_none (AJ.dG a o e)).2
      cases m with
      | false =>
        simp only at h
        cases e2 : take en t with
        | none => rw [e2] at h; cases h
        | some q =>
          obtain ⟨b, d, en2⟩ := q
          rw [e2] at h
          cases h
          -- J is kept back while t is taken
          have AJ' : Apart F1 G Rg1 H J := ⟨AJ.sR, AJ.dF, dGJ, AJ.dR⟩
          have AR : Apart F1 (jn G J) Rg1 H R := ⟨A1.sR, A1.dF, fun a o e => jn_none_of (dj_comm dRJ a o e) (A1.dG a o e), A1.dR⟩
          obtain ⟨F2, N2, Rg2, I2, hF2, hN2, r2⟩ := take_ok (I1'.res AJ') (t1.mono hF1 hN1) AR e2
          refine ⟨F2, N2, Rg2, J, I2.unres (jn_left dGJ), hF1.trans hF2, hN1.trans hN2, .back I2 dGJ, (P1.mono hF2 hN2).consV r2, ?_, fun hw j b' xs e => ?_⟩
          · -- the slot that waits is still so
            cases w with
            | none => exact BK
            | some q =>
              cases q with
              | none => trivial
              | some q =>
                obtain ⟨i, p⟩ := q
                obtain ⟨b1, l, ws, b2, b3, b4⟩ := BK
                refine ⟨?_, l, ws, b2, b3, b4⟩
                cases t with
                | fz b0 d0 => cases e2; exact b1
                | nw b0 xs => cases e2; exact b1
                | ex d0 => cases e2; exact b1
                | sl j =>
                  simp only [take] at e2
                  cases ej : en[j]? with
                  | none => rw [ej] at e2; cases e2
                  | some s =>
                    rw [ej] at e2
                    have hij : s ≠ .un → j ≠ i := fun z q => by subst q; rw [b1] at ej; cases ej; exact z rfl
                    cases s with
                    | un => cases e2
                    | lent => cases e2
                    | fro b0 d0 => cases e2; exact b1
                    | own p0 b0 xs =>
                      cases p0 with
                      | true => cases e2
                      | false =>
                        cases e2
                        rw [List.getElem?_set_ne (hij (by intro z; cases z))]
                        exact b1
                    | ex d0 =>
                      cases e2
                      rw [List.getElem?_set_ne (hij (by intro z; cases z))]
                      exact b1
          · rcases cons_get e with ⟨rfl, e⟩ | ⟨k, rfl, e⟩
            · cases e
            · exact NO hw k b' xs e
      | true =>
        simp only at h
        cases w' with
        | some q => cases h
        | none =>
          simp only at h
          have eJ : J = emp := BK
          subst eJ
          cases t with
          | fz b0 d0 => cases h
          | ex d0 => cases h
          | nw b0 xs =>
            cases h
            obtain ⟨l, ws, rfl, rfl, rw', q⟩ := t1.mono hF1 hN1
            exact ⟨F1, N1, Rg1, _, I1', hF1, hN1, A1, P1.consO (NO rfl) rw', trivial, fun z => by cases z⟩
          | sl i =>
            simp only at h
            cases ei : en[i]? with
            | none => rw [ei] at h; cases h
            | some s =>
              rw [ei] at h
              cases s with
              | un => cases h
              | lent => cases h
              | fro _ _ => cases h
              | ex _ => cases h
              | own p b0 xs =>
                cases h
                obtain ⟨l, ws, e3, e4, rw', q⟩ := I1'.sl i _ ei
                have hv := t1.2
                rw [e3] at hv
                cases hv
                have hi := Ok.slotLt ei
                have O := I1'.off hi
                have OA := I1'.offApart (i := i)
                rw [e4] at OA
                exact ⟨F1, N1, _, _, O, hF1, hN1, OA, P1.consO (NO rfl) rw', ⟨by rw [List.getElem?_set_self hi], l, ws, rfl, e3, q⟩, fun z => by cases z⟩
end
end DL
namespace DL
open PySem PySem.Spec PyProof.Rows L2
def getOut : List (Option (Bool × List D)) → Option (Bool × List D)
  | [] => none
  | some q :: _ => some q
  | none :: r => getOut r
def finish (env : Env) : Back → List (Option (Bool × List D)) → Option Env
  | none, _ => some env
  | some none, _ => some env
  | some (some (i, p)), outs => match getOut outs with
    | none => none
    | some (b, xs) => some (env.set i (.own p b xs))
def opCall (mask : List Bool) (fn : Fn) : List Tok → Env → ER := fun ts env => match prep env mask ts with
  | none => .bad
  | some (args, w, e1) => match fn args with
    | .ok t outs => match noSl t with
      | false => .bad
      | true => match finish e1 w outs with
        | none => .bad
        | some e2 => .ok t e2
    | .exc c => match w with
      | none => .exc c e1
      | some _ => .bad
    | .bad => .bad
theorem getOut_at : ∀ {outs : List (Option (Bool × List D))} {q : Bool × List D}, getOut outs = some q → ∃ j : Nat, outs[j]? = some (some q)
  | [], _, h => by cases h
  | some p :: _, q, h => ⟨0, by simpa [getOut] using h⟩
  | none :: r, q, h => by
    obtain ⟨j, e⟩ := getOut_at (outs := r) h
    exact ⟨j + 1, by simpa using e⟩
def isO : Option Arg → Bool
  | some (.o _ _) => true
  | _ => false
def cRg (args : List Arg) (J : Hp) : Nat → Hp := fun j => if isO args[j]? = true then J else emp
def cPn (args : List Arg) (l : Addr) : Nat → Option Addr := fun j => if isO args[j]? = true then some l else none
def cG (F J H : Hp) : Hp := fun a => match F a with
  | some _ => none
  | none => match J a with
    | some _ => none
    | none => H a
theorem isO_some {o : Option Arg} (h : isO o = true) : ∃ b xs, o = some (.o b xs) := by
  unfold isO at h
  split at h
  · exact ⟨_, _, rfl⟩
  · cases h
theorem cG_some {F J H : Hp} {a : Addr} {o : HO} (h : cG F J H a = some o) : F a = none ∧ J a = none ∧ H a = some o := by
  unfold cG at h
  split at h
  · cases h
  · split at h
    · cases h
    · exact ⟨by assumption, by assumption, h⟩
theorem cG_of {F J H : Hp} {a : Addr} {o : HO} (h1 : F a = none) (h2 : J a = none) (h3 : H a = some o) : cG F J H a = some o := by
  unfold cG
  rw [h1, h2]
  exact h3
theorem cG_noneF {F J H : Hp} {a : Addr} {o : HO} (h : F a = some o) : cG F J H a = none := by
  unfold cG
  rw [h]
theorem cG_noneJ {F J H : Hp} {a : Addr} {o : HO} (h : J a = some o) : cG F J H a = none := by
  unfold cG
  split
  · rfl
  · rw [h]
section
variable {B : Hp} {pn : Nat → Option Addr} {env : Env} {σ : L2.St} {F N G : Hp} {Rg : Nat → Hp} {H R J : Hp}
theorem entry_of {Bc Nc : Hp} {args : List Arg} {vs : List V} (sF : Same F H) (sN : Same Nc F) (nB : dj Bc Nc) (nZ : nofz Nc) (hB : ∀ a, H a = none → Bc a = none) (AJ1 : Same J H) (AJ2 : dj F J) (P : PArgs F Nc J args vs) :
    ∃ l0, Entry Bc (cPn args l0) args vs F Nc (cG F J H) (cRg args J) H ∧ (J = emp ∨ ∃ ws, J = sgl l0 (.lst ws)) := by
  have key : ∃ l0, (J = emp ∨ ∃ ws, J = sgl l0 (.lst ws)) ∧ ∀ (j : Nat) (b : Bool) (xs : List D), args[j]? = some (Arg.o b xs) → vs[j]? = some (V.ref l0) ∧ ∃ ws, J = sgl l0 (.lst ws) ∧ RpA (bsel b Nc F) ws xs := by
    by_cases h : ∃ (j : Nat) (b : Bool) (xs : List D), args[j]? = some (Arg.o b xs)
    · obtain ⟨j, b, xs, e⟩ := h
      obtain ⟨l, ws, e1, e2, r⟩ := P.po j b xs e
      refine ⟨l, .inr ⟨ws, e2⟩, fun k c ys e' => ?_⟩
      obtain rfl := P.one _ _ _ _ _ _ e e'
      rw [e] at e'
      cases e'
      exact ⟨e1, ws, e2, r⟩
    · exact ⟨0, .inl (P.non fun j b xs e => h ⟨j, b, xs, e⟩), fun j b xs e => absurd ⟨j, b, xs, e⟩ h⟩
  obtain ⟨l0, hJ, ko⟩ := key
  refine ⟨l0, ⟨⟨?_, sF, sN, ?_, ?_, nB, nZ, hB, ?_, ?_, ?_, ?_, ?_, ?_⟩, ?_⟩, hJ⟩
  · unfold argEnv
    rw [List.length_map, List.length_map, P.len]
  · exact fun a o e => (cG_some e).2.2
  · exact fun a o e => (cG_some e).1
  · intro i s e
    unfold argEnv at e
    rw [List.getElem?_map] at e
    cases ea : args[i]? with
    | none => rw [ea] at e; cases e
    | some a =>
      rw [ea] at e
      cases e
      cases a with
      | v b d =>
        obtain ⟨v, e1, r⟩ := P.pv i b d ea
        refine ⟨?_, v, ?_, r⟩
        · unfold cRg
          rw [ea]
          exact if_neg (by simp [isO])
        · rw [List.getElem?_map, e1]
          rfl
      | o b xs =>
        obtain ⟨e1, ws, e2, r⟩ := ko i b xs ea
        refine ⟨l0, ws, ?_, ?_, r, ?_⟩
        · rw [List.getElem?_map, e1]
          rfl
        · unfold cRg
          rw [ea, if_pos (show isO (some (Arg.o b xs)) = true from rfl), e2]
        · show (if true = true then cPn args l0 i = some l0 else _)
          rw [if_pos rfl]
          unfold cPn
          rw [ea]
          rfl
  · intro i
    unfold cRg
    split
    · exact AJ1
    · exact emp_same _
  · intro i
    unfold cRg
    split
    · exact AJ2
    · exact dj_emp _
  · intro i
    unfold cRg
    split
    · exact fun a o e => cG_noneJ e
    · exact dj_emp _
  · intro i j hij
    unfold cRg
    by_cases h1 : isO args[i]? = true
    · by_cases h2 : isO args[j]? = true
      · obtain ⟨b, xs, e1⟩ := isO_some h1
        obtain ⟨c, ys, e2⟩ := isO_some h2
        exact absurd (P.one _ _ _ _ _ _ e1 e2) hij
      · rw [if_neg h2]
        exact dj_emp _
    · rw [if_neg h1]
      exact emp_dj _
  · intro i hi
    unfold argEnv at hi
    rw [List.length_map] at hi
    unfold cRg
    rw [List.getElem?_eq_none hi]
    exact if_neg (by simp [isO])
  · intro a o e
    cases q : F a with
    | some u =>
      have := sF _ _ q
      rw [e] at this
      cases this
      exact .inl rfl
    | none =>
      cases q2 : J a with
      | some u =>
        have := AJ1 _ _ q2
        rw [e] at this
        cases this
        refine .inr (.inr ?_)
        by_cases h : ∃ (j : Nat) (b : Bool) (xs : List D), args[j]? = some (Arg.o b xs)
        · obtain ⟨j, b, xs, ej⟩ := h
          refine ⟨j, ?_⟩
          unfold cRg
          rw [ej, if_pos (show isO (some (Arg.o b xs)) = true from rfl)]
          exact q2
        · have := P.non fun j b xs e => h ⟨j, b, xs, e⟩
          subst this
          cases q2
      | none => exact .inr (.inl (cG_of q q2 e))

/-- behind a call: the caller's state -/
theorem after_call {e' : Env} {F1 N1 F2 N2 : Hp} {Rg1 : Nat → Hp} {H2 : Hp} (I1 : Ok B pn e' σ F1 N1 G Rg1 H) (AJ : Apart F1 G Rg1 H J) (s2F : Same F2 H2) (s2N : Same N2 F2) (nB : dj B N2) (nZ : nofz N2) (hB : ∀ a, H2 a = none → B a = none) (hF : Same F1 F2) (hN : Same N1 N2)
    (sG : Same (cG F1 J H) H2) (dG : dj F2 (cG F1 J H)) : Ok B pn e' σ F2 N2 G Rg1 H2 where
  len := I1.len
  sF := s2F
  sN := s2N
  sG := fun a o e => sG _ _ (cG_of (I1.dG a o e) (dj_comm AJ.dG |> fun d => by
    cases q : J a with
    | none => rfl
    | some u => rw [AJ.dG a u q] at e; cases e) (I1.sG _ _ e))
  dG := fun a o e => dG a o (cG_of (I1.dG a o e) (by
    cases q : J a with
    | none => rfl
    | some u => rw [AJ.dG a u q] at e; cases e) (I1.sG _ _ e))
  nB := nB
  nZ := nZ
  hB := hB
  sl := fun i s e => (I1.sl i s e).mono hF hN
  sR := fun i a o e => sG _ _ (cG_of (I1.dF i a o e) (by
    cases q : J a with
    | none => rfl
    | some u => rw [AJ.dR i a u q] at e; cases e) (I1.sR i _ _ e))
  dF := fun i a o e => dG a o (cG_of (I1.dF i a o e) (by
    cases q : J a with
    | none => rfl
    | some u => rw [AJ.dR i a u q] at e; cases e) (I1.sR i _ _ e))
  dRG := I1.dRG
  dR := I1.dR
  out := I1.out
theorem after_apart {e' : Env} {F1 N1 F2 : Hp} {Rg1 : Nat → Hp} {H2 : Hp} (I1 : Ok B pn e' σ F1 N1 G Rg1 H) (AJ : Apart F1 G Rg1 H J) {R : Hp} (sR : Same R H2) (dF : dj F2 R) (dG : dj (cG F1 J H) R) : Apart F2 G Rg1 H2 R where
  sR := sR
  dF := dF
  dG := fun a o e => by
    cases q : G a with
    | none => rfl
    | some u =>
      have z := cG_of (H := H) (I1.dG a u q) (show J a = none by
        cases q2 : J a with
        | none => rfl
        | some u2 => rw [AJ.dG a u2 q2] at q; cases q) (I1.sG _ _ q)
      rw [dG a o e] at z
      cases z
  dR := fun i a o e => by
    cases q : Rg1 i a with
    | none => rfl
    | some u =>
      have z := cG_of (H := H) (I1.dF i a u q) (show J a = none by
        cases q2 : J a with
        | none => rfl
        | some u2 => rw [AJ.dR i a u2 q2] at q; cases q) (I1.sR i _ _ q)
      rw [dG a o e] at z
      cases z
theorem TokOk.noSl {σ' : L2.St} {t : Tok} {v : V} (n : noSl t = true) (h : TokOk B σ F N R t v) : TokOk B σ' F N R t v := by
  cases t with
  | sl i => cases n
  | fz b d => exact h
  | nw b xs => exact h
  | ex d => exact h
theorem outEnv_own {outs : List (Option (Bool × List D))} {j : Nat} {b : Bool} {xs : List D} (h : outs[j]? = some (some (b, xs))) : (outEnv outs)[j]? = some (.own true b xs) := by
  unfold outEnv
  rw [List.getElem?_map, h]
  rfl
theorem ap_call {W : L2.WX} {cm : String → Addr} {mask : List Bool} {fn : Fn} : ApR W cm (opCall mask fn) (fun σ vs H Q => spD cm fn vs H Q (WE W σ)) := by
  intro B pn env σ F N G Rg H ts vs Q I T h
  unfold opCall at h
  cases e1 : prep env mask ts with
  | none => rw [e1] at h; exact h.elim
  | some q =>
    obtain ⟨args, w, en⟩ := q
    rw [e1] at h
    simp only at h
    obtain ⟨F1, N1, Rg1, J, I1, hF1, hN1, AJ, P1, BK, NO⟩ := prep_ok I T e1
    obtain ⟨l0, En, hJ⟩ := entry_of (Bc := B) I1.sF I1.sN I1.nB I1.nZ I1.hB AJ.sR AJ.dF P1
    refine ⟨B, _, F1, N1, _, _, args, En, ?_⟩
    cases e2 : fn args with
    | bad => rw [e2] at h; exact h
    | exc c =>
      rw [e2] at h
      simp only at h ⊢
      cases w with
      | some q => exact h.elim
      | none =>
        intro F2 N2 Rg2 H2 I2 hF2 hN2
        exact h F2 N2 Rg1 H2 (after_call I1 AJ I2.sF I2.sN I2.nB I2.nZ I2.hB hF2 hN2 I2.sG I2.dG) (hF1.trans hF2) (hN1.trans hN2)
    | ok t outs =>
      rw [e2] at h
      simp only at h ⊢
      cases nt : noSl t with
      | false => rw [nt] at h; exact h.elim
      | true =>
      rw [nt] at h
      simp only at h
      cases e3 : finish en w outs with
      | none => rw [e3] at h; exact h.elim
      | some e4 =>
        rw [e3] at h
        refine ⟨rfl, fun v F2 N2 Rg2 H2 R I2 hF2 hN2 TR AR dHR => ?_⟩
        · have I3 := after_call I1 AJ I2.sF I2.sN I2.nB I2.nZ I2.hB hF2 hN2 I2.sG I2.dG
          have A3 : Apart F2 G Rg1 H2 R := after_apart I1 AJ AR.sR AR.dF AR.dG
          cases w with
          | none =>
            cases e3
            exact h v F2 N2 Rg1 H2 R I3 (hF1.trans hF2) (hN1.trans hN2) (TR.noSl nt) A3
          | some w =>
            cases w with
            | none =>
              cases e3
              exact h v F2 N2 Rg1 H2 R I3 (hF1.trans hF2) (hN1.trans hN2) (TR.noSl nt) A3
            | some w =>
              obtain ⟨i, p⟩ := w
              simp only [finish] at e3
              cases e5 : getOut outs with
              | none => rw [e5] at e3; cases e3
              | some q =>
                obtain ⟨b, xs⟩ := q
                rw [e5] at e3
                cases e3
                obtain ⟨k, ek⟩ := getOut_at e5
                obtain ⟨bi, l, ws, ej, ev, eb⟩ := BK
                subst ej
                have el : l0 = l := by
                  rcases hJ with z | ⟨ws', z⟩
                  · have z := congrFun z l
                    rw [sgl_same] at z
                    cases z
                  · have z := congrFun z l
                    rw [sgl_same] at z
                    exact (sgl_some z.symm).1.symm
                subst el
                obtain ⟨l', ws', f1, f2, r2, f3⟩ := I2.sl k _ (outEnv_own ek)
                have el' : l' = l0 := by
                  rw [if_pos rfl] at f3
                  unfold cPn at f3
                  split at f3
                  · exact (Option.some.inj f3).symm
                  · cases f3
                subst el'
                have hi := Ok.slotLt bi
                have sR2 := I2.sR k
                have dF2 := I2.dF k
                have dR2 := AR.dR k
                rw [f2] at sR2 dF2 dR2
                have I4 := I3.put (σ' := σ) (i := i) (s := .own p b xs) (R := sgl l' (.lst ws')) hi ⟨l', ws', ev, rfl, r2, eb⟩ sR2 dF2 (dj_sgl (AJ.dG _ _ sgl_same)) (fun j _ => dj_sgl (AJ.dR j _ _ sgl_same)) (fun _ _ => rfl) rfl
                refine h v F2 N2 _ H2 R I4 (hF1.trans hF2) (hN1.trans hN2) (TR.noSl nt) ⟨A3.sR, A3.dF, A3.dG, fun j => ?_⟩
                by_cases hj : j = i
                · subst hj
                  rw [setR_same]
                  exact dR2
                · rw [setR_ne hj]
                  exact A3.dR j
end
end DL
namespace DL
open PySem PySem.Spec PyProof.Rows L2
/-! ### a call that keeps nothing of what is handed in, and hands back a thing of its own -/
def detach (env : Env) : List Bool → List Tok → Option (Option (Bool × List D) × Back × Env)
  | [], [] => some (none, none, env)
  | m :: ms, t :: ts => match detach env ms ts with
    | none => none
    | some (q, w, e1) => match m with
      | false => some (q, w, e1)
      | true => match w with
        | some _ => none
        | none => match t with
          | .nw b xs => some (some (b, xs), some none, e1)
          | .sl i => match e1[i]? with
            | some (.own p b xs) => some (some (b, xs), some (some (i, p)), e1.set i .un)
            | _ => none
          | _ => none
  | _, _ => none
def argsX (env : Env) (q : Option (Bool × List D)) : List Bool → List Tok → Option (List Arg)
  | [], [] => some []
  | m :: ms, t :: ts => match argsX env q ms ts with
    | none => none
    | some args => match m with
      | false => match rd env t with
        | none => none
        | some d => some (.v false d :: args)
      | true => match q with
        | none => none
        | some (b, xs) => match b || xs.all scal with
          | false => none
          | true => match xs.all scal with
            | false => none
            | true => some (.o true xs :: args)
  | _, _ => none
def unX : Tok → Option Tok
  | .fz b d => match scal d with
    | true => some (.fz true d)
    | false => match b with
      | true => some (.ex d)
      | false => none
  | .nw b xs => match xs.all scal with
    | true => some (.nw true xs)
    | false => match b with
      | true => some (.nw true xs)
      | false => none
  | .ex d => some (.ex d)
  | .sl _ => none
def finishX (env : Env) : Back → List (Option (Bool × List D)) → Option Env
  | none, _ => some env
  | some none, _ => some env
  | some (some (i, p)), outs => match getOut outs with
    | none => none
    | some (_, xs) => match xs.all scal with
      | false => none
      | true => some (env.set i (.own p true xs))
def opCallX (mask : List Bool) (fn : Fn) : List Tok → Env → ER := fun ts env => match detach env mask ts with
  | none => .bad
  | some (q, w, e1) => match argsX e1 q mask ts with
    | none => .bad
    | some args => match fn args with
      | .ok t outs => match unX t with
        | none => .bad
        | some t' => match finishX e1 w outs with
          | none => .bad
          | some e2 => .ok t' e2
      | .exc c => match w with
        | none => .exc c e1
        | some _ => .bad
      | .bad => .bad
/-- the tokens' regions apart from J; the one at the mask is J itself -/
def TX (B : Hp) (σ : L2.St) (F N H J : Hp) (q : Option (Bool × List D)) : List Bool → List Tok → List V → Prop
  | [], [], vs => vs = []
  | m :: ms, t :: ts, vs => ∃ v r, vs = v :: r ∧ TX B σ F N H J q ms ts r ∧ (match m with
    | false => ∃ R, TokOk B σ F N R t v ∧ Same R H ∧ dj J R
    | true => ∃ b xs l ws, q = some (b, xs) ∧ v = .ref l ∧ J = sgl l (.lst ws) ∧ RpA (bsel b N F) ws xs)
  | _, _, _ => False
def oneM : List Bool → Prop
  | [] => True
  | true :: ms => ms.all (fun b => !b) = true
  | false :: ms => oneM ms
section
variable {B : Hp} {pn : Nat → Option Addr} {env : Env} {σ : L2.St} {F N G : Hp} {Rg : Nat → Hp} {H R J : Hp}
theorem toksX {q : Option (Bool × List D)} : ∀ {ms : List Bool} {ts : List Tok} {vs : List V} {G : Hp}, ToksOk B σ F N Rg H G ts vs → ms.all (fun b => !b) = true → ms.length = ts.length → (∀ a o, J a = some o → (∃ u, G a = some u) ∨ ∃ i u, Rg i a = some u) → TX B σ F N H J q ms ts vs
  | [], [], vs, G, T, _, _, _ => T
  | [], _ :: _, _, _, _, _, h, _ => by cases h
  | _ :: _, [], _, _, _, _, h, _ => by cases h
  | m :: ms, t :: ts, vs, G, T, h1, h2, h3 => by
    obtain ⟨v, r, R, rfl, t1, a1, tr⟩ := T
    simp only [List.all_cons, Bool.and_eq_true] at h1
    refine ⟨v, r, rfl, toksX tr h1.2 (by simpa using h2) fun a o e => ?_, ?_⟩
    · rcases h3 a o e with ⟨u, z⟩ | z
      · exact .inl ⟨u, jn_left a1.dG _ _ z⟩
      · exact .inr z
    · cases m with
      | true => cases h1.1
      | false =>
        refine ⟨R, t1, a1.sR, fun a o e => ?_⟩
        cases q : J a with
        | none => rfl
        | some u =>
          rcases h3 a u q with ⟨w, z⟩ | ⟨i, w, z⟩
          · rw [a1.dG a o e] at z; cases z
          · rw [a1.dR i a o e] at z; cases z
theorem detach_len : ∀ {ms : List Bool} {ts : List Tok} {q : Option (Bool × List D)} {w : Back} {e' : Env}, detach env ms ts = some (q, w, e') → ms.length = ts.length
  | [], [], _, _, _, _ => rfl
  | [], _ :: _, _, _, _, h => by cases h
  | _ :: _, [], _, _, _, h => by cases h
  | m :: ms, t :: ts, q, w, e', h => by
    simp only [detach] at h
    cases e1 : detach env ms ts with
    | none => rw [e1] at h; cases h
    | some z =>
      obtain ⟨q', w', en⟩ := z
      rw [List.length_cons, List.length_cons, detach_len e1]
theorem detach_none : ∀ {ms : List Bool} {ts : List Tok} {q : Option (Bool × List D)} {e' : Env}, detach env ms ts = some (q, none, e') → ms.all (fun b => !b) = true ∧ e' = env ∧ q = none
  | [], [], _, _, h => by cases h; exact ⟨rfl, rfl, rfl⟩
  | [], _ :: _, _, _, h => by cases h
  | _ :: _, [], _, _, h => by cases h
  | m :: ms, t :: ts, q, e', h => by
    simp only [detach] at h
    cases e1 : detach env ms ts with
    | none => rw [e1] at h; cases h
    | some z =>
      obtain ⟨q', w', en⟩ := z
      rw [e1] at h
      cases m with
      | false =>
        cases h
        obtain ⟨h1, h2, h3⟩ := detach_none e1
        exact ⟨by simp [h1], h2, h3⟩
      | true =>
        simp only at h
        cases w' with
        | some _ => cases h
        | none =>
          simp only at h
          cases t with
          | fz _ _ => cases h
          | ex _ => cases h
          | nw _ _ => cases h
          | sl i =>
            simp only at h
            cases ei : en[i]? with
            | none => rw [ei] at h; cases h
            | some s => rw [ei] at h; cases s <;> cases h
theorem detach_ok : ∀ {ms : List Bool} {ts : List Tok} {vs : List V} {q : Option (Bool × List D)} {w : Back} {e' : Env} {G : Hp}, Ok B pn env σ F N G Rg H → ToksOk B σ F N Rg H G ts vs → detach env ms ts = some (q, w, e') →
    ∃ Rg' J, Ok B pn e' σ F N G Rg' H ∧ Apart F G Rg' H J ∧ BackOk B pn e' σ J w ∧ TX B σ F N H J q ms ts vs ∧ (J = emp ∨ ∃ l ws, J = sgl l (.lst ws)) ∧ (w = none → J = emp)
  | [], [], vs, q, w, e', G, I, T, h => by
    cases h
    exact ⟨Rg, emp, I, .none, rfl, T, .inl rfl, fun _ => rfl⟩
  | [], _ :: _, _, _, _, _, _, _, _, h => by cases h
  | _ :: _, [], _, _, _, _, _, _, _, h => by cases h
  | m :: ms, t :: ts, vs, q, w, e', G, I, T, h => by
    obtain ⟨v, r, R, rfl, t1, a1, tr⟩ := T
    simp only [detach] at h
    cases e1 : detach env ms ts with
    | none => rw [e1] at h; cases h
    | some z =>
      obtain ⟨q', w', en⟩ := z
      rw [e1] at h
      cases m with
      | false =>
        cases h
        obtain ⟨Rg1, J, I1, AJ, BK, TX1, sJ, wJ⟩ := detach_ok (I.res a1) tr e1
        have dRJ : dj R J := fun a o e => by
          cases q : R a with
          | none => rfl
          | some u =>
            have z := AJ.dG a o e
            rw [jn_right _ _ q] at z
            cases z
        exact ⟨Rg1, J, I1.unres (jn_left a1.dG), ⟨AJ.sR, AJ.dF, fun a o e => (jn_none (AJ.dG a o e)).2, AJ.dR⟩, BK, ⟨v, r, rfl, TX1, R, t1, a1.sR, dj_comm dRJ⟩, sJ, wJ⟩
      | true =>
        simp only at h
        cases w' with
        | some _ => cases h
        | none =>
          simp only at h
          obtain ⟨hm, rfl, rfl⟩ := detach_none e1
          have hl := detach_len e1
          cases t with
          | fz _ _ => cases h
          | ex _ => cases h
          | nw b xs =>
            cases h
            have t1' := t1
            obtain ⟨l, ws, rfl, rfl, rw', hb⟩ := t1'
            refine ⟨Rg, _, I, a1, trivial, ⟨_, r, rfl, toksX tr hm hl fun a o e => .inl ⟨o, jn_right _ _ e⟩, b, xs, l, ws, rfl, rfl, rfl, rw'⟩, .inr ⟨l, ws, rfl⟩, fun z => by cases z⟩
          | sl i =>
            simp only at h
            cases ei : en[i]? with
            | none => rw [ei] at h; cases h
            | some s =>
              rw [ei] at h
              cases s with
              | un => cases h
              | lent => cases h
              | fro _ _ => cases h
              | ex _ => cases h
              | own p b xs =>
                cases h
                obtain ⟨l, ws, e3, e4, rw', hb⟩ := I.sl i _ ei
                have hv := t1.2
                rw [e3] at hv
                cases hv
                have hi := Ok.slotLt ei
                have O := I.off hi
                have OA := I.offApart (i := i)
                rw [e4] at OA
                refine ⟨_, _, O, OA, ⟨by rw [List.getElem?_set_self hi], l, ws, rfl, e3, hb⟩, ⟨_, r, rfl, toksX tr hm hl fun a o e => .inr ⟨i, o, by rw [e4]; exact e⟩, b, xs, l, ws, rfl, rfl, rfl, rw'⟩, .inr ⟨l, ws, rfl⟩, fun z => by cases z⟩
/-- the heap without J -/
def cut (H J : Hp) : Hp := fun a => match J a with
  | some _ => none
  | none => H a
theorem cut_some {H J : Hp} {a : Addr} {o : HO} (h : cut H J a = some o) : J a = none ∧ H a = some o := by
  unfold cut at h
  split at h
  · cases h
  · exact ⟨by assumption, h⟩
theorem cut_of {H J : Hp} {a : Addr} {o : HO} (h1 : J a = none) (h2 : H a = some o) : cut H J a = some o := by
  unfold cut
  rw [h1]
  exact h2
theorem cut_sub {R : Hp} (s : Same R H) (d : dj J R) : Same R (cut H J) := fun a o e => cut_of (d a o e) (s _ _ e)
theorem rdX {t : Tok} {v : V} {d : D} (I : Ok B pn env σ F N G Rg H) (T : TokOk B σ F N R t v) (sR : Same R H) (dR : dj J R) (AJ : Apart F G Rg H J) (h : rd env t = some d) : Rp (cut H J) v d := by
  have hF : Same F (cut H J) := cut_sub I.sF (dj_comm AJ.dF)
  have hb : ∀ b, Same (bsel b N F) (cut H J) := fun b => (bsel_sub I.sN).trans hF
  have hRg : ∀ i, Same (Rg i) (cut H J) := fun i => cut_sub (I.sR i) (dj_comm (AJ.dR i))
  have hR : Same R (cut H J) := cut_sub sR dR
  cases t with
  | fz b0 d0 => cases h; exact T.2.mono (hb _)
  | nw b0 xs =>
    cases h
    obtain ⟨l, vs, rfl, rfl, r, q⟩ := T
    exact .lst (.inl (hR _ _ sgl_same)) (r.mono (hb _))
  | ex d0 => cases h; exact T.1.mono hR
  | sl i =>
    obtain ⟨_, hv⟩ := T
    simp only [rd] at h
    cases e : env[i]? with
    | none => rw [e] at h; cases h
    | some s =>
      rw [e] at h
      have S := I.sl i s e
      cases s with
      | un => cases h
      | lent => cases h
      | fro b0 d0 =>
        cases h
        obtain ⟨_, w, e1, r⟩ := S
        rw [hv] at e1
        cases e1
        exact r.mono (hb _)
      | own p b0 xs =>
        cases h
        obtain ⟨l, vs, e1, e2, r, q⟩ := S
        rw [hv] at e1
        cases e1
        have s := hRg i
        rw [e2] at s
        exact .lst (.inl (s _ _ sgl_same)) (r.mono (hb _))
      | ex d0 =>
        cases h
        obtain ⟨w, e1, r, q⟩ := S
        rw [hv] at e1
        cases e1
        exact r.mono (hRg i)
theorem argsX_ok {q : Option (Bool × List D)} (I : Ok B pn env σ F N G Rg H) (AJ : Apart F G Rg H J) : ∀ {ms : List Bool} {ts : List Tok} {vs : List V} {args : List Arg}, TX B σ F N H J q ms ts vs → argsX env q ms ts = some args →
    (args.length = vs.length ∧ (∀ (j : Nat) (b : Bool) (d : D), args[j]? = some (Arg.v b d) → ∃ v : V, vs[j]? = some v ∧ b = false ∧ Rp (cut H J) v d) ∧
      (∀ (j : Nat) (b : Bool) (xs : List D), args[j]? = some (Arg.o b xs) → ms[j]? = some true ∧ ∃ l ws, vs[j]? = some (V.ref l) ∧ J = sgl l (.lst ws) ∧ RpA emp ws xs))
  | [], [], vs, args, T, h => by
    cases h
    have e : vs = [] := T
    subst e
    exact ⟨rfl, fun _ _ _ e => by simp at e, fun _ _ _ e => by simp at e⟩
  | [], _ :: _, _, _, _, h => by cases h
  | _ :: _, [], _, _, _, h => by cases h
  | m :: ms, t :: ts, vs, args, T, h => by
    obtain ⟨v, r, rfl, Tr, Tm⟩ := T
    simp only [argsX] at h
    cases e1 : argsX env q ms ts with
    | none => rw [e1] at h; cases h
    | some args' =>
      rw [e1] at h
      obtain ⟨i1, i2, i3⟩ := argsX_ok I AJ Tr e1
      cases m with
      | false =>
        simp only at h Tm
        obtain ⟨R, t1, sR, dR⟩ := Tm
        cases e2 : rd env t with
        | none => rw [e2] at h; cases h
        | some d =>
          rw [e2] at h
          cases h
          refine ⟨by rw [List.length_cons, List.length_cons, i1], fun j b d' e => ?_, fun j b xs e => ?_⟩
          · rcases cons_get e with ⟨rfl, e⟩ | ⟨k, rfl, e⟩
            · cases e; exact ⟨v, rfl, rfl, rdX I t1 sR dR AJ e2⟩
            · simpa using i2 k b d' e
          · rcases cons_get e with ⟨rfl, e⟩ | ⟨k, rfl, e⟩
            · cases e
            · simpa using i3 k b xs e
      | true =>
        simp only at h Tm
        obtain ⟨b, xs, l, ws, rfl, rfl, eJ, rw'⟩ := Tm
        simp only at h
        cases hs : xs.all scal with
        | false =>
          rw [hs] at h
          cases b <;> cases h
        | true =>
          rw [hs] at h
          have h' : some (Arg.o true xs :: args') = some args := by cases b <;> exact h
          cases h'
          refine ⟨by rw [List.length_cons, List.length_cons, i1], fun j b' d' e => ?_, fun j b' ys e => ?_⟩
          · rcases cons_get e with ⟨rfl, e⟩ | ⟨k, rfl, e⟩
            · cases e
            · simpa using i2 k b' d' e
          · rcases cons_get e with ⟨rfl, e⟩ | ⟨k, rfl, e⟩
            · cases e; exact ⟨rfl, l, ws, rfl, eJ, rw'.scal hs⟩
            · simpa using i3 k b' ys e
theorem detach_one : ∀ {ms : List Bool} {ts : List Tok} {q : Option (Bool × List D)} {w : Back} {e' : Env}, detach env ms ts = some (q, w, e') → ∀ j k : Nat, ms[j]? = some true → ms[k]? = some true → j = k
  | [], [], _, _, _, _, j, k, h, _ => by simp at h
  | [], _ :: _, _, _, _, h, _, _, _, _ => by cases h
  | _ :: _, [], _, _, _, h, _, _, _, _ => by cases h
  | m :: ms, t :: ts, q, w, e', h, j, k, hj, hk => by
    simp only [detach] at h
    cases e1 : detach env ms ts with
    | none => rw [e1] at h; cases h
    | some z =>
      obtain ⟨q', w', en⟩ := z
      rw [e1] at h
      have ih := detach_one e1
      cases m with
      | false =>
        rcases cons_get hj with ⟨rfl, e⟩ | ⟨j', rfl, hj⟩
        · cases e
        · rcases cons_get hk with ⟨rfl, e⟩ | ⟨k', rfl, hk⟩
          · cases e
          · rw [ih _ _ hj hk]
      | true =>
        simp only at h
        cases w' with
        | some _ => cases h
        | none =>
          obtain ⟨hm, _, _⟩ := detach_none e1
          have no : ∀ i : Nat, ms[i]? ≠ some true := fun i e => by
            have := List.all_eq_true.mp hm true (List.mem_of_getElem? e)
            cases this
          rcases cons_get hj with ⟨rfl, e⟩ | ⟨j', rfl, hj⟩
          · rcases cons_get hk with ⟨rfl, e⟩ | ⟨k', rfl, hk⟩
            · rfl
            · exact absurd hk (no _)
          · exact absurd hj (no _)
end
end DL
namespace DL
open PySem PySem.Spec PyProof.Rows L2
section
variable {B : Hp} {pn : Nat → Option Addr} {env : Env} {σ : L2.St} {F N G : Hp} {Rg : Nat → Hp} {H R J : Hp}
theorem detach_some : ∀ {ms : List Bool} {ts : List Tok} {q : Option (Bool × List D)} {w : Option (Nat × Bool)} {e' : Env}, detach env ms ts = some (q, some w, e') → ∃ j : Nat, ms[j]? = some true
  | [], [], _, _, _, h => by cases h
  | [], _ :: _, _, _, _, h => by cases h
  | _ :: _, [], _, _, _, h => by cases h
  | m :: ms, t :: ts, q, w, e', h => by
    simp only [detach] at h
    cases e1 : detach env ms ts with
    | none => rw [e1] at h; cases h
    | some z =>
      obtain ⟨q', w', en⟩ := z
      rw [e1] at h
      cases m with
      | true => exact ⟨0, rfl⟩
      | false =>
        cases h
        obtain ⟨j, e⟩ := detach_some e1
        exact ⟨j + 1, by simpa using e⟩
theorem argsX_mask {q : Option (Bool × List D)} : ∀ {ms : List Bool} {ts : List Tok} {args : List Arg}, argsX env q ms ts = some args → ∀ j : Nat, ms[j]? = some true → ∃ b xs, args[j]? = some (Arg.o b xs)
  | [], [], _, _, j, e => by simp at e
  | [], _ :: _, _, h, _, _ => by cases h
  | _ :: _, [], _, h, _, _ => by cases h
  | m :: ms, t :: ts, args, h, j, e => by
    simp only [argsX] at h
    cases e1 : argsX env q ms ts with
    | none => rw [e1] at h; cases h
    | some args' =>
      rw [e1] at h
      have ih := argsX_mask e1
      cases m with
      | false =>
        rcases cons_get e with ⟨rfl, e⟩ | ⟨k, rfl, e⟩
        · cases e
        · obtain ⟨b, xs, z⟩ := ih k e
          simp only at h
          cases e2 : rd env t with
          | none => rw [e2] at h; cases h
          | some d => rw [e2] at h; cases h; exact ⟨b, xs, by simpa using z⟩
      | true =>
        simp only at h
        cases q with
        | none => cases h
        | some q =>
          obtain ⟨b, xs⟩ := q
          simp only at h
          cases hs : xs.all scal with
          | false => rw [hs] at h; cases b <;> cases h
          | true =>
            rw [hs] at h
            have h' : some (Arg.o true xs :: args') = some args := by cases b <;> exact h
            cases h'
            rcases cons_get e with ⟨rfl, e⟩ | ⟨k, rfl, e⟩
            · exact ⟨_, _, rfl⟩
            · obtain ⟨b', ys, z⟩ := ih k e
              exact ⟨b', ys, by simpa using z⟩
/-- behind such a call: all but J stands -/
theorem Ok.cutGrow {e' : Env} {Rg1 : Nat → Hp} {H2 : Hp} (I : Ok B pn e' σ F N G Rg1 H) (AJ : Apart F G Rg1 H J) (s : Same (cut H J) H2) (hB : ∀ a, H2 a = none → H a = none) : Ok B pn e' σ F N G Rg1 H2 where
  len := I.len
  sF := (cut_sub I.sF (dj_comm AJ.dF)).trans s
  sN := I.sN
  sG := (cut_sub I.sG (dj_comm AJ.dG)).trans s
  dG := I.dG
  nB := I.nB
  nZ := I.nZ
  hB := fun a e => I.hB a (hB a e)
  sl := I.sl
  sR := fun i => (cut_sub (I.sR i) (dj_comm (AJ.dR i))).trans s
  dF := I.dF
  dRG := I.dRG
  dR := I.dR
  out := I.out
theorem newApart {e' : Env} {Rg1 : Nat → Hp} {H2 : Hp} (I : Ok B pn e' σ F N G Rg1 H) {M : Hp} (sM : Same M H2) (dM : dj H M) : Apart F G Rg1 H2 M :=
  ⟨sM, fun a o e => I.sF.free (dM a o e), fun a o e => I.sG.free (dM a o e), fun i a o e => (I.sR i).free (dM a o e)⟩
theorem Apart.up {Rg1 : Nat → Hp} {H2 M : Hp} (A : Apart F G Rg1 H2 R) (d : dj M R) : Apart (jn F M) G Rg1 H2 R := ⟨A.sR, fun a o e => jn_none_of (d a o e) (A.dF a o e), A.dG, A.dR⟩
theorem ap_callX {W : L2.WX} {cm : String → Addr} {mask : List Bool} {fn : Fn} : ApR W cm (opCallX mask fn) (fun σ vs H Q => spD cm fn vs H Q (WE W σ)) := by
  intro B pn env σ F N G Rg H ts vs Q I T h
  unfold opCallX at h
  cases e1 : detach env mask ts with
  | none => rw [e1] at h; exact h.elim
  | some z =>
    obtain ⟨q, w, en⟩ := z
    rw [e1] at h
    simp only at h
    obtain ⟨Rg1, J, I1, AJ, BK, TX1, sJ, wJ⟩ := detach_ok I T e1
    cases e2 : argsX en q mask ts with
    | none => rw [e2] at h; exact h.elim
    | some args =>
      rw [e2] at h
      simp only at h
      obtain ⟨a1, a2, a3⟩ := argsX_ok I1 AJ TX1 e2
      have P : PArgs (cut H J) emp J args vs :=
        { len := a1
          pv := fun j b d e => let ⟨v, e1, e2, r⟩ := a2 j b d e; ⟨v, e1, by subst e2; exact r⟩
          po := fun j b xs e => let ⟨_, l, ws, e1, e2, r⟩ := a3 j b xs e; ⟨l, ws, e1, e2, r.mono (emp_same _)⟩
          one := fun j k b xs c ys ej ek => detach_one e1 j k (a3 j b xs ej).1 (a3 k c ys ek).1
          non := fun no => by
            cases w with
            | none => exact wJ rfl
            | some w =>
              obtain ⟨j, ej⟩ := detach_some e1
              obtain ⟨b, xs, e⟩ := argsX_mask e2 j ej
              exact absurd e (no j b xs) }
      have scH : Same (cut H J) H := fun a o e => (cut_some e).2
      obtain ⟨l0, En, hJ⟩ := entry_of (Bc := H) (Nc := emp) (F := cut H J) (H := H) scH (emp_same _) (dj_emp _) (fun _ _ _ z => nomatch z) (fun _ e => e) AJ.sR (fun a o e => by unfold cut; rw [e]) P
      refine ⟨H, _, cut H J, emp, _, _, args, En, ?_⟩
      cases e3 : fn args with
      | bad => rw [e3] at h; exact h
      | exc c =>
        rw [e3] at h
        simp only at h ⊢
        cases w with
        | some q => exact h.elim
        | none =>
          intro F2 N2 Rg2 H2 I2 hF2 hN2
          have I3 := I1.cutGrow (H2 := H2) AJ (hF2.trans I2.sF) I2.hB
          exact h F N Rg1 H2 I3 (Same.refl _) (Same.refl _)
      | ok t outs =>
        rw [e3] at h
        simp only at h ⊢
        cases e4 : unX t with
        | none => rw [e4] at h; exact h.elim
        | some t' =>
          rw [e4] at h
          simp only at h
          cases e5 : finishX en w outs with
          | none => rw [e5] at h; exact h.elim
          | some e6 =>
            rw [e5] at h
            have nt : noSl t = true := by cases t <;> first | rfl | cases e4
            refine ⟨nt, fun v F2 N2 Rg2 H2 R I2 hF2 hN2 TR AR dHR => ?_⟩
            have I3 := I1.cutGrow (H2 := H2) AJ (hF2.trans I2.sF) I2.hB
            -- the slot is given back
            have back : ∃ Rg3, Ok B pn e6 σ F N G Rg3 H2 ∧ ∀ M, dj H M → Same M H2 → (∀ k, dj (Rg2 k) M) → Apart F G Rg3 H2 M := by
              cases w with
              | none => cases e5; exact ⟨Rg1, I3, fun M d s _ => newApart I1 s d⟩
              | some w =>
                cases w with
                | none => cases e5; exact ⟨Rg1, I3, fun M d s _ => newApart I1 s d⟩
                | some w =>
                  obtain ⟨i, p⟩ := w
                  simp only [finishX] at e5
                  cases e7 : getOut outs with
                  | none => rw [e7] at e5; cases e5
                  | some q =>
                    obtain ⟨b, xs⟩ := q
                    rw [e7] at e5
                    simp only at e5
                    cases hs : xs.all scal with
                    | false => rw [hs] at e5; cases e5
                    | true =>
                      rw [hs] at e5
                      cases e5
                      obtain ⟨k, ek⟩ := getOut_at e7
                      obtain ⟨bi, l, ws, ej, ev, eb⟩ := BK
                      subst ej
                      have el : l0 = l := by
                        rcases hJ with z | ⟨ws', z⟩
                        · have z := congrFun z l
                          rw [sgl_same] at z
                          cases z
                        · have z := congrFun z l
                          rw [sgl_same] at z
                          exact (sgl_some z.symm).1.symm
                      subst el
                      obtain ⟨l', ws', f1, f2, r2, f3⟩ := I2.sl k _ (outEnv_own ek)
                      have el' : l' = l0 := by
                        rw [if_pos rfl] at f3
                        unfold cPn at f3
                        split at f3
                        · exact (Option.some.inj f3).symm
                        · cases f3
                      subst el'
                      have hi := Ok.slotLt bi
                      have sR2 := I2.sR k
                      rw [f2] at sR2
                      have I4 := I3.put (σ' := σ) (i := i) (s := .own p true xs) (R := sgl l' (.lst ws')) hi ⟨l', ws', ev, rfl, r2.scal hs, eb⟩ sR2 (dj_sgl (AJ.dF _ _ sgl_same)) (dj_sgl (AJ.dG _ _ sgl_same)) (fun j _ => dj_sgl (AJ.dR j _ _ sgl_same)) (fun _ _ => rfl) rfl
                      refine ⟨_, I4, fun M d s dk => ?_⟩
                      have A := newApart (G := G) I1 s d
                      refine ⟨A.sR, A.dF, A.dG, fun j => ?_⟩
                      by_cases hj : j = i
                      · subst hj
                        rw [setR_same]
                        have := dk k
                        rw [f2] at this
                        exact this
                      · rw [setR_ne hj]
                        exact A.dR j
            obtain ⟨Rg3, I4, mk⟩ := back
            have dN2 : dj H N2 := I2.nB
            have sN2 : Same N2 H2 := I2.sN.trans I2.sF
            have AN : Apart F G Rg3 H2 N2 := mk N2 dN2 sN2 fun k a o e => by
              cases q : Rg2 k a with
              | none => rfl
              | some u =>
                have := I2.dF k a u q
                rw [I2.sN _ _ e] at this
                cases this
            have A0 : Apart F G Rg3 H2 R := mk R dHR AR.sR AR.dR
            have dB : ∀ {M : Hp}, dj H M → dj B M := fun d a o e => I1.hB a (d a o e)
            cases t with
            | sl j => cases nt
            | ex d =>
              cases e4
              exact h v F N Rg3 H2 R I4 (Same.refl _) (Same.refl _) ⟨TR.1, dB dHR, TR.2.2⟩ A0
            | fz b d =>
              simp only [unX] at e4
              obtain ⟨eR, rv⟩ := TR
              cases hs : scal d with
              | true =>
                rw [hs] at e4
                cases e4
                exact h v F N Rg3 H2 emp I4 (Same.refl _) (Same.refl _) ⟨rfl, rv.scal hs⟩ .none
              | false =>
                rw [hs] at e4
                cases b with
                | false => cases e4
                | true =>
                  cases e4
                  exact h v F N Rg3 H2 N2 I4 (Same.refl _) (Same.refl _) ⟨rv, dB dN2, I2.nZ⟩ AN
            | nw b xs =>
              simp only [unX] at e4
              obtain ⟨l, ws, rfl, eR, rv, bl⟩ := TR
              subst eR
              have bl' : B l = none := I1.hB l bl
              cases hs : xs.all scal with
              | true =>
                rw [hs] at e4
                cases e4
                exact h _ F N Rg3 H2 _ I4 (Same.refl _) (Same.refl _) ⟨l, ws, rfl, rfl, rv.scal hs, bl'⟩ A0
              | false =>
                rw [hs] at e4
                cases b with
                | false => cases e4
                | true =>
                  cases e4
                  have I5 := I4.frzN AN (dB dN2) I2.nZ
                  refine h _ _ _ Rg3 H2 _ I5 (jn_left AN.dF) (jn_left (I4.djN AN)) ⟨l, ws, rfl, rfl, rv.mono jn_right, bl'⟩ (A0.up fun a o e => ?_)
                  exact I2.sN.free (AR.dF a o e)
end
end DL
namespace DL
open PySem PySem.Spec PyProof.Rows L2
/-! ### statements -/
inductive Out where
  | nx (e : Env)
  | bk (e : Env)
  | ct (e : Env)
  | rt (t : Tok) (e : Env)
  | exc (c : String) (e : Env)
  | bad
abbrev DS := Env → Out
def AftS (B : Hp) (pn : Nat → Option Addr) (F N G : Hp) (W : L2.WX) (cm : String → Addr) (Dn : Ends) : Out → Prop
  | .nx e' => ∀ σ' F' N' Rg' H', Ok B pn e' σ' F' N' G Rg' H' → Same F F' → Same N N' → Dn.nx σ' H'
  | .bk e' => ∀ σ' F' N' Rg' H', Ok B pn e' σ' F' N' G Rg' H' → Same F F' → Same N N' → Dn.bk σ' H'
  | .ct e' => ∀ σ' F' N' Rg' H', Ok B pn e' σ' F' N' G Rg' H' → Same F F' → Same N N' → Dn.ct σ' H'
  | .rt t e' => ∀ σ' v F' N' Rg' H' R, Ok B pn e' σ' F' N' G Rg' H' → Same F F' → Same N N' → TokOk B σ' F' N' R t v → Apart F' G Rg' H' R → Dn.rt v H'
  | .exc c e' => ∀ σ' F' N' Rg' H', Ok B pn e' σ' F' N' G Rg' H' → Same F F' → Same N N' → W (.ref (cm c)) none σ' H'
  | .bad => False
def tS (W : L2.WX) (cm : String → Addr) (s : DS) : TS := fun Dn σ H => ∃ B pn F N G Rg env, Ok B pn env σ F N G Rg H ∧ AftS B pn F N G W cm Dn (s env)
theorem AftS.low {B : Hp} {pn : Nat → Option Addr} {F N G F1 N1 : Hp} {W : L2.WX} {cm : String → Addr} {Dn : Ends} {r : Out} (hF : Same F F1) (hN : Same N N1) (h : AftS B pn F N G W cm Dn r) : AftS B pn F1 N1 G W cm Dn r := by
  cases r with
  | nx e' => exact fun σ' F' N' Rg' H' I hF' hN' => h σ' F' N' Rg' H' I (hF.trans hF') (hN.trans hN')
  | bk e' => exact fun σ' F' N' Rg' H' I hF' hN' => h σ' F' N' Rg' H' I (hF.trans hF') (hN.trans hN')
  | ct e' => exact fun σ' F' N' Rg' H' I hF' hN' => h σ' F' N' Rg' H' I (hF.trans hF') (hN.trans hN')
  | rt t e' => exact fun σ' v F' N' Rg' H' R I hF' hN' => h σ' v F' N' Rg' H' R I (hF.trans hF') (hN.trans hN')
  | exc c e' => exact fun σ' F' N' Rg' H' I hF' hN' => h σ' F' N' Rg' H' I (hF.trans hF') (hN.trans hN')
  | bad => exact h
def sNop : DS := fun env => .nx env
def sSeq (a b : DS) : DS := fun env => match a env with
  | .nx e => b e
  | .bk e => .bk e
  | .ct e => .ct e
  | .rt t e => .rt t e
  | .exc c e => .exc c e
  | .bad => .bad
section
variable {W : L2.WX} {cm : String → Addr} {Dn : Ends} {σ : L2.St} {H : Hp}
theorem ts_nop (h : tS W cm sNop Dn σ H) : tNext Dn σ H := by
  obtain ⟨B, pn, F, N, G, Rg, env, I, h⟩ := h
  exact h σ F N Rg H I (Same.refl _) (Same.refl _)
theorem ts_seq {a b : DS} (h : tS W cm (sSeq a b) Dn σ H) : tSeq (tS W cm a) (tS W cm b) Dn σ H := by
  obtain ⟨B, pn, F, N, G, Rg, env, I, h⟩ := h
  refine ⟨B, pn, F, N, G, Rg, env, I, ?_⟩
  unfold sSeq at h
  cases e : a env with
  | nx e1 =>
    rw [e] at h
    exact fun σ' F' N' Rg' H' I' hF hN => ⟨B, pn, F', N', G, Rg', e1, I', h.low hF hN⟩
  | bk e1 => rw [e] at h; exact h
  | ct e1 => rw [e] at h; exact h
  | rt t e1 => rw [e] at h; exact h
  | exc c e1 => rw [e] at h; exact h
  | bad => rw [e] at h; exact h
end
section
variable {X : Cx} {W : L2.WX} {cm : String → Addr}
theorem g_nil : PSs X [] (tS W cm sNop) := PSsimp pss_nil fun _ _ _ h => ts_nop h
theorem g_cons {st : Stmt} {r : List Stmt} {a b : DS} (h1 : PS X st (tS W cm a)) (h2 : PSs X r (tS W cm b)) : PSs X (st :: r) (tS W cm (sSeq a b)) := PSsimp (pss_cons h1 h2) fun _ _ _ h => ts_seq h
theorem g_one {st : Stmt} {a : DS} (h1 : PS X st (tS W cm a)) : PSs X [st] (tS W cm a) := pss_one h1
end
/-! ### names stored -/
def setSlot (env : Env) (i : Nat) (s : Slot) : Option Env := match env[i]? with
  | none => none
  | some (.own true _ _) => none
  | some .lent => none
  | some _ => some (env.set i s)
def store (env : Env) (i : Nat) : Tok → Option Env
  | .fz b d => setSlot env i (.fro b d)
  | .nw b xs => setSlot env i (.own false b xs)
  | .ex d => setSlot env i (.ex d)
  | .sl j => match take env (.sl j) with
    | none => none
    | some (b, d, e1) => setSlot e1 i (.fro b d)
section
variable {B : Hp} {pn : Nat → Option Addr} {env : Env} {σ : L2.St} {F N G : Hp} {Rg : Nat → Hp} {H R : Hp}
theorem setSlot_lt {i : Nat} {s : Slot} {e' : Env} (h : setSlot env i s = some e') : i < env.length ∧ e' = env.set i s := by
  unfold setSlot at h
  cases e : env[i]? with
  | none => rw [e] at h; cases h
  | some t =>
    rw [e] at h
    have hi := Ok.slotLt e
    cases t with
    | own p b xs =>
      cases p with
      | true => cases h
      | false => cases h; exact ⟨hi, rfl⟩
    | lent => cases h
    | un => cases h; exact ⟨hi, rfl⟩
    | fro b d => cases h; exact ⟨hi, rfl⟩
    | ex d => cases h; exact ⟨hi, rfl⟩
theorem Ok.set {i : Nat} {s : Slot} {v : V} {e' : Env} (I : Ok B pn env σ F N G Rg H) (h : setSlot env i s = some e') (A : Apart F G Rg H R) (hs : SlotOk B pn (σ.set i (some v)) F N i R s) : ∃ Rg', Ok B pn e' (σ.set i (some v)) F N G Rg' H := by
  obtain ⟨hi, rfl⟩ := setSlot_lt h
  exact ⟨_, I.put hi hs A.sR A.dF A.dG (fun j _ => A.dR j) (fun j hj => List.getElem?_set_ne (Ne.symm hj)) (by rw [List.length_set])⟩
theorem set_at {i : Nat} {v : V} (h : i < σ.length) : (σ.set i (some v))[i]? = some (some v) := List.getElem?_set_self h
theorem store_ok {i : Nat} {t : Tok} {v : V} {e' : Env} (I : Ok B pn env σ F N G Rg H) (T : TokOk B σ F N R t v) (A : Apart F G Rg H R) (h : store env i t = some e') : ∃ F' N' Rg', Ok B pn e' (σ.set i (some v)) F' N' G Rg' H ∧ Same F F' ∧ Same N N' := by
  have hl : ∀ {s : Slot} {e1 : Env} {σ1 : L2.St} {F1 N1 : Hp} {Rg1 : Nat → Hp}, Ok B pn e1 σ1 F1 N1 G Rg1 H → setSlot e1 i s = some e' → i < σ1.length := fun J z => by rw [← J.len]; exact (setSlot_lt z).1
  cases t with
  | fz b d =>
    have hi := hl I h
    obtain ⟨Rg', J⟩ := I.set (v := v) h .none ⟨rfl, v, set_at hi, T.2⟩
    exact ⟨F, N, Rg', J, Same.refl _, Same.refl _⟩
  | nw b xs =>
    have hi := hl I h
    obtain ⟨l, vs, rfl, rfl, r, q⟩ := T
    obtain ⟨Rg', J⟩ := I.set (v := .ref l) h A ⟨l, vs, set_at hi, rfl, r, q⟩
    exact ⟨F, N, Rg', J, Same.refl _, Same.refl _⟩
  | ex d =>
    have hi := hl I h
    obtain ⟨Rg', J⟩ := I.set (v := v) h A ⟨v, set_at hi, T⟩
    exact ⟨F, N, Rg', J, Same.refl _, Same.refl _⟩
  | sl j =>
    simp only [store] at h
    cases e : take env (.sl j) with
    | none => rw [e] at h; cases h
    | some q =>
      obtain ⟨b, d, e1⟩ := q
      rw [e] at h
      obtain ⟨F1, N1, Rg1, I1, hF, hN, r⟩ := take_ok I T A e
      have hi := hl I1 h
      obtain ⟨Rg', J⟩ := I1.set (v := v) h .none ⟨rfl, v, set_at hi, r⟩
      exact ⟨F1, N1, Rg', J, hF, hN⟩
end
def sSet (i : Nat) (f : DE) : DS := fun env => match f env with
  | .ok t e1 => match store e1 i t with
    | none => .bad
    | some e2 => .nx e2
  | .exc c e1 => .exc c e1
  | .bad => .bad
def sDrop (f : DE) : DS := fun env => match f env with
  | .ok _ e1 => .nx e1
  | .exc c e1 => .exc c e1
  | .bad => .bad
def sRet (f : DE) : DS := fun env => match f env with
  | .ok t e1 => .rt t e1
  | .exc c e1 => .exc c e1
  | .bad => .bad
section
variable {W : L2.WX} {cm : String → Addr} {Dn : Ends} {σ : L2.St} {H : Hp}
theorem ts_set {i : Nat} {f : DE} (h : tS W cm (sSet i f) Dn σ H) : tAsg (tD W cm f) (gName i) Dn σ H := by
  obtain ⟨B, pn, F, N, G, Rg, env, I, h⟩ := h
  refine ⟨B, pn, F, N, G, Rg, env, I, ?_⟩
  unfold sSet at h
  cases e : f env with
  | bad => rw [e] at h; exact h
  | exc c e1 => rw [e] at h; exact fun F' N' Rg' H' I' hF hN => h σ F' N' Rg' H' I' hF hN
  | ok t e1 =>
    rw [e] at h
    simp only at h
    cases e2 : store e1 i t with
    | none => rw [e2] at h; exact h.elim
    | some en =>
      rw [e2] at h
      intro v F' N' Rg' H' R I' hF hN T A
      obtain ⟨F2, N2, Rg2, I2, hF2, hN2⟩ := store_ok I' T A e2
      exact h _ F2 N2 Rg2 H' I2 (hF.trans hF2) (hN.trans hN2)
theorem ts_drop {f : DE} (h : tS W cm (sDrop f) Dn σ H) : tDrop (tD W cm f) Dn σ H := by
  obtain ⟨B, pn, F, N, G, Rg, env, I, h⟩ := h
  refine ⟨B, pn, F, N, G, Rg, env, I, ?_⟩
  unfold sDrop at h
  cases e : f env with
  | bad => rw [e] at h; exact h
  | exc c e1 => rw [e] at h; exact fun F' N' Rg' H' I' hF hN => h σ F' N' Rg' H' I' hF hN
  | ok t e1 =>
    rw [e] at h
    exact fun v F' N' Rg' H' R I' hF hN T A => h σ F' N' Rg' H' I' hF hN
theorem ts_ret {f : DE} (h : tS W cm (sRet f) Dn σ H) : tRet (tD W cm f) Dn σ H := by
  obtain ⟨B, pn, F, N, G, Rg, env, I, h⟩ := h
  refine ⟨B, pn, F, N, G, Rg, env, I, ?_⟩
  unfold sRet at h
  cases e : f env with
  | bad => rw [e] at h; exact h
  | exc c e1 => rw [e] at h; exact fun F' N' Rg' H' I' hF hN => h σ F' N' Rg' H' I' hF hN
  | ok t e1 =>
    rw [e] at h
    exact fun v F' N' Rg' H' R I' hF hN T A => h σ v F' N' Rg' H' R I' hF hN T A
end
/-! ### tests -/
inductive TR where
  | ok (b : Bool) (e : Env)
  | exc (c : String) (e : Env)
  | bad
abbrev DT := Env → TR
def AftT (B : Hp) (pn : Nat → Option Addr) (σ : L2.St) (F N G : Hp) (W : L2.WX) (cm : String → Addr) (Q : Bool → Hp → Prop) : TR → Prop
  | .ok b e' => ∀ F' N' Rg' H', Ok B pn e' σ F' N' G Rg' H' → Same F F' → Same N N' → Q b H'
  | .exc c e' => ∀ F' N' Rg' H', Ok B pn e' σ F' N' G Rg' H' → Same F F' → Same N N' → W (.ref (cm c)) none σ H'
  | .bad => False
def tT (W : L2.WX) (cm : String → Addr) (f : DT) : TT := fun σ H Q => ∃ B pn F N G Rg env, Ok B pn env σ F N G Rg H ∧ AftT B pn σ F N G W cm Q (f env)
theorem AftT.low {B : Hp} {pn : Nat → Option Addr} {σ : L2.St} {F N G F1 N1 : Hp} {W : L2.WX} {cm : String → Addr} {Q : Bool → Hp → Prop} {r : TR} (hF : Same F F1) (hN : Same N N1) (h : AftT B pn σ F N G W cm Q r) : AftT B pn σ F1 N1 G W cm Q r := by
  cases r with
  | ok t e' => exact fun F' N' Rg' H' I hF' hN' => h F' N' Rg' H' I (hF.trans hF') (hN.trans hN')
  | exc c e' => exact fun F' N' Rg' H' I hF' hN' => h F' N' Rg' H' I (hF.trans hF') (hN.trans hN')
  | bad => exact h
theorem PTimp {X : Cx} {e : Expr} {t t' : TT} (h : PT X e t) (k : ∀ σ H Q, t' σ H Q → t σ H Q) : PT X e t' := ⟨fun pins s σ H Q I hw => h.run pins s σ H Q I (k _ _ _ hw)⟩
theorem PWimp {X : Cx} {e : Expr} {t t' : TT} (h : PW X e t) (k : ∀ σ H Q, t' σ H Q → t σ H Q) : PW X e t' := ⟨fun wh pins s σ H Q I hw => h.run wh pins s σ H Q I (k _ _ _ hw)⟩
/-- a value's truth, where it is a bool -/
def dVal (f : DE) : DT := fun env => match f env with
  | .ok t e1 => match rd e1 t with
    | some (.bool b) => .ok b e1
    | _ => .bad
  | .exc c e1 => .exc c e1
  | .bad => .bad
def dAnd (f g : DT) : DT := fun env => match f env with
  | .ok true e1 => g e1
  | r => r
def dOr (f g : DT) : DT := fun env => match f env with
  | .ok false e1 => g e1
  | r => r
def dNot (f : DT) : DT := fun env => match f env with
  | .ok b e1 => .ok (!b) e1
  | r => r
section
variable {W : L2.WX} {cm : String → Addr} {σ : L2.St} {H : Hp} {Q : Bool → Hp → Prop}
theorem tt_val {f : DE} (h : tT W cm (dVal f) σ H Q) : tD W cm f σ H fun x H1 => ∃ c, x = .bl c ∧ Q c H1 := by
  obtain ⟨B, pn, F, N, G, Rg, env, I, h⟩ := h
  refine ⟨B, pn, F, N, G, Rg, env, I, ?_⟩
  unfold dVal at h
  cases e : f env with
  | bad => rw [e] at h; exact h
  | exc c e1 => rw [e] at h; exact h
  | ok t e1 =>
    rw [e] at h
    simp only at h
    intro v F' N' Rg' H' R I' hF hN T A
    cases e2 : rd e1 t with
    | none => rw [e2] at h; exact h.elim
    | some d =>
      have r := rd_ok I' T A.sR e2
      rw [e2] at h
      cases d with
      | bool b =>
        cases r
        exact ⟨b, rfl, h F' N' Rg' H' I' hF hN⟩
      | _ => exact h.elim
theorem tt_and {f g : DT} (h : tT W cm (dAnd f g) σ H Q) : tAnd (tT W cm f) (tT W cm g) σ H Q := by
  obtain ⟨B, pn, F, N, G, Rg, env, I, h⟩ := h
  refine ⟨B, pn, F, N, G, Rg, env, I, ?_⟩
  unfold dAnd at h
  cases e : f env with
  | bad => rw [e] at h; exact h
  | exc c e1 => rw [e] at h; exact h
  | ok b e1 =>
    rw [e] at h
    intro F' N' Rg' H' I' hF hN
    cases b with
    | true => exact iteT ⟨B, pn, F', N', G, Rg', e1, I', h.low hF hN⟩
    | false => exact iteF (h F' N' Rg' H' I' hF hN)
theorem tt_or {f g : DT} (h : tT W cm (dOr f g) σ H Q) : tOr (tT W cm f) (tT W cm g) σ H Q := by
  obtain ⟨B, pn, F, N, G, Rg, env, I, h⟩ := h
  refine ⟨B, pn, F, N, G, Rg, env, I, ?_⟩
  unfold dOr at h
  cases e : f env with
  | bad => rw [e] at h; exact h
  | exc c e1 => rw [e] at h; exact h
  | ok b e1 =>
    rw [e] at h
    intro F' N' Rg' H' I' hF hN
    cases b with
    | false => exact iteF ⟨B, pn, F', N', G, Rg', e1, I', h.low hF hN⟩
    | true => exact iteT (h F' N' Rg' H' I' hF hN)
theorem tt_not {f : DT} (h : tT W cm (dNot f) σ H Q) : tNot (tT W cm f) σ H Q := by
  obtain ⟨B, pn, F, N, G, Rg, env, I, h⟩ := h
  refine ⟨B, pn, F, N, G, Rg, env, I, ?_⟩
  unfold dNot at h
  cases e : f env with
  | bad => rw [e] at h; exact h
  | exc c e1 => rw [e] at h; exact h
  | ok b e1 =>
    rw [e] at h
    exact fun F' N' Rg' H' I' hF hN => h F' N' Rg' H' I' hF hN
end
section
variable {X : Cx} {W : L2.WX} {cm : String → Addr} {a b : Expr} {pos : Pos} {f g : DT} {rest : List Expr}
theorem gt_val {e : Expr} {f : DE} (h : PE X e (tD W cm f)) (he : ∀ whole, isTrue e X.env whole = (do let v ← whole; standAt e.pos; holding [v] (truthy v)) := by intro _; rfl) : PT X e (tT W cm (dVal f)) := PTimp (pt_val h he) fun _ _ _ h => tt_val h
theorem gt_not (h : PT X a (tT W cm f)) : PT X (.UnaryOp .Not a pos) (tT W cm (dNot f)) := PTimp (pt_not h) fun _ _ _ h => tt_not h
theorem gw_and1 (h : PT X a (tT W cm f)) : PW X (.BoolOp .And [a] pos) (tT W cm f) := pw_and1 h
theorem gw_or1 (h : PT X a (tT W cm f)) : PW X (.BoolOp .Or [a] pos) (tT W cm f) := pw_or1 h
theorem gw_and (h : PT X a (tT W cm f)) (h2 : PW X (.BoolOp .And (b :: rest) pos) (tT W cm g)) : PW X (.BoolOp .And (a :: b :: rest) pos) (tT W cm (dAnd f g)) := PWimp (pw_and h h2) fun _ _ _ h => tt_and h
theorem gw_or (h : PT X a (tT W cm f)) (h2 : PW X (.BoolOp .Or (b :: rest) pos) (tT W cm g)) : PW X (.BoolOp .Or (a :: b :: rest) pos) (tT W cm (dOr f g)) := PWimp (pw_or h h2) fun _ _ _ h => tt_or h
end
/-! ### and, or, not, if .. else as values -/
def eVal (f : DT) : DE := fun env => match f env with
  | .ok b e1 => .ok (.fz true (.bool b)) e1
  | .exc c e1 => .exc c e1
  | .bad => .bad
/-- a and b: a a bool -/
def eAnd (f g : DE) : DE := fun env => match dVal f env with
  | .ok true e1 => g e1
  | .ok false e1 => .ok (.fz true (.bool false)) e1
  | .exc c e1 => .exc c e1
  | .bad => .bad
def eOr (f g : DE) : DE := fun env => match dVal f env with
  | .ok false e1 => g e1
  | .ok true e1 => .ok (.fz true (.bool true)) e1
  | .exc c e1 => .exc c e1
  | .bad => .bad
def eNot (f : DE) : DE := fun env => match dVal f env with
  | .ok b e1 => .ok (.fz true (.bool (!b))) e1
  | .exc c e1 => .exc c e1
  | .bad => .bad
def eIf (c : DT) (f g : DE) : DE := fun env => match c env with
  | .ok true e1 => f e1
  | .ok false e1 => g e1
  | .exc c e1 => .exc c e1
  | .bad => .bad
def sIf (c : DT) (f g : DS) : DS := fun env => match c env with
  | .ok true e1 => f e1
  | .ok false e1 => g e1
  | .exc c e1 => .exc c e1
  | .bad => .bad
theorem tD_of_aft {W : L2.WX} {cm : String → Addr} {σ : L2.St} {Q : VK} {B : Hp} {pn : Nat → Option Addr} {F N G : Hp} {Rg : Nat → Hp} {H : Hp} {env : Env} {f : DE} (I : Ok B pn env σ F N G Rg H) (h : Aft B pn σ F N G W cm Q (f env)) : tD W cm f σ H Q := ⟨B, pn, F, N, G, Rg, env, I, h⟩
section
variable {W : L2.WX} {cm : String → Addr} {σ : L2.St} {H : Hp} {Q : VK}
/-- through a test of a value -/
theorem val_through {f : DE} {B : Hp} {pn : Nat → Option Addr} {F N G : Hp} {Rg : Nat → Hp} {env : Env} {K : Bool → Hp → Prop} (I : Ok B pn env σ F N G Rg H) (h : AftT B pn σ F N G W cm K (dVal f env)) : tD W cm f σ H fun x H1 => ∃ c, x = .bl c ∧ K c H1 := tt_val ⟨B, pn, F, N, G, Rg, env, I, h⟩
theorem bool_done {B : Hp} {pn : Nat → Option Addr} {F N G F' N' : Hp} {Rg' : Nat → Hp} {H' : Hp} {e1 : Env} {b : Bool} (h : Aft B pn σ F N G W cm Q (.ok (.fz true (.bool b)) e1)) (I' : Ok B pn e1 σ F' N' G Rg' H') (hF : Same F F') (hN : Same N N') : Q (.bl b) H' :=
  h (.bl b) F' N' Rg' H' emp I' hF hN ⟨rfl, .bl b⟩ .none
theorem td_and {f g : DE} (h : tD W cm (eAnd f g) σ H Q) : tAndV (tD W cm f) (tD W cm g) σ H Q := by
  obtain ⟨B, pn, F, N, G, Rg, env, I, h⟩ := h
  refine val_through I ?_
  unfold eAnd at h
  cases e : dVal f env with
  | bad => rw [e] at h; exact h
  | exc c e1 => rw [e] at h; exact h
  | ok b e1 =>
    rw [e] at h
    intro F' N' Rg' H' I' hF hN
    cases b with
    | true => exact iteT ⟨B, pn, F', N', G, Rg', e1, I', h.low hF hN⟩
    | false => exact iteF (bool_done h I' hF hN)
theorem td_or {f g : DE} (h : tD W cm (eOr f g) σ H Q) : tOrV (tD W cm f) (tD W cm g) σ H Q := by
  obtain ⟨B, pn, F, N, G, Rg, env, I, h⟩ := h
  refine val_through I ?_
  unfold eOr at h
  cases e : dVal f env with
  | bad => rw [e] at h; exact h
  | exc c e1 => rw [e] at h; exact h
  | ok b e1 =>
    rw [e] at h
    intro F' N' Rg' H' I' hF hN
    cases b with
    | false => exact iteF ⟨B, pn, F', N', G, Rg', e1, I', h.low hF hN⟩
    | true => exact iteT (bool_done h I' hF hN)
theorem td_not {f : DE} (h : tD W cm (eNot f) σ H Q) : tNotV (tD W cm f) σ H Q := by
  obtain ⟨B, pn, F, N, G, Rg, env, I, h⟩ := h
  refine val_through I ?_
  unfold eNot at h
  cases e : dVal f env with
  | bad => rw [e] at h; exact h
  | exc c e1 => rw [e] at h; exact h
  | ok b e1 =>
    rw [e] at h
    exact fun F' N' Rg' H' I' hF hN => bool_done h I' hF hN
theorem td_if {c : DT} {f g : DE} (h : tD W cm (eIf c f g) σ H Q) : tIf (tT W cm c) (tD W cm f) (tD W cm g) σ H Q := by
  obtain ⟨B, pn, F, N, G, Rg, env, I, h⟩ := h
  refine ⟨B, pn, F, N, G, Rg, env, I, ?_⟩
  unfold eIf at h
  cases e : c env with
  | bad => rw [e] at h; exact h
  | exc c e1 => rw [e] at h; exact h
  | ok b e1 =>
    rw [e] at h
    intro F' N' Rg' H' I' hF hN
    cases b with
    | true => exact iteT ⟨B, pn, F', N', G, Rg', e1, I', h.low hF hN⟩
    | false => exact iteF ⟨B, pn, F', N', G, Rg', e1, I', h.low hF hN⟩
theorem ts_if {c : DT} {f g : DS} {Dn : Ends} (h : tS W cm (sIf c f g) Dn σ H) : tIfS (tT W cm c) (tS W cm f) (tS W cm g) Dn σ H := by
  obtain ⟨B, pn, F, N, G, Rg, env, I, h⟩ := h
  refine ⟨B, pn, F, N, G, Rg, env, I, ?_⟩
  unfold sIf at h
  cases e : c env with
  | bad => rw [e] at h; exact h
  | exc c e1 => rw [e] at h; exact fun F' N' Rg' H' I' hF hN => h σ F' N' Rg' H' I' hF hN
  | ok b e1 =>
    rw [e] at h
    intro F' N' Rg' H' I' hF hN
    cases b with
    | true => exact iteT ⟨B, pn, F', N', G, Rg', e1, I', h.low hF hN⟩
    | false => exact iteF ⟨B, pn, F', N', G, Rg', e1, I', h.low hF hN⟩
end
section
variable {X : Cx} {W : L2.WX} {cm : String → Addr} {a b c : Expr} {pos : Pos} {f g : DE} {rest : List Expr} {ct : DT} {x y : List Stmt} {s t : DS}
theorem ge_one {op} (h : PE X a (tD W cm f)) : PE X (.BoolOp op [a] pos) (tD W cm f) := pe_one h
theorem ge_and (h : PE X a (tD W cm f)) (h2 : PE X (.BoolOp .And (b :: rest) pos) (tD W cm g)) : PE X (.BoolOp .And (a :: b :: rest) pos) (tD W cm (eAnd f g)) := PEimp (pe_and h h2) fun _ _ _ h => td_and h
theorem ge_or (h : PE X a (tD W cm f)) (h2 : PE X (.BoolOp .Or (b :: rest) pos) (tD W cm g)) : PE X (.BoolOp .Or (a :: b :: rest) pos) (tD W cm (eOr f g)) := PEimp (pe_or h h2) fun _ _ _ h => td_or h
theorem ge_not (h : PE X a (tD W cm f)) : PE X (.UnaryOp .Not a pos) (tD W cm (eNot f)) := PEimp (pe_not h) fun _ _ _ h => td_not h
theorem ge_if (hc : PT X c (tT W cm ct)) (h : PE X a (tD W cm f)) (h2 : PE X b (tD W cm g)) : PE X (.IfExp c a b pos) (tD W cm (eIf ct f g)) := PEimp (pe_ifExp hc h h2) fun _ _ _ h => td_if h
theorem gs_if (hc : PT X c (tT W cm ct)) (h : PSs X x (tS W cm s)) (h2 : PSs X y (tS W cm t)) : PS X (.If c x y pos) (tS W cm (sIf ct s t)) := PSimp (ps_if hc h h2) fun _ _ _ h => ts_if h
theorem gs_ret (h : PE X a (tD W cm f)) : PS X (.Return (some a) pos) (tS W cm (sRet f)) := PSimp (ps_ret h) fun _ _ _ h => ts_ret h
theorem gs_expr (h : PE X a (tD W cm f)) (hs : swapsWith a none pos.line X.env = pure false := by rfl) : PS X (.Expr a pos) (tS W cm (sDrop f)) := PSimp (ps_expr h hs) fun _ _ _ h => ts_drop h
theorem gs_set {i : Nat} {x : Str} {pos' : Pos} (hN : X.N.Nodup) (hi : X.N[i]? = some x) (hx : Loc X.env.scope x) (h : PE X a (tD W cm f)) (hs : swapsWith a (some (.Name x pos')) pos.line X.env = pure false := by rfl)
    (hf : X.fn x = true ∨ X.env.scope.names.lookup x = some .local := by first | exact .inl rfl | exact .inr rfl | assumption) : PS X (.Assign [.Name x pos'] a pos) (tS W cm (sSet i f)) := PSimp (ps_set hN hi hx h hs hf) fun _ _ _ h => ts_set h
end
end DL
namespace DL
open PySem PySem.Spec PyProof.Rows L2
/-! ### targets -/
mutual
inductive Tg where
  | nm (i : Nat)
  | tp (ts : Tgs)
inductive Tgs where
  | nil
  | cons (t : Tg) (r : Tgs)
end
def Tgs.len : Tgs → Nat
  | .nil => 0
  | .cons _ r => r.len + 1
mutual
def Tg.has : Tg → Nat → Bool
  | .nm i, j => decide (i = j)
  | .tp ts, j => ts.has j
def Tgs.has : Tgs → Nat → Bool
  | .nil, _ => false
  | .cons t r, j => t.has j || r.has j
end
mutual
def bind1 : Tg → Bool → D → Env → Option Env
  | .nm i, b, d, env => setSlot env i (.fro b d)
  | .tp ts, b, .list ds, env => bindN ts b ds env
  | .tp ts, b, .tuple ds, env => bindN ts b ds env
  | .tp _, _, _, _ => none
def bindN : Tgs → Bool → List D → Env → Option Env
  | .nil, _, [], env => some env
  | .cons t r, b, d :: ds, env => match bind1 t b d env with
    | none => none
    | some e1 => bindN r b ds e1
  | _, _, _, _ => none
end
mutual
def gT (K : PySem.W.Frag) : Tg → TG
  | .nm i => gName i
  | .tp ts => fun v σ H Q => gTup K ts.len (gTs K ts) v σ H Q ∨ gLst K ts.len (gTs K ts) v σ H Q
def gTs (K : PySem.W.Frag) : Tgs → TGs
  | .nil => gNil
  | .cons t r => gCons (gT K t) (gTs K r)
end
theorem bindN_len : ∀ {ts : Tgs} {b : Bool} {ds : List D} {env e' : Env}, bindN ts b ds env = some e' → ds.length = ts.len
  | .nil, _, [], _, _, _ => rfl
  | .nil, _, _ :: _, _, _, h => by simp [bindN] at h
  | .cons _ _, _, [], _, _, h => by simp [bindN] at h
  | .cons t r, b, d :: ds, env, e', h => by
    simp only [bindN] at h
    cases e : bind1 t b d env with
    | none => rw [e] at h; cases h
    | some e1 =>
      rw [e] at h
      rw [List.length_cons, bindN_len h]
      rfl
section
variable {B : Hp} {pn : Nat → Option Addr} {F N G H : Hp}
mutual
theorem bind1_ok {K : PySem.W.Frag} : ∀ {t : Tg} {b : Bool} {d : D} {v : V} {env e' : Env} {σ : L2.St} {Rg : Nat → Hp} {Q : L2.St → Hp → Prop}, Ok B pn env σ F N G Rg H → Rp (bsel b N F) v d → bind1 t b d env = some e' →
    (∀ σ' Rg', Ok B pn e' σ' F N G Rg' H → (∀ j, t.has j = false → σ'[j]? = σ[j]?) → Q σ' H) → gT K t v σ H Q
  | .nm i, b, d, v, env, e', σ, Rg, Q, I, r, h, q => by
    have hi := (setSlot_lt h).1
    rw [I.len] at hi
    obtain ⟨Rg', J⟩ := I.set (v := v) h .none ⟨rfl, v, set_at hi, r⟩
    exact q _ _ J fun j hj => List.getElem?_set_ne (by
      intro z
      subst z
      simp [Tg.has] at hj)
  | .tp ts, b, .list ds, v, env, e', σ, Rg, Q, I, r, h, q => by
    simp only [bind1] at h
    cases r with
    | lst hr ra =>
      rename_i a xs
      exact .inr ⟨a, xs, rfl, .inl (Rd.same ((bsel_sub I.sN).trans I.sF) hr), (ra.len).trans (bindN_len h), bindN_ok I ra h fun σ' Rg' I' hj => q σ' Rg' I' fun j z => hj j (by simpa [Tg.has] using z)⟩
  | .tp ts, b, .tuple ds, v, env, e', σ, Rg, Q, I, r, h, q => by
    simp only [bind1] at h
    cases r with
    | tup hr ra =>
      rename_i a xs
      exact .inl ⟨a, xs, rfl, .inl (Rd.same ((bsel_sub I.sN).trans I.sF) hr), (ra.len).trans (bindN_len h), bindN_ok I ra h fun σ' Rg' I' hj => q σ' Rg' I' fun j z => hj j (by simpa [Tg.has] using z)⟩
  | .tp _, _, .none, _, _, _, _, _, _, _, _, h, _ => by simp [bind1] at h
  | .tp _, _, .bool _, _, _, _, _, _, _, _, _, h, _ => by simp [bind1] at h
  | .tp _, _, .int _, _, _, _, _, _, _, _, _, h, _ => by simp [bind1] at h
  | .tp _, _, .str _, _, _, _, _, _, _, _, _, h, _ => by simp [bind1] at h
  | .tp _, _, .dict _, _, _, _, _, _, _, _, _, h, _ => by simp [bind1] at h
theorem bindN_ok {K : PySem.W.Frag} : ∀ {ts : Tgs} {b : Bool} {ds : List D} {vs : List V} {env e' : Env} {σ : L2.St} {Rg : Nat → Hp} {Q : L2.St → Hp → Prop}, Ok B pn env σ F N G Rg H → RpA (bsel b N F) vs ds → bindN ts b ds env = some e' →
    (∀ σ' Rg', Ok B pn e' σ' F N G Rg' H → (∀ j, ts.has j = false → σ'[j]? = σ[j]?) → Q σ' H) → gTs K ts vs σ H Q
  | .nil, b, [], vs, env, e', σ, Rg, Q, I, r, h, q => by
    simp only [bindN] at h
    cases h
    cases r
    exact ⟨rfl, q _ _ I fun _ _ => rfl⟩
  | .nil, b, _ :: _, vs, env, e', σ, Rg, Q, I, r, h, q => by simp [bindN] at h
  | .cons _ _, b, [], vs, env, e', σ, Rg, Q, I, r, h, q => by simp [bindN] at h
  | .cons t ts, b, d :: ds, vs, env, e', σ, Rg, Q, I, r, h, q => by
    simp only [bindN] at h
    cases r with
    | cons r1 r2 =>
      cases e : bind1 t b d env with
      | none => rw [e] at h; cases h
      | some e1 =>
        rw [e] at h
        exact ⟨_, _, rfl, bind1_ok I r1 e fun σ1 Rg1 I1 h1 => bindN_ok I1 r2 h fun σ2 Rg2 I2 h2 => q σ2 Rg2 I2 fun j z => by
          simp only [Tgs.has, Bool.or_eq_false_iff] at z
          exact (h2 j z.2).trans (h1 j z.1)⟩
end
end
theorem PGor {X : Cx} {e : Expr} {t u : TG} (h1 : PG X e t) (h2 : PG X e u) : PG X e (fun v σ H Q => t v σ H Q ∨ u v σ H Q) := ⟨fun pins s σ H v w Q I r q => by
  rcases q with q | q
  · exact h1.run pins s σ H v w Q I r q
  · exact h2.run pins s σ H v w Q I r q⟩
section
variable {X : Cx} {pos : Pos}
theorem gg_name {i : Nat} {x : Str} (hN : X.N.Nodup) (hi : X.N[i]? = some x) (hx : Loc X.env.scope x) (hf : X.fn x = true ∨ X.env.scope.names.lookup x = some .local := by first | exact .inl rfl | exact .inr rfl | assumption) : PG X (.Name x pos) (gT X.K (.nm i)) := pg_name hN hi hx hf
theorem gg_nil : PGs X [] (gTs X.K .nil) := pgs_nil
theorem gg_cons {e : Expr} {es : List Expr} {t : Tg} {r : Tgs} (h1 : PG X e (gT X.K t)) (h2 : PGs X es (gTs X.K r)) (hs : (assignEach (e :: es) X.env).map (·.2) = assign e X.env :: (assignEach es X.env).map (·.2) := by rfl) : PGs X (e :: es) (gTs X.K (.cons t r)) := pgs_cons h1 h2 hs
theorem gg_tup {es : List Expr} {k : Nat} {r : Tgs} (hc : X.calm = true) (h : PGs X es (gTs X.K r)) (hn : (assignEach es X.env).length = r.len := by rfl) (hst : (assignEach es X.env).findIdx? (·.1) = none := by rfl) : PG X (.Tuple es k pos) (gT X.K (.tp r)) :=
  PGor (pg_tup hc h hn hst) (pg_lst hc h hn hst)
end
/-- targets = value -/
def sUnp (t : Tg) (f : DE) : DS := fun env => match f env with
  | .ok tk e1 => match take e1 tk with
    | none => .bad
    | some (b, d, e2) => match bind1 t b d e2 with
      | none => .bad
      | some e3 => .nx e3
  | .exc c e1 => .exc c e1
  | .bad => .bad
theorem ts_unp {W : L2.WX} {cm : String → Addr} {Dn : Ends} {σ : L2.St} {H : Hp} {K : PySem.W.Frag} {t : Tg} {f : DE} (h : tS W cm (sUnp t f) Dn σ H) : tAsg (tD W cm f) (gT K t) Dn σ H := by
  obtain ⟨B, pn, F, N, G, Rg, env, I, h⟩ := h
  refine ⟨B, pn, F, N, G, Rg, env, I, ?_⟩
  unfold sUnp at h
  cases e : f env with
  | bad => rw [e] at h; exact h
  | exc c e1 => rw [e] at h; exact fun F' N' Rg' H' I' hF hN => h σ F' N' Rg' H' I' hF hN
  | ok tk e1 =>
    rw [e] at h
    simp only at h
    cases e2 : take e1 tk with
    | none => rw [e2] at h; exact h.elim
    | some q =>
      obtain ⟨b, d, en⟩ := q
      rw [e2] at h
      simp only at h
      cases e3 : bind1 t b d en with
      | none => rw [e3] at h; exact h.elim
      | some en' =>
        rw [e3] at h
        intro v F' N' Rg' H' R I' hF hN T A
        obtain ⟨F2, N2, Rg2, I2, hF2, hN2, r2⟩ := take_ok I' T A e2
        exact bind1_ok I2 r2 e3 fun σ' Rg3 I3 _ => h σ' F2 N2 Rg3 H' I3 (hF.trans hF2) (hN.trans hN2)
theorem gs_unp {X : Cx} {W : L2.WX} {cm : String → Addr} {tg a : Expr} {pos : Pos} {t : Tg} {f : DE} (h : PE X a (tD W cm f)) (hg : PG X tg (gT X.K t)) (hs : swapsWithSole [tg] a pos.line X.env = pure false := by rfl) (hw : swappedStores [tg] a X.env = pure none := by rfl)
    (h1 : (assignEach [tg] X.env).map (·.2) = [assign tg X.env] := by rfl) : PS X (.Assign [tg] a pos) (tS W cm (sUnp t f)) := PSimp (ps_asg h hg hs hw h1) fun _ _ _ h => ts_unp h

/-! ### what is walked -/
structure Iter (J : It) (B : Hp) (pn : Nat → Option Addr) (G F1 N1 : Hp) (b : Bool) (ds : List D) : Prop where
  go : ∀ {env : Env} {σ : L2.St} {F N G' : Hp} {Rg : Nat → Hp} {H : Hp} (i : Nat), Same G G' → Ok B pn env σ F N G' Rg H → Same F1 F → Same N1 N → i < ds.length → J.go i H
  stop : ∀ {env : Env} {σ : L2.St} {F N G' : Hp} {Rg : Nat → Hp} {H : Hp}, Same G G' → Ok B pn env σ F N G' Rg H → Same F1 F → Same N1 N → J.stop ds.length H
  yld : ∀ {env : Env} {σ : L2.St} {F N G' : Hp} {Rg : Nat → Hp} {H : Hp} (i : Nat) (x : V) (H' : Hp), Same G G' → Ok B pn env σ F N G' Rg H → Same F1 F → Same N1 N → i < ds.length → J.yld i H x H' →
    ∃ F' N' d, ds[i]? = some d ∧ Ok B pn env σ F' N' G' Rg H' ∧ Same F F' ∧ Same N N' ∧ Rp (bsel b N' F') x d
inductive SR where
  | ok (b : Bool) (ds : List D) (l : Option (Nat × Bool × Bool × List D)) (e : Env)
  | exc (c : String) (e : Env)
  | bad
abbrev DI := Env → SR
def pnS (pn : Nat → Option Addr) (i : Nat) (l : Addr) : Nat → Option Addr := fun j => if j = i then some l else pn j
def SrcOk (W : L2.WX) (cm : String → Addr) (wi : TI) (src : DI) : Prop :=
  ∀ {B : Hp} {pn : Nat → Option Addr} {env : Env} {σ : L2.St} {F N G : Hp} {Rg : Nat → Hp} {H : Hp} {R : It → Hp → Prop}, Ok B pn env σ F N G Rg H → (match src env with
    | .ok b ds none e1 => ∀ J F1 N1 Rg1 H1, Ok B pn e1 σ F1 N1 G Rg1 H1 → Same F F1 → Same N N1 → Iter J B pn G F1 N1 b ds → R J H1
    | .ok b ds (some (i, p, c, xs)) e1 => ∀ J F1 N1 Rg1 H1 l vs, Ok B (pnS pn i l) e1 σ F1 N1 (jn G (sgl l (.lst vs))) Rg1 H1 → Same F F1 → Same N N1 → dj G (sgl l (.lst vs)) → e1[i]? = some .lent → σ[i]? = some (some (.ref l)) → RpA (bsel c N1 F1) vs xs → (if p then pn i = some l else B l = none) →
      Iter J B (pnS pn i l) (jn G (sgl l (.lst vs))) F1 N1 b ds → R J H1
    | .exc c e1 => ∀ F1 N1 Rg1 H1, Ok B pn e1 σ F1 N1 G Rg1 H1 → Same F F1 → Same N N1 → W (.ref (cm c)) none σ H1
    | .bad => False) → wi σ H R
/-- an expression's value, walked: a list, a tuple -/
def iSeq (f : DE) : DI := fun env => match f env with
  | .ok t e1 => match t with
    | .sl i => match e1[i]? with
      | some (.own p b xs) => .ok b xs (some (i, p, b, xs)) (e1.set i .lent)
      | some (.fro b (.list ds)) => .ok b ds none e1
      | some (.fro b (.tuple ds)) => .ok b ds none e1
      | some (.ex (.list ds)) => .ok true ds none (e1.set i (.fro true (.list ds)))
      | some (.ex (.tuple ds)) => .ok true ds none (e1.set i (.fro true (.tuple ds)))
      | _ => .bad
    | t => match take e1 t with
      | some (b, .list ds, e2) => .ok b ds none e2
      | some (b, .tuple ds, e2) => .ok b ds none e2
      | _ => .bad
  | .exc c e1 => .exc c e1
  | .bad => .bad
theorem iter_list {K : PySem.W.Frag} {B : Hp} {pn : Nat → Option Addr} {G F1 N1 : Hp} {b : Bool} {ds : List D} {a : Addr} {vs : List V} (hs : ∀ {env : Env} {σ : L2.St} {F N G' : Hp} {Rg : Nat → Hp} {H : Hp}, Same G G' → Ok B pn env σ F N G' Rg H → Same F1 F → Same N1 N → SqL K H a vs)
    (r : RpA (bsel b N1 F1) vs ds) : Iter (Itl K a) B pn G F1 N1 b ds where
  go := fun i sg I hF hN hi => by
    have hi' : i < vs.length := by rw [r.len]; exact hi
    exact ⟨vs, vs[i], hs sg I hF hN, List.getElem?_eq_getElem hi'⟩
  stop := fun sg I hF hN => ⟨vs, hs sg I hF hN, Nat.le_of_eq r.len⟩
  yld := fun {env σ F N G' Rg H} i x H' sg I hF hN hi y => by
    obtain ⟨rfl, y⟩ := y
    have e := y vs (hs sg I hF hN)
    obtain ⟨d, ed, rd⟩ := r.getV e
    exact ⟨F, N, d, ed, I, Same.refl _, Same.refl _, rd.mono (bsel_mono hN hF)⟩
theorem iter_tup {K : PySem.W.Frag} {B : Hp} {pn : Nat → Option Addr} {G F1 N1 : Hp} {b : Bool} {ds : List D} {a : Addr} {vs : List V} (hs : ∀ {env : Env} {σ : L2.St} {F N G' : Hp} {Rg : Nat → Hp} {H : Hp}, Same G G' → Ok B pn env σ F N G' Rg H → Same F1 F → Same N1 N → SqT K H a vs)
    (r : RpA (bsel b N1 F1) vs ds) : Iter (Itt K a) B pn G F1 N1 b ds where
  go := fun i sg I hF hN hi => by
    have hi' : i < vs.length := by rw [r.len]; exact hi
    exact ⟨vs, vs[i], hs sg I hF hN, List.getElem?_eq_getElem hi'⟩
  stop := fun sg I hF hN => ⟨vs, hs sg I hF hN, Nat.le_of_eq r.len⟩
  yld := fun {env σ F N G' Rg H} i x H' sg I hF hN hi y => by
    obtain ⟨rfl, y⟩ := y
    have e := y vs (hs sg I hF hN)
    obtain ⟨d, ed, rd⟩ := r.getV e
    exact ⟨F, N, d, ed, I, Same.refl _, Same.refl _, rd.mono (bsel_mono hN hF)⟩
/-- a slot lent -/
theorem Ok.lend {B : Hp} {pn : Nat → Option Addr} {env : Env} {σ : L2.St} {F N G : Hp} {Rg : Nat → Hp} {H : Hp} {i : Nat} {p b : Bool} {xs : List D} (I : Ok B pn env σ F N G Rg H) (e : env[i]? = some (.own p b xs)) :
    ∃ l vs Rg', Ok B (pnS pn i l) (env.set i .lent) σ F N (jn G (sgl l (.lst vs))) Rg' H ∧ dj G (sgl l (.lst vs)) ∧ σ[i]? = some (some (.ref l)) ∧ RpA (bsel b N F) vs xs ∧ (if p then pn i = some l else B l = none) := by
  obtain ⟨l, vs, e1, e2, r, q⟩ := I.sl i _ e
  have hi := Ok.slotLt e
  have I1 := I.off hi
  have A1 := I.offApart (i := i)
  rw [e2] at A1
  have I2 := I1.res A1
  have I3 : Ok B (pnS pn i l) (env.set i .un) σ F N (jn G (sgl l (.lst vs))) (setR Rg i emp) H := { I2 with
    sl := fun j s ej => by
      have z := I2.sl j s ej
      by_cases hj : j = i
      · subst hj
        rw [List.getElem?_set_self hi] at ej
        cases ej
        exact z
      · cases s with
        | un => exact z
        | fro b d => exact z
        | ex d => exact z
        | own p b xs =>
          obtain ⟨l', vs', z1, z2, z3, z4⟩ := z
          exact ⟨l', vs', z1, z2, z3, by unfold pnS; rw [if_neg hj]; exact z4⟩
        | lent =>
          obtain ⟨z0, l', z1, z2⟩ := z
          exact ⟨z0, l', by unfold pnS; rw [if_neg hj]; exact z1, z2⟩ }
  have I4 := I3.put (σ' := σ) (i := i) (s := .lent) (R := emp) (by rw [List.length_set]; exact hi) ⟨rfl, l, by unfold pnS; rw [if_pos rfl], e1⟩ (emp_same _) (dj_emp _) (dj_emp _) (fun _ _ => dj_emp _) (fun _ _ => rfl) rfl
  rw [set_set] at I4
  exact ⟨l, vs, _, I4, A1.dG, e1, r, q⟩
theorem Ok.unlend {B : Hp} {pn : Nat → Option Addr} {env : Env} {σ : L2.St} {F N G : Hp} {Rg : Nat → Hp} {H : Hp} {i : Nat} {p b : Bool} {xs : List D} {l : Addr} {vs : List V} (I : Ok B (pnS pn i l) env σ F N (jn G (sgl l (.lst vs))) Rg H) (d : dj G (sgl l (.lst vs)))
    (e : env[i]? = some .lent) (r : RpA (bsel b N F) vs xs) (q : if p then pn i = some l else B l = none) : ∃ Rg', Ok B pn (env.set i (.own p b xs)) σ F N G Rg' H ∧ ∀ R, Apart F (jn G (sgl l (.lst vs))) Rg H R → Apart F G Rg' H R := by
  obtain ⟨z0, l', e1, e2⟩ := I.sl i _ e
  have el : l' = l := by
    unfold pnS at e1
    rw [if_pos rfl] at e1
    exact (Option.some.inj e1).symm
  subst el
  have hi := Ok.slotLt e
  have A : Apart F G Rg H (sgl l' (.lst vs)) := .back I d
  have I1 := (I.unres (jn_left d)).off hi
  have I3 : Ok B pn (env.set i .un) σ F N G (setR Rg i emp) H := { I1 with
    sl := fun j s ej => by
      have z := I1.sl j s ej
      by_cases hj : j = i
      · subst hj
        rw [List.getElem?_set_self hi] at ej
        cases ej
        exact z
      · cases s with
        | un => exact z
        | fro b d => exact z
        | ex d => exact z
        | own p b xs =>
          obtain ⟨l', vs', z1, z2, z3, z4⟩ := z
          refine ⟨l', vs', z1, z2, z3, ?_⟩
          unfold pnS at z4
          rw [if_neg hj] at z4
          exact z4
        | lent =>
          obtain ⟨z0, l', z1, z2⟩ := z
          refine ⟨z0, l', ?_, z2⟩
          unfold pnS at z1
          rw [if_neg hj] at z1
          exact z1 }
  have I4 := I3.put (σ' := σ) (i := i) (s := .own p b xs) (R := sgl l' (.lst vs)) (by rw [List.length_set]; exact hi) ⟨l', vs, e2, rfl, r, q⟩ A.sR A.dF A.dG (fun j hj => by rw [setR_ne hj]; exact A.dR j) (fun _ _ => rfl) rfl
  rw [set_set] at I4
  refine ⟨_, I4, fun R AR => ⟨AR.sR, AR.dF, fun a o e => (jn_none (AR.dG a o e)).2, fun j => ?_⟩⟩
  by_cases hj : j = i
  · subst hj
    rw [setR_same]
    exact fun a o e => (jn_none (AR.dG a o e)).1
  · rw [setR_ne hj, setR_ne hj]
    exact AR.dR j
theorem src_seq {K : PySem.W.Frag} {W : L2.WX} {cm : String → Addr} {f : DE} : SrcOk W cm (fun σ H R => iList K (tD W cm f) σ H R ∨ iTup K (tD W cm f) σ H R) (iSeq f) := by
  intro B pn env σ F N G Rg H R I h
  unfold iSeq at h
  cases e : f env with
  | bad => rw [e] at h; exact h.elim
  | exc c e1 => rw [e] at h; exact .inl ⟨B, pn, F, N, G, Rg, env, I, by rw [e]; exact h⟩
  | ok t e1 =>
    rw [e] at h
    simp only at h
    -- the frozen ways
    have frL : ∀ {b : Bool} {ds : List D} {e2 : Env}, (∀ {v F' N' Rg' H' R}, Ok B pn e1 σ F' N' G Rg' H' → TokOk B σ F' N' R t v → Apart F' G Rg' H' R → ∃ F2 N2 Rg2, Ok B pn e2 σ F2 N2 G Rg2 H' ∧ Same F' F2 ∧ Same N' N2 ∧ Rp (bsel b N2 F2) v (.list ds)) →
        (∀ J F1 N1 Rg1 H1, Ok B pn e2 σ F1 N1 G Rg1 H1 → Same F F1 → Same N N1 → Iter J B pn G F1 N1 b ds → R J H1) → iList K (tD W cm f) σ H R := fun {b ds e2} k q => by
      refine ⟨B, pn, F, N, G, Rg, env, I, ?_⟩
      rw [e]
      intro v F' N' Rg' H' R' I' hF hN T A
      obtain ⟨F2, N2, Rg2, I2, hF2, hN2, r2⟩ := k I' T A
      cases r2 with
      | lst hr ra =>
        rename_i a xs
        have hs : ∀ {H3 : Hp}, Same F2 H3 → SqL K H3 a xs := fun s => .inl (Rd.same ((bsel_sub I2.sN).trans s) hr)
        exact ⟨a, rfl, ⟨xs, hs I2.sF⟩, q _ F2 N2 Rg2 H' I2 (hF.trans hF2) (hN.trans hN2) (iter_list (vs := xs) (fun _ I3 hF3 hN3 => hs (hF3.trans I3.sF)) ra)⟩
    have frT : ∀ {b : Bool} {ds : List D} {e2 : Env}, (∀ {v F' N' Rg' H' R}, Ok B pn e1 σ F' N' G Rg' H' → TokOk B σ F' N' R t v → Apart F' G Rg' H' R → ∃ F2 N2 Rg2, Ok B pn e2 σ F2 N2 G Rg2 H' ∧ Same F' F2 ∧ Same N' N2 ∧ Rp (bsel b N2 F2) v (.tuple ds)) →
        (∀ J F1 N1 Rg1 H1, Ok B pn e2 σ F1 N1 G Rg1 H1 → Same F F1 → Same N N1 → Iter J B pn G F1 N1 b ds → R J H1) → iTup K (tD W cm f) σ H R := fun {b ds e2} k q => by
      refine ⟨B, pn, F, N, G, Rg, env, I, ?_⟩
      rw [e]
      intro v F' N' Rg' H' R' I' hF hN T A
      obtain ⟨F2, N2, Rg2, I2, hF2, hN2, r2⟩ := k I' T A
      cases r2 with
      | tup hr ra =>
        rename_i a xs
        have hs : ∀ {H3 : Hp}, Same F2 H3 → SqT K H3 a xs := fun s => .inl (Rd.same ((bsel_sub I2.sN).trans s) hr)
        exact ⟨a, rfl, ⟨xs, hs I2.sF⟩, q _ F2 N2 Rg2 H' I2 (hF.trans hF2) (hN.trans hN2) (iter_tup (vs := xs) (fun _ I3 hF3 hN3 => hs (hF3.trans I3.sF)) ra)⟩
    have gen : (∀ i, t ≠ .sl i) → (match (match take e1 t with
        | some (b, .list ds, e2) => SR.ok b ds none e2
        | some (b, .tuple ds, e2) => SR.ok b ds none e2
        | _ => SR.bad) with
      | .ok b ds none e1 => ∀ J F1 N1 Rg1 H1, Ok B pn e1 σ F1 N1 G Rg1 H1 → Same F F1 → Same N N1 → Iter J B pn G F1 N1 b ds → R J H1
      | _ => False) → (iList K (tD W cm f) σ H R ∨ iTup K (tD W cm f) σ H R) := fun _ h => by
      cases e2 : take e1 t with
      | none => rw [e2] at h; exact h.elim
      | some q =>
        obtain ⟨b, d, en⟩ := q
        rw [e2] at h
        cases d with
        | list ds => exact .inl (frL (fun I' T A => take_ok I' T A e2) h)
        | tuple ds => exact .inr (frT (fun I' T A => take_ok I' T A e2) h)
        | _ => exact h.elim
    cases t with
    | fz b d => refine gen (fun i z => by cases z) ?_; cases d <;> first | exact h | exact h.elim
    | nw b xs => exact gen (fun i z => by cases z) h
    | ex d => refine gen (fun i z => by cases z) ?_; cases d <;> first | exact h | exact h.elim
    | sl i =>
      simp only at h
      cases ei : e1[i]? with
      | none => rw [ei] at h; exact h.elim
      | some s =>
        rw [ei] at h
        have tk : ∀ {b : Bool} {d : D} {en : Env}, take e1 (.sl i) = some (b, d, en) → ∀ {v F' N' Rg' H' R}, Ok B pn e1 σ F' N' G Rg' H' → TokOk B σ F' N' R (.sl i) v → Apart F' G Rg' H' R → ∃ F2 N2 Rg2, Ok B pn en σ F2 N2 G Rg2 H' ∧ Same F' F2 ∧ Same N' N2 ∧ Rp (bsel b N2 F2) v d := fun z => by
          intro v F' N' Rg' H' R I' T A
          exact take_ok I' T A z
        cases s with
        | un => exact h.elim
        | lent => exact h.elim
        | fro b d =>
          cases d with
          | list ds => exact .inl (frL (tk (by simp only [take]; rw [ei])) h)
          | tuple ds => exact .inr (frT (tk (by simp only [take]; rw [ei])) h)
          | _ => exact h.elim
        | ex d =>
          cases d with
          | list ds => exact .inl (frL (tk (by simp only [take]; rw [ei])) h)
          | tuple ds => exact .inr (frT (tk (by simp only [take]; rw [ei])) h)
          | _ => exact h.elim
        | own p b xs =>
          refine .inl ⟨B, pn, F, N, G, Rg, env, I, ?_⟩
          rw [e]
          intro v F' N' Rg' H' R' I' hF hN T A
          obtain ⟨l, vs, Rg2, I2, d2, e3, r2, q2⟩ := I'.lend ei
          have hv := T.2
          rw [e3] at hv
          cases hv
          have hs : ∀ {G' H3 : Hp}, Same (jn G (sgl l (.lst vs))) H3 → SqL K H3 l vs := fun s => .inl (.inl (s _ _ (jn_right _ _ sgl_same)))
          exact ⟨l, rfl, ⟨vs, hs (G' := G) I2.sG⟩, h _ F' N' Rg2 H' l vs I2 hF hN d2 (by rw [List.getElem?_set_self (Ok.slotLt ei)]) e3 r2 q2 (iter_list (vs := vs) (fun sg I3 _ _ => hs (G' := G) (sg.trans I3.sG)) r2)⟩
end DL
namespace DL
open PySem PySem.Spec PyProof.Rows L2
/-! ### for -/
def forL (t : Tg) (body : DS) (b : Bool) : List D → Env → Out
  | [], env => .nx env
  | d :: ds, env => match bind1 t b d env with
    | none => .bad
    | some e1 => match body e1 with
      | .nx e2 => forL t body b ds e2
      | .ct e2 => forL t body b ds e2
      | .bk e2 => .nx e2
      | .rt tk e2 => .rt tk e2
      | .exc c e2 => .exc c e2
      | .bad => .bad
def giveBack (i : Nat) (p b : Bool) (xs : List D) (e : Env) : Option Env := match e[i]? with
  | some .lent => some (e.set i (.own p b xs))
  | _ => none
def unlendO (i : Nat) (p b : Bool) (xs : List D) : Out → Out
  | .nx e => match giveBack i p b xs e with
    | some e1 => .nx e1
    | none => .bad
  | .rt t e => match giveBack i p b xs e with
    | some e1 => .rt t e1
    | none => .bad
  | .exc c e => match giveBack i p b xs e with
    | some e1 => .exc c e1
    | none => .bad
  | _ => .bad
def sFor (t : Tg) (src : DI) (body : DS) : DS := fun env => match src env with
  | .ok b ds none e1 => forL t body b ds e1
  | .ok b ds (some (i, p, c, xs)) e1 => unlendO i p c xs (forL t body b ds e1)
  | .exc c e1 => .exc c e1
  | .bad => .bad
theorem giveBack_some {i : Nat} {p b : Bool} {xs : List D} {e e1 : Env} (h : giveBack i p b xs e = some e1) : e[i]? = some .lent ∧ e1 = e.set i (.own p b xs) := by
  unfold giveBack at h
  split at h
  · exact ⟨by assumption, (Option.some.inj h).symm⟩
  · cases h
theorem AftS.unlend {B : Hp} {pn : Nat → Option Addr} {F N G : Hp} {W : L2.WX} {cm : String → Addr} {Dn : Ends} {i : Nat} {p b : Bool} {xs : List D} {l : Addr} {vs : List V} {o : Out} (d : dj G (sgl l (.lst vs))) (r : RpA (bsel b N F) vs xs) (q : if p then pn i = some l else B l = none)
    (h : AftS B pn F N G W cm Dn (unlendO i p b xs o)) : AftS B (pnS pn i l) F N (jn G (sgl l (.lst vs))) W cm Dn o := by
  cases o with
  | bad => exact h
  | bk e => exact h.elim
  | ct e => exact h.elim
  | nx e =>
    intro σ' F' N' Rg' H' I hF hN
    simp only [unlendO] at h
    cases g : giveBack i p b xs e with
    | none => rw [g] at h; exact h.elim
    | some e1 =>
      rw [g] at h
      obtain ⟨g1, rfl⟩ := giveBack_some g
      obtain ⟨Rg2, I2, _⟩ := I.unlend d g1 (r.mono (bsel_mono hN hF)) q
      exact h σ' F' N' Rg2 H' I2 hF hN
  | exc c e =>
    intro σ' F' N' Rg' H' I hF hN
    simp only [unlendO] at h
    cases g : giveBack i p b xs e with
    | none => rw [g] at h; exact h.elim
    | some e1 =>
      rw [g] at h
      obtain ⟨g1, rfl⟩ := giveBack_some g
      obtain ⟨Rg2, I2, _⟩ := I.unlend d g1 (r.mono (bsel_mono hN hF)) q
      exact h σ' F' N' Rg2 H' I2 hF hN
  | rt t e =>
    intro σ' v F' N' Rg' H' R I hF hN T A
    simp only [unlendO] at h
    cases g : giveBack i p b xs e with
    | none => rw [g] at h; exact h.elim
    | some e1 =>
      rw [g] at h
      obtain ⟨g1, rfl⟩ := giveBack_some g
      obtain ⟨Rg2, I2, ap⟩ := I.unlend d g1 (r.mono (bsel_mono hN hF)) q
      exact h σ' v F' N' Rg2 H' R I2 hF hN T (ap R A)
section
variable {W : L2.WX} {cm : String → Addr}
theorem for_core {K : PySem.W.Frag} {B : Hp} {pn : Nat → Option Addr} {env : Env} {σ : L2.St} {F1 N1 G : Hp} {Rg : Nat → Hp} {H : Hp} {t : Tg} {body : DS} {b : Bool} {ds : List D} {J : It} {Dn : Ends}
    (I : Ok B pn env σ F1 N1 G Rg H) (it : Iter J B pn G F1 N1 b ds) (h : AftS B pn F1 N1 G W cm Dn (forL t body b ds env)) :
    ∃ Wv : Nat → Nat → L2.St → Hp → Prop, (∃ m, Wv 0 m σ H) ∧ ∀ i m σ H, Wv i m σ H → (J.stop i H ∧ Dn.nx σ H) ∨ (J.go i H ∧ ∃ Nx : L2.St → Hp → Prop, (∀ σ' H', Nx σ' H' → ∃ m', m' < m ∧ Wv (i + 1) m' σ' H') ∧ ∀ x H', J.yld i H x H' → gT K t x σ H' fun σ2 H2 => tS W cm body { Dn with nx := Nx, ct := Nx, bk := Dn.nx } σ2 H2) := by
  refine ⟨fun i m σ H => m + i = ds.length ∧ ∃ F N Rg env, Ok B pn env σ F N G Rg H ∧ Same F1 F ∧ Same N1 N ∧ AftS B pn F N G W cm Dn (forL t body b (ds.drop i) env), ⟨ds.length, by omega, F1, N1, Rg, env, I, Same.refl _, Same.refl _, h⟩, ?_⟩
  rintro i m σ H ⟨em, F, N, Rg, env, I, hF, hN, h⟩
  by_cases hi : i < ds.length
  · refine .inr ⟨it.go i (Same.refl _) I hF hN hi, fun σ' H' => (m - 1) + (i + 1) = ds.length ∧ ∃ F N Rg env, Ok B pn env σ' F N G Rg H' ∧ Same F1 F ∧ Same N1 N ∧ AftS B pn F N G W cm Dn (forL t body b (ds.drop (i + 1)) env), fun σ' H' q => ⟨m - 1, by omega, q⟩, fun x H' y => ?_⟩
    obtain ⟨F', N', d, ed, I', hF', hN', r⟩ := it.yld i x H' (Same.refl _) I hF hN hi y
    have e0 : ds.drop i = d :: ds.drop (i + 1) := by
      rw [List.getElem?_eq_getElem hi] at ed
      cases ed
      exact List.drop_eq_getElem_cons hi
    rw [e0] at h
    simp only [forL] at h
    cases e1 : bind1 t b d env with
    | none => rw [e1] at h; exact h.elim
    | some en =>
      rw [e1] at h
      simp only at h
      refine bind1_ok I' r e1 fun σ2 Rg2 I2 _ => ⟨B, pn, F', N', G, Rg2, en, I2, ?_⟩
      cases e2 : body en with
      | nx e3 =>
        rw [e2] at h
        exact fun σ3 F3 N3 Rg3 H3 I3 hF3 hN3 => ⟨by omega, F3, N3, Rg3, e3, I3, hF.trans (hF'.trans hF3), hN.trans (hN'.trans hN3), h.low (hF'.trans hF3) (hN'.trans hN3)⟩
      | ct e3 =>
        rw [e2] at h
        exact fun σ3 F3 N3 Rg3 H3 I3 hF3 hN3 => ⟨by omega, F3, N3, Rg3, e3, I3, hF.trans (hF'.trans hF3), hN.trans (hN'.trans hN3), h.low (hF'.trans hF3) (hN'.trans hN3)⟩
      | bk e3 =>
        rw [e2] at h
        exact fun σ3 F3 N3 Rg3 H3 I3 hF3 hN3 => h σ3 F3 N3 Rg3 H3 I3 (hF'.trans hF3) (hN'.trans hN3)
      | rt tk e3 =>
        rw [e2] at h
        exact fun σ3 v F3 N3 Rg3 H3 R I3 hF3 hN3 T A => h σ3 v F3 N3 Rg3 H3 R I3 (hF'.trans hF3) (hN'.trans hN3) T A
      | exc c e3 =>
        rw [e2] at h
        exact fun σ3 F3 N3 Rg3 H3 I3 hF3 hN3 => h σ3 F3 N3 Rg3 H3 I3 (hF'.trans hF3) (hN'.trans hN3)
      | bad => rw [e2] at h; exact h.elim
  · have ei : i = ds.length := by omega
    subst ei
    rw [List.drop_length] at h
    exact .inl ⟨it.stop (Same.refl _) I hF hN, h σ F N Rg H I (Same.refl _) (Same.refl _)⟩
theorem ts_for {K : PySem.W.Frag} {wi : TI} {t : Tg} {src : DI} {body : DS} (hs : SrcOk W cm wi src) {Dn : Ends} {σ : L2.St} {H : Hp} (h : tS W cm (sFor t src body) Dn σ H) : tFor wi (gT K t) (tS W cm body) Dn σ H := by
  obtain ⟨B, pn, F, N, G, Rg, env, I, h⟩ := h
  refine hs I ?_
  unfold sFor at h
  cases e : src env with
  | bad => rw [e] at h; exact h
  | exc c e1 => rw [e] at h; exact fun F1 N1 Rg1 H1 I1 hF hN => h σ F1 N1 Rg1 H1 I1 hF hN
  | ok b ds w e1 =>
    rw [e] at h
    cases w with
    | none => exact fun J F1 N1 Rg1 H1 I1 hF hN it => for_core I1 it (h.low hF hN)
    | some w =>
      obtain ⟨i, p, c, xs⟩ := w
      exact fun J F1 N1 Rg1 H1 l vs I1 hF hN d el ev r q it => for_core I1 it (AftS.unlend d r q (h.low hF hN))
end
theorem PIor {X : Cx} {tg iter : Expr} {w1 w2 : TI} (h1 : PI X tg iter w1) (h2 : PI X tg iter w2) : PI X tg iter (fun σ H R => w1 σ H R ∨ w2 σ H R) := ⟨fun pins s σ H R I h => by
  rcases h with h | h
  · exact h1.run pins s σ H R I h
  · exact h2.run pins s σ H R I h⟩
/-- an iterable with its source -/
structure GI (X : Cx) (W : L2.WX) (cm : String → Addr) (tg iter : Expr) (src : DI) : Prop where
  ex : ∃ wi, PI X tg iter wi ∧ SrcOk W cm wi src
section
variable {X : Cx} {W : L2.WX} {cm : String → Addr} {tg iter e : Expr} {pos : Pos} {src : DI} {f : DE}
theorem gi_seq (h : PE X e (tD W cm f)) : GI X W cm tg e (iSeq f) := ⟨_, PIor (pi_list h) (pi_tup h), src_seq⟩
theorem gs_for {body : List Stmt} {t : Tg} {s : DS} (hp : PassesOwn (model X.prog X.w) X.A X.env X.xe) (hc : X.calm = true) (hi : GI X W cm tg iter src) (hg : PG X tg (gT X.K t)) (hb : PSs X body (tS W cm s))
    (hs : ∀ x, foldedSetIterable iter X.env x = pure x := by intro _; rfl) : PS X (.For tg iter body [] pos) (tS W cm (sFor t src s)) := by
  obtain ⟨wi, h1, h2⟩ := hi.ex
  exact PSimp (ps_for hp hc h1 hg hb hs) fun _ _ _ h => ts_for h2 h
end
/-! ### range -/
def intsOf (lo : Int) (n : Nat) : List D := (List.range n).map fun k => PyData.int (lo + (k : Nat))
theorem intsOf_get {lo : Int} {n i : Nat} (h : i < n) : (intsOf lo n)[i]? = some (.int (lo + (i : Nat))) := by
  unfold intsOf
  rw [List.getElem?_map, List.getElem?_range h]
  rfl
theorem intsOf_len {lo : Int} {n : Nat} : (intsOf lo n).length = n := by
  unfold intsOf
  rw [List.length_map, List.length_range]
theorem iter_range {B : Hp} {pn : Nat → Option Addr} {G F1 N1 : Hp} {lo : Int} {n : Nat} : Iter (Itr lo n) B pn G F1 N1 true (intsOf lo n) where
  go := fun i _ _ _ _ hi => by rw [intsOf_len] at hi; exact hi
  stop := fun _ _ _ _ => by rw [intsOf_len]; exact Nat.le_refl _
  yld := fun {env σ F N G' Rg H} i x H' sg I hF hN hi y => by
    obtain ⟨rfl, rfl⟩ := y
    rw [intsOf_len] at hi
    exact ⟨F, N, _, intsOf_get hi, I, Same.refl _, Same.refl _, .int _⟩
def smallI (i : Int) : Bool := decide (-(2 ^ 62) ≤ i) && decide (i < 2 ^ 62)
def iRange (fs : List DE) : DI := fun env => match dArgs fs env with
  | .ok ts e1 => match rds e1 ts with
    | some [.int j] => match smallI j with
      | true => .ok true (intsOf 0 j.toNat) none e1
      | false => .bad
    | some [.int i, .int j] => match smallI i && smallI j with
      | true => .ok true (intsOf i (j - i).toNat) none e1
      | false => .bad
    | _ => .bad
  | .exc c e1 => .exc c e1
  | .bad => .bad
theorem smallI_ok {i : Int} (h : smallI i = true) : -(2 ^ 62) ≤ i ∧ i < 2 ^ 62 := by
  unfold smallI at h
  rw [Bool.and_eq_true, decide_eq_true_eq, decide_eq_true_eq] at h
  exact h
theorem src_range1 {W : L2.WX} {cm : String → Addr} {f : DE} : SrcOk W cm (iRng1 (tAD W cm [f])) (iRange [f]) := by
  intro B pn env σ F N G Rg H R I h
  unfold iRange at h
  refine args_read I ?_
  cases e : dArgs [f] env with
  | bad => rw [e] at h; exact h
  | exc c e1 => rw [e] at h; exact h
  | ok ts e1 =>
    rw [e] at h
    simp only at h
    intro vs F1 N1 Rg1 H1 I1 hF hN T1
    cases e2 : rds e1 ts with
    | none => rw [e2] at h; exact h.elim
    | some dd =>
      have r := rds_ok I1 T1 e2
      rw [e2] at h
      have l1 : ts.length = 1 := by
        simp only [dArgs] at e
        cases e3 : f env with
        | bad => rw [e3] at e; cases e
        | exc c en => rw [e3] at e; cases e
        | ok t en => rw [e3] at e; cases e; rfl
      have l2 : ∀ {ts : List Tok} {dd : List D}, rds e1 ts = some dd → dd.length = ts.length := by
        intro ts
        induction ts with
        | nil => intro dd h; cases h; rfl
        | cons t ts ih =>
          intro dd h
          simp only [rds] at h
          cases q : rd e1 t with
          | none => rw [q] at h; cases h
          | some d =>
            rw [q] at h
            cases q2 : rds e1 ts with
            | none => rw [q2] at h; cases h
            | some d2 => rw [q2] at h; cases h; simp [ih q2]
      have l3 := l2 e2
      rw [l1] at l3
      match dd, l3, r, h with
      | [d], _, r, h =>
        cases d with
        | int j =>
          simp only at h
          cases r with
          | cons r1 r2 =>
            cases r1
            cases r2
            cases hs : smallI j with
            | false => rw [hs] at h; exact h.elim
            | true =>
              rw [hs] at h
              obtain ⟨s1, s2⟩ := smallI_ok hs
              exact ⟨j, rfl, s1, s2, h _ F1 N1 Rg1 H1 I1 hF hN iter_range⟩
        | _ => exact h.elim
theorem src_range2 {W : L2.WX} {cm : String → Addr} {f g : DE} : SrcOk W cm (iRng2 (tAD W cm [f, g])) (iRange [f, g]) := by
  intro B pn env σ F N G Rg H R I h
  unfold iRange at h
  refine args_read I ?_
  cases e : dArgs [f, g] env with
  | bad => rw [e] at h; exact h
  | exc c e1 => rw [e] at h; exact h
  | ok ts e1 =>
    rw [e] at h
    simp only at h
    intro vs F1 N1 Rg1 H1 I1 hF hN T1
    cases e2 : rds e1 ts with
    | none => rw [e2] at h; exact h.elim
    | some dd =>
      have r := rds_ok I1 T1 e2
      rw [e2] at h
      have l1 : ts.length = 2 := by
        simp only [dArgs] at e
        cases e3 : f env with
        | bad => rw [e3] at e; cases e
        | exc c en => rw [e3] at e; cases e
        | ok t en =>
          rw [e3] at e
          simp only at e
          cases e4 : g en with
          | bad => rw [e4] at e; cases e
          | exc c en => rw [e4] at e; cases e
          | ok t en => rw [e4] at e; cases e; rfl
      have l2 : ∀ {ts : List Tok} {dd : List D}, rds e1 ts = some dd → dd.length = ts.length := by
        intro ts
        induction ts with
        | nil => intro dd h; cases h; rfl
        | cons t ts ih =>
          intro dd h
          simp only [rds] at h
          cases q : rd e1 t with
          | none => rw [q] at h; cases h
          | some d =>
            rw [q] at h
            cases q2 : rds e1 ts with
            | none => rw [q2] at h; cases h
            | some d2 => rw [q2] at h; cases h; simp [ih q2]
      have l3 := l2 e2
      rw [l1] at l3
      match dd, l3, r, h with
      | [d, d'], _, r, h =>
        cases d with
        | int i =>
          cases d' with
          | int j =>
            simp only at h
            cases r with
            | cons r1 r2 =>
              cases r1
              cases r2 with
              | cons r2 r3 =>
                cases r2
                cases r3
                cases hs : smallI i && smallI j with
                | false => rw [hs] at h; exact h.elim
                | true =>
                  rw [hs] at h
                  rw [Bool.and_eq_true] at hs
                  obtain ⟨s1, s2⟩ := smallI_ok hs.1
                  obtain ⟨s3, s4⟩ := smallI_ok hs.2
                  exact ⟨i, j, rfl, ⟨s1, s2, s3, s4⟩, h _ F1 N1 Rg1 H1 I1 hF hN iter_range⟩
          | _ => exact h.elim
        | _ => exact h.elim
section
variable {X : Cx} {W : L2.WX} {cm : String → Addr} {tg a b : Expr} {p pos : Pos} {f g : DE}
theorem ga_nil : PA X [] (tAD W cm []) := pa_nil
theorem ga_cons {e : Expr} {es : List Expr} {f : DE} {fs : List DE} (h : PE X e (tD W cm f)) (hr : PA X es (tAD W cm fs)) (hs : starEach (e :: es) X.env = (false, eval e X.env) :: starEach es X.env := by rfl) : PA X (e :: es) (tAD W cm (f :: fs)) := pa_cons h hr hs
theorem gi_range1 (hg : Gl X "range") (hm : X.mg "range" = none) (ha : PA X [a] (tAD W cm [f])) (hs : starEach [a] X.env = [(false, eval a X.env)] := by rfl) : GI X W cm tg (.Call (.Name "range" p) [a] [] pos) (iRange [f]) := ⟨_, pi_range1 hg hm ha hs, src_range1⟩
theorem gi_range2 (hg : Gl X "range") (hm : X.mg "range" = none) (ha : PA X [a, b] (tAD W cm [f, g])) (hs : starEach [a, b] X.env = [(false, eval a X.env), (false, eval b X.env)] := by rfl) (hs2 : starEach [b] X.env = [(false, eval b X.env)] := by rfl) : GI X W cm tg (.Call (.Name "range" p) [a, b] [] pos) (iRange [f, g]) := ⟨_, pi_range2 hg hm ha hs hs2, src_range2⟩
end
end DL
namespace DL
open PySem PySem.Spec PyProof.Rows L2
/-! ### list comprehensions -/
def wipeE (env : Env) : List Nat → Env
  | [] => env
  | v :: vs => (wipeE env vs).set v .un
def unwipeE (env env0 : Env) : List Nat → Env
  | [] => env
  | v :: vs => (unwipeE env env0 vs).set v (env0[v]?.getD .un)
def plainAt (env : Env) : List Nat → Bool
  | [] => true
  | v :: vs => (match env[v]? with
    | some .un => true
    | some (.fro _ _) => true
    | none => true
    | _ => false) && plainAt env vs
theorem wipeE_len (env : Env) : ∀ vs : List Nat, (wipeE env vs).length = env.length
  | [] => rfl
  | v :: vs => by unfold wipeE; rw [List.length_set, wipeE_len env vs]
theorem wipeE_get (env : Env) {j : Nat} : ∀ {vs : List Nat}, (wipeE env vs)[j]? = if j ∈ vs then (env[j]?.map fun _ => Slot.un) else env[j]?
  | [] => by simp [wipeE]
  | v :: vs => by
    unfold wipeE
    by_cases h : v = j
    · subst h
      rw [if_pos List.mem_cons_self]
      by_cases hv : v < env.length
      · rw [List.getElem?_set_self (by rw [wipeE_len]; exact hv), List.getElem?_eq_getElem hv]; rfl
      · rw [List.getElem?_eq_none (by rw [List.length_set, wipeE_len]; omega), List.getElem?_eq_none (by omega)]; rfl
    · rw [List.getElem?_set_ne h, wipeE_get env (vs := vs)]
      by_cases hj : j ∈ vs
      · rw [if_pos hj, if_pos (List.mem_cons_of_mem _ hj)]
      · rw [if_neg hj, if_neg (by simp only [List.mem_cons, not_or]; exact ⟨fun e => h e.symm, hj⟩)]
theorem unwipeE_len (env env0 : Env) : ∀ vs : List Nat, (unwipeE env env0 vs).length = env.length
  | [] => rfl
  | v :: vs => by unfold unwipeE; rw [List.length_set, unwipeE_len env env0 vs]
theorem unwipeE_get (env env0 : Env) {j : Nat} : ∀ {vs : List Nat}, (unwipeE env env0 vs)[j]? = if j ∈ vs then (env[j]?.map fun _ => env0[j]?.getD Slot.un) else env[j]?
  | [] => by simp [unwipeE]
  | v :: vs => by
    unfold unwipeE
    by_cases h : v = j
    · subst h
      rw [if_pos List.mem_cons_self]
      by_cases hv : v < env.length
      · rw [List.getElem?_set_self (by rw [unwipeE_len]; exact hv), List.getElem?_eq_getElem hv]; rfl
      · have z : env[v]? = none := List.getElem?_eq_none (by omega)
        rw [List.getElem?_eq_none (by rw [List.length_set, unwipeE_len]; omega), z]; rfl
    · rw [List.getElem?_set_ne h, unwipeE_get env env0 (vs := vs)]
      by_cases hj : j ∈ vs
      · rw [if_pos hj, if_pos (List.mem_cons_of_mem _ hj)]
      · rw [if_neg hj, if_neg (by simp only [List.mem_cons, not_or]; exact ⟨fun e => h e.symm, hj⟩)]
theorem plainAt_get {env : Env} {j : Nat} : ∀ {vs : List Nat}, plainAt env vs = true → j ∈ vs → env[j]? = none ∨ env[j]? = some .un ∨ ∃ b d, env[j]? = some (.fro b d)
  | [], _, h => by simp at h
  | v :: vs, h, hm => by
    simp only [plainAt, Bool.and_eq_true] at h
    rcases List.mem_cons.mp hm with rfl | hm
    · have h := h.1
      split at h
      · rename_i e; exact .inr (.inl e)
      · rename_i b d e; exact .inr (.inr ⟨_, _, e⟩)
      · rename_i e; exact .inl e
      · cases h
    · exact plainAt_get h.2 hm
theorem wipe_out {σ : L2.St} {j : Nat} : ∀ {vs : List Nat}, j ∉ vs → (wipe σ vs)[j]? = σ[j]?
  | [], _ => rfl
  | v :: vs, h => by
    simp only [List.mem_cons, not_or] at h
    unfold wipe
    rw [List.getElem?_set_ne (fun e => h.1 e.symm), wipe_out h.2]
theorem wipe_ext {σ σ' : L2.St} {vs : List Nat} (hl : σ'.length = σ.length) (h : ∀ j, j ∉ vs → σ'[j]? = σ[j]?) : wipe σ' vs = wipe σ vs := by
  have key : ∀ (τ : L2.St) (j : Nat), (wipe τ vs)[j]? = if j ∈ vs then (τ[j]?.map fun _ => none) else τ[j]? := by
    intro τ j
    clear h
    induction vs with
    | nil => simp [wipe]
    | cons v vs ih =>
      unfold wipe
      by_cases hv : v = j
      · subst hv
        rw [if_pos List.mem_cons_self]
        by_cases hlt : v < τ.length
        · rw [List.getElem?_set_self (by rw [wipe_length]; exact hlt), List.getElem?_eq_getElem hlt]; rfl
        · rw [List.getElem?_eq_none (by rw [List.length_set, wipe_length]; omega), List.getElem?_eq_none (by omega)]; rfl
      · rw [List.getElem?_set_ne hv, ih]
        by_cases hj : j ∈ vs
        · rw [if_pos hj, if_pos (List.mem_cons_of_mem _ hj)]
        · rw [if_neg hj, if_neg (by simp only [List.mem_cons, not_or]; exact ⟨fun e => hv e.symm, hj⟩)]
  refine List.ext_getElem? fun j => ?_
  rw [key, key]
  by_cases hj : j ∈ vs
  · rw [if_pos hj, if_pos hj]
    by_cases hlt : j < σ.length
    · rw [List.getElem?_eq_getElem hlt, List.getElem?_eq_getElem (by omega)]; rfl
    · rw [List.getElem?_eq_none (by omega), List.getElem?_eq_none (by omega)]
  · rw [if_neg hj, if_neg hj, h j hj]
section
variable {B : Hp} {pn : Nat → Option Addr} {env : Env} {σ : L2.St} {F N G : Hp} {Rg : Nat → Hp} {H R : Hp}
def offL (Rg : Nat → Hp) (vs : List Nat) : Nat → Hp := fun j => if j ∈ vs then emp else Rg j
theorem Ok.wipe {vs : List Nat} (I : Ok B pn env σ F N G Rg H) : Ok B pn (wipeE env vs) (L2.wipe σ vs) F N G (offL Rg vs) H where
  len := by rw [wipeE_len, wipe_length]; exact I.len
  sF := I.sF
  sN := I.sN
  sG := I.sG
  dG := I.dG
  nB := I.nB
  nZ := I.nZ
  hB := I.hB
  sl := fun j s e => by
    rw [wipeE_get] at e
    unfold offL
    by_cases hj : j ∈ vs
    · rw [if_pos hj] at e ⊢
      cases q : env[j]? with
      | none => rw [q] at e; cases e
      | some t => rw [q] at e; cases e; rfl
    · rw [if_neg hj] at e ⊢
      have z := I.sl j s e
      have w := wipe_out (σ := σ) hj
      cases s with
      | un => exact z
      | fro b d => exact ⟨z.1, z.2.choose, w.trans z.2.choose_spec.1, z.2.choose_spec.2⟩
      | ex d => obtain ⟨v, e1, r⟩ := z; exact ⟨v, w.trans e1, r⟩
      | own p b xs => obtain ⟨l, ws, e1, r⟩ := z; exact ⟨l, ws, w.trans e1, r⟩
      | lent => obtain ⟨z0, l, e1, e2⟩ := z; exact ⟨z0, l, e1, w.trans e2⟩
  sR := fun j => by unfold offL; split; exact emp_same _; exact I.sR j
  dF := fun j => by unfold offL; split; exact dj_emp _; exact I.dF j
  dRG := fun j => by unfold offL; split; exact dj_emp _; exact I.dRG j
  dR := fun i j h => by
    unfold offL
    by_cases hj : j ∈ vs
    · rw [if_pos hj]; exact dj_emp _
    · rw [if_neg hj]
      by_cases hi : i ∈ vs
      · rw [if_pos hi]; exact emp_dj _
      · rw [if_neg hi]; exact I.dR i j h
  out := fun j h => by
    rw [wipeE_len] at h
    unfold offL
    split
    · rfl
    · exact I.out j h
theorem Apart.offL {vs : List Nat} (A : Apart F G Rg H R) : Apart F G (offL Rg vs) H R := ⟨A.sR, A.dF, A.dG, fun j => by unfold DL.offL; split; exact emp_dj _; exact A.dR j⟩
/-- the block's end: the def's own slots again -/
theorem Ok.unwipe {env0 : Env} {F0 N0 G0 : Hp} {Rg0 : Nat → Hp} {H0 : Hp} {pn0 : Nat → Option Addr} {vs : List Nat} (I : Ok B pn env (L2.wipe σ vs) F N G Rg H) (I0 : Ok B pn0 env0 σ F0 N0 G0 Rg0 H0) (hF : Same F0 F) (hN : Same N0 N) (hp : plainAt env0 vs = true) :
    Ok B pn (unwipeE env env0 vs) σ F N G (offL Rg vs) H where
  len := by rw [unwipeE_len, I.len, wipe_length]
  sF := I.sF
  sN := I.sN
  sG := I.sG
  dG := I.dG
  nB := I.nB
  nZ := I.nZ
  hB := I.hB
  sl := fun j s e => by
    rw [unwipeE_get] at e
    unfold offL
    by_cases hj : j ∈ vs
    · rw [if_pos hj] at e ⊢
      cases q : env[j]? with
      | none => rw [q] at e; cases e
      | some t =>
        rw [q] at e
        rcases plainAt_get hp hj with z | z | ⟨b, d, z⟩
        · rw [z] at e; cases e; rfl
        · rw [z] at e; cases e; rfl
        · rw [z] at e
          cases e
          obtain ⟨_, v, e1, r⟩ := I0.sl j _ z
          exact ⟨rfl, v, e1, r.mono (bsel_mono hN hF)⟩
    · rw [if_neg hj] at e ⊢
      have z := I.sl j s e
      have w := wipe_out (σ := σ) hj
      cases s with
      | un => exact z
      | fro b d => exact ⟨z.1, z.2.choose, w.symm.trans z.2.choose_spec.1, z.2.choose_spec.2⟩
      | ex d => obtain ⟨v, e1, r⟩ := z; exact ⟨v, w.symm.trans e1, r⟩
      | own p b xs => obtain ⟨l, ws, e1, r⟩ := z; exact ⟨l, ws, w.symm.trans e1, r⟩
      | lent => obtain ⟨z0, l, e1, e2⟩ := z; exact ⟨z0, l, e1, w.symm.trans e2⟩
  sR := fun j => by unfold offL; split; exact emp_same _; exact I.sR j
  dF := fun j => by unfold offL; split; exact dj_emp _; exact I.dF j
  dRG := fun j => by unfold offL; split; exact dj_emp _; exact I.dRG j
  dR := fun i j h => by
    unfold offL
    by_cases hj : j ∈ vs
    · rw [if_pos hj]; exact dj_emp _
    · rw [if_neg hj]
      by_cases hi : i ∈ vs
      · rw [if_pos hi]; exact emp_dj _
      · rw [if_neg hi]; exact I.dR i j h
  out := fun j h => by
    rw [unwipeE_len] at h
    unfold offL
    split
    · rfl
    · exact I.out j h
/-- a thing apart is written -/
theorem Ok.updA {l : Addr} {o o' : HO} (I : Ok B pn env σ F N G Rg H) (A : Apart F G Rg H (sgl l o)) : Ok B pn env σ F N G Rg (upd H l o') := by
  have hs : ∀ {M : Hp}, Same M H → M l = none → Same M (upd H l o') := fun s n a u e => by
    by_cases h : a = l
    · subst h; rw [n] at e; cases e
    · rw [upd_ne h]; exact s _ _ e
  exact { I with
    sF := hs I.sF (A.dF _ _ sgl_same)
    sG := hs I.sG (A.dG _ _ sgl_same)
    hB := fun a e => by
      by_cases h : a = l
      · subst h; rw [upd_same] at e; cases e
      · rw [upd_ne h] at e; exact I.hB a e
    sR := fun i => hs (I.sR i) (A.dR i _ _ sgl_same) }
theorem Apart.updA {l : Addr} {o o' : HO} (A : Apart F G Rg H (sgl l o)) : Apart F G Rg (upd H l o') (sgl l o') :=
  ⟨sgl_same_iff upd_same, dj_sgl (A.dF _ _ sgl_same), dj_sgl (A.dG _ _ sgl_same), fun i => dj_sgl (A.dR i _ _ sgl_same)⟩
end
inductive CR where
  | ok (ps : List (Bool × D)) (e : Env)
  | bad
def dYes : DT := fun env => .ok true env
def compL (own : List Nat) (t : Tg) (tt : DT) (el : DE) (b : Bool) : List D → List (Bool × D) → Env → CR
  | [], acc, env => .ok acc env
  | d :: ds, acc, env => match bind1 t b d env with
    | none => .bad
    | some e1 => match tt e1 with
      | .ok false e2 => compL own t tt el b ds acc (wipeE e2 own)
      | .ok true e2 => match el e2 with
        | .ok tk e3 => match take e3 tk with
          | none => .bad
          | some (b', d', e4) => compL own t tt el b ds (acc ++ [(b', d')]) (wipeE e4 own)
        | _ => .bad
      | _ => .bad
def inOwn (own : List Nat) : Tg → Bool
  | .nm i => own.contains i
  | .tp ts => go ts
where
  go : Tgs → Bool
  | .nil => true
  | .cons (.nm i) r => own.contains i && go r
  | .cons (.tp ts) r => go ts && go r
def eComp (own : List Nat) (t : Tg) (src : DI) (tt : DT) (el : DE) : DE := fun env => match src env with
  | .ok b ds w e1 => match decide (ds.length ≤ 16777216) && plainAt e1 own with
    | false => .bad
    | true => match compL own t tt el b ds [] (wipeE e1 own) with
      | .bad => .bad
      | .ok ps e2 => match w with
        | none => .ok (.nw (tagAll ps) (ps.map (·.2))) (unwipeE e2 e1 own)
        | some (i, p, c, xs) => match giveBack i p c xs (unwipeE e2 e1 own) with
          | none => .bad
          | some e3 => .ok (.nw (tagAll ps) (ps.map (·.2))) e3
  | .exc c e1 => .exc c e1
  | .bad => .bad
theorem RpB.snoc {N F : Hp} {v : V} {b : Bool} {d : D} (h : Rp (bsel b N F) v d) : ∀ {ps : List (Bool × D)} {vs : List V}, RpB N F vs ps → RpB N F (vs ++ [v]) (ps ++ [(b, d)])
  | [], vs, r => by
    have e : vs = [] := r
    subst e
    exact ⟨v, [], rfl, h, rfl⟩
  | (b', d') :: ps, vs, r => by
    obtain ⟨w, ws, rfl, r1, r2⟩ := r
    exact ⟨w, ws ++ [v], rfl, r1, r2.snoc h⟩
theorem RpB.len {N F : Hp} : ∀ {ps : List (Bool × D)} {vs : List V}, RpB N F vs ps → vs.length = ps.length
  | [], vs, r => by
    have e : vs = [] := r
    subst e
    rfl
  | (b', d') :: ps, vs, r => by
    obtain ⟨w, ws, rfl, r1, r2⟩ := r
    rw [List.length_cons, List.length_cons, r2.len]
section
variable {W : L2.WX} {cm : String → Addr}
abbrev W0 : L2.WX := fun _ _ _ _ => False
theorem inOwn_go {own : List Nat} {j : Nat} (hj : j ∉ own) : ∀ ts : Tgs, inOwn.go own ts = true → ts.has j = false
  | .nil, _ => rfl
  | .cons (.nm i) r, h => by
    simp only [inOwn.go, Bool.and_eq_true] at h
    simp only [Tgs.has, Tg.has, Bool.or_eq_false_iff]
    refine ⟨decide_eq_false fun e => hj ?_, inOwn_go hj r h.2⟩
    subst e
    simpa using h.1
  | .cons (.tp ts) r, h => by
    simp only [inOwn.go, Bool.and_eq_true] at h
    simp only [Tgs.has, Tg.has, Bool.or_eq_false_iff]
    exact ⟨inOwn_go hj ts h.1, inOwn_go hj r h.2⟩
theorem inOwn_has {own : List Nat} {t : Tg} (h : inOwn own t = true) {j : Nat} (hj : j ∉ own) : t.has j = false := by
  cases t with
  | nm i =>
    simp only [inOwn] at h
    simp only [Tg.has]
    exact decide_eq_false fun e => hj (by subst e; simpa using h)
  | tp ts => exact inOwn_go hj ts h
theorem comp_core {K : PySem.W.Frag} {B : Hp} {pn : Nat → Option Addr} {env : Env} {σ : L2.St} {F1 N1 G : Hp} {Rg : Nat → Hp} {H : Hp} {own : List Nat} {t : Tg} {tt : DT} {el : DE} {b : Bool} {ds : List D} {J : It} {Qd : Addr → Hp → Prop} {ps : List (Bool × D)} {en : Env}
    (I : Ok B pn env (wipe σ own) F1 N1 G Rg H) (it : Iter J B pn G F1 N1 b ds) (ho : inOwn own t = true) (hz : ds.length ≤ sizeLine) (h : compL own t tt el b ds [] env = .ok ps en)
    (hQ : ∀ Dl F N Rg H acc, Ok B pn en (wipe σ own) F N G Rg H → Same F1 F → Same N1 N → Apart F G Rg H (sgl Dl (.lst acc)) → RpB N F acc ps → B Dl = none → Qd Dl H) :
    ∀ Dl, H Dl = none → ∃ Wv : Nat → Nat → Hp → Prop, (∃ m, Wv 0 m (upd H Dl (.lst []))) ∧ ∀ i m H, Wv i m H → (J.stop i H ∧ Qd Dl H) ∨ (J.go i H ∧ ∃ Nx : Hp → Prop, (∀ H', Nx H' → ∃ m', m' < m ∧ Wv (i + 1) m' H') ∧ ∀ x H', J.yld i H x H' → gT K t x (wipe σ own) H' fun σ2 H2 => wipe σ2 own = wipe σ own ∧ tT W0 cm tt σ2 H2 fun b H3 =>
      if b = true then tD W0 cm el σ2 H3 fun y H4 => ∃ acc, H4 Dl = some (.lst acc) ∧ acc.length < sizeLine ∧ Nx (upd H4 Dl (.lst (acc ++ [y]))) else Nx H3) := by
  intro Dl hD
  have ww : ∀ σ : L2.St, wipe (wipe σ own) own = wipe σ own := fun σ => wipe_ext (wipe_length _ _) fun j hj => wipe_out hj
  -- what holds ahead of turn i
  let P : Nat → Hp → Prop := fun i H => ∃ F N Rg env acc qs, Ok B pn env (wipe σ own) F N G Rg H ∧ Same F1 F ∧ Same N1 N ∧ Apart F G Rg H (sgl Dl (.lst acc)) ∧ RpB N F acc qs ∧ qs.length ≤ i ∧ compL own t tt el b (ds.drop i) qs env = .ok ps en
  refine ⟨fun i m H => m + i = ds.length ∧ P i H, ⟨ds.length, by omega, F1, N1, Rg, env, [], [], I.grow (upd_Same hD), Same.refl _, Same.refl _, I.fresh hD, rfl, Nat.le_refl _, h⟩, ?_⟩
  rintro i m H2 ⟨em, F, N, Rg2, env2, acc, qs, I2, hF, hN, A2, r2, hq, h2⟩
  have bD : B Dl = none := I.hB Dl hD
  by_cases hi : i < ds.length
  · refine .inr ⟨it.go i (Same.refl _) I2 hF hN hi, P (i + 1), fun H' q => ⟨m - 1, by omega, by omega, q⟩, fun x H' y => ?_⟩
    have IG := I2.res A2
    obtain ⟨F3, N3, d, ed, I3, hF3, hN3, r3⟩ := it.yld i x H' (jn_left A2.dG) IG hF hN hi y
    have e0 : ds.drop i = d :: ds.drop (i + 1) := by
      rw [List.getElem?_eq_getElem hi] at ed
      cases ed
      exact List.drop_eq_getElem_cons hi
    rw [e0] at h2
    simp only [compL] at h2
    cases e1 : bind1 t b d env2 with
    | none => rw [e1] at h2; cases h2
    | some en1 =>
      rw [e1] at h2
      simp only at h2
      refine bind1_ok I3 r3 e1 fun σ4 Rg4 I4 hσ => ?_
      have wσ : wipe σ4 own = wipe σ own := by
        have hl : σ4.length = (wipe σ own).length := by
          have l1 := I4.len
          have l3 := I3.len
          obtain z : en1.length = env2.length := by
            clear h2 hσ I4
            have : ∀ (t : Tg) (b : Bool) (d : D) (e e' : Env), bind1 t b d e = some e' → e'.length = e.length := by
              intro t
              refine Tg.rec (motive_1 := fun t => ∀ (b : Bool) (d : D) (e e' : Env), bind1 t b d e = some e' → e'.length = e.length) (motive_2 := fun ts => ∀ (b : Bool) (ds : List D) (e e' : Env), bindN ts b ds e = some e' → e'.length = e.length) ?_ ?_ ?_ ?_ t
              · intro i b d e e' h
                obtain ⟨_, rfl⟩ := setSlot_lt h
                rw [List.length_set]
              · intro ts ih b d e e' h
                cases d <;> first
                  | exact ih _ _ _ _ h
                  | (simp [bind1] at h)
              · intro b ds e e' h
                cases ds with
                | nil => simp only [bindN] at h; cases h; rfl
                | cons _ _ => simp [bindN] at h
              · intro t ts ih1 ih2 b ds e e' h
                cases ds with
                | nil => simp [bindN] at h
                | cons d ds =>
                  simp only [bindN] at h
                  cases q : bind1 t b d e with
                  | none => rw [q] at h; cases h
                  | some e2 => rw [q] at h; rw [ih2 _ _ _ _ h, ih1 _ _ _ _ q]
            exact this t b d env2 en1 e1
          omega
        rw [wipe_ext (σ := wipe σ own) (σ' := σ4) hl fun j hj => hσ j (inOwn_has ho hj), ww]
      refine ⟨wσ, B, pn, F3, N3, _, Rg4, en1, I4, ?_⟩
      cases e2 : tt en1 with
      | bad => rw [e2] at h2; cases h2
      | exc c e3 => rw [e2] at h2; cases h2
      | ok c en2 =>
        rw [e2] at h2
        cases c with
        | false =>
          simp only at h2
          intro F5 N5 Rg5 H5 I5 hF5 hN5
          refine iteF ?_
          have I6 := (I5.unres (jn_left A2.dG)).wipe (vs := own)
          rw [wσ] at I6
          exact ⟨F5, N5, _, _, acc, qs, I6, hF.trans (hF3.trans hF5), hN.trans (hN3.trans hN5), (Apart.back I5 A2.dG).offL, r2.mono (hN3.trans hN5) (hF3.trans hF5), by omega, h2⟩
        | true =>
          simp only at h2
          intro F5 N5 Rg5 H5 I5 hF5 hN5
          refine iteT ⟨B, pn, F5, N5, _, Rg5, en2, I5, ?_⟩
          cases e3 : el en2 with
          | bad => rw [e3] at h2; cases h2
          | exc c e4 => rw [e3] at h2; cases h2
          | ok tk en3 =>
            rw [e3] at h2
            simp only at h2
            intro v F6 N6 Rg6 H6 R6 I6 hF6 hN6 T6 A6
            cases e4 : take en3 tk with
            | none => rw [e4] at h2; cases h2
            | some q =>
              obtain ⟨b', d', en4⟩ := q
              rw [e4] at h2
              simp only at h2
              obtain ⟨F7, N7, Rg7, I7, hF7, hN7, r7⟩ := take_ok I6 T6 A6 e4
              have A7 : Apart F7 G Rg7 H6 (sgl Dl (.lst acc)) := .back I7 A2.dG
              have hl : acc.length = qs.length := r2.len
              refine ⟨acc, A7.sR _ _ sgl_same, by omega, ?_⟩
              have I8 := ((I7.unres (jn_left A2.dG)).updA (o' := .lst (acc ++ [v])) A7).wipe (vs := own)
              rw [wσ] at I8
              have fF := hF3.trans (hF5.trans (hF6.trans hF7))
              have fN := hN3.trans (hN5.trans (hN6.trans hN7))
              exact ⟨F7, N7, _, _, acc ++ [v], qs ++ [(b', d')], I8, hF.trans fF, hN.trans fN, A7.updA.offL, (r2.mono fN fF).snoc r7, by rw [List.length_append]; simp; omega, h2⟩
  · have ei : i = ds.length := by omega
    subst ei
    rw [List.drop_length] at h2
    simp only [compL] at h2
    cases h2
    exact .inl ⟨it.stop (Same.refl _) I2 hF hN, hQ Dl F N Rg2 H2 acc I2 hF hN A2 r2 bD⟩
theorem td_comp {K : PySem.W.Frag} {wi : TI} {own : List Nat} {t : Tg} {src : DI} {tt : DT} {el : DE} (hs : SrcOk W cm wi src) (ho : inOwn own t = true) {σ : L2.St} {H : Hp} {Q : VK} (h : tD W cm (eComp own t src tt el) σ H Q) : tLc wi (gT K t) (tT W0 cm tt) (tD W0 cm el) own σ H Q := by
  obtain ⟨B, pn, F, N, G, Rg, env, I, h⟩ := h
  refine hs I ?_
  unfold eComp at h
  cases e : src env with
  | bad => rw [e] at h; exact h
  | exc c e1 => rw [e] at h; exact h
  | ok b ds w e1 =>
    rw [e] at h
    simp only at h
    cases hz : (decide (ds.length ≤ 16777216) && plainAt e1 own) with
    | false => rw [hz] at h; exact h.elim
    | true =>
      rw [hz] at h
      rw [Bool.and_eq_true, decide_eq_true_eq] at hz
      have hl : ds.length ≤ sizeLine := by rw [sizeLine_eq]; exact hz.1
      simp only at h
      cases e2 : compL own t tt el b ds [] (wipeE e1 own) with
      | bad => rw [e2] at h; exact h.elim
      | ok ps e3 =>
        rw [e2] at h
        cases w with
        | none =>
          intro J F1 N1 Rg1 H1 I1 hF hN it
          refine comp_core (Qd := fun Dl H => Q (.ref Dl) H) (I1.wipe (vs := own)) it ho hl e2 fun Dl F2 N2 Rg2 H2 acc I2 hF2 hN2 A2 r2 bD => ?_
          exact h _ F2 N2 _ H2 _ (I2.unwipe I1 hF2 hN2 hz.2) (hF.trans hF2) (hN.trans hN2) ⟨Dl, acc, rfl, rfl, r2.all I2.sN, bD⟩ A2.offL
        | some w =>
          obtain ⟨i, p, c, xs⟩ := w
          simp only at h
          cases g : giveBack i p c xs (unwipeE e3 e1 own) with
          | none => rw [g] at h; exact h.elim
          | some e4 =>
            rw [g] at h
            obtain ⟨g1, rfl⟩ := giveBack_some g
            intro J F1 N1 Rg1 H1 l vs I1 hF hN d el' ev r q it
            refine comp_core (Qd := fun Dl H => Q (.ref Dl) H) (I1.wipe (vs := own)) it ho hl e2 fun Dl F2 N2 Rg2 H2 acc I2 hF2 hN2 A2 r2 bD => ?_
            have I3 := I2.unwipe I1 hF2 hN2 hz.2
            obtain ⟨Rg4, I4, ap⟩ := I3.unlend d g1 (r.mono (bsel_mono hN2 hF2)) q
            exact h _ F2 N2 _ H2 _ I4 (hF.trans hF2) (hN.trans hN2) ⟨Dl, acc, rfl, rfl, r2.all I2.sN, bD⟩ (ap _ A2.offL)
end
section
variable {X : Cx} {W : L2.WX} {cm : String → Addr}
theorem ge_comp {elt tg iter : Expr} {ifs : List Expr} {scope : Scope} {own : List (Str × Nat)} {pos : Pos} {src : DI} {t : Tg} {tt : DT} {el : DE} (hc : X.calm = true) (hN : X.N.Nodup) (hi : GI X W cm tg iter src) (ok : BlkOk X.N X.env.scope scope own)
    (hg : ∀ (s : Shared) (H : Hp) (C : Addr) (cl : List (Str × Addr)) (fp : List Addr), PG (X.blk s H scope (compEnvC scope cl C X.env) fp) tg (gT X.K t)) (ht : ∀ (s : Shared) (H : Hp) (C : Addr) (cl : List (Str × Addr)) (fp : List Addr), PTs (X.blk s H scope (compEnvC scope cl C X.env) fp) ifs (tT W0 cm tt))
    (he : ∀ (s : Shared) (H : Hp) (C : Addr) (cl : List (Str × Addr)) (fp : List Addr), PE (X.blk s H scope (compEnvC scope cl C X.env) fp) elt (tD W0 cm el)) (ho : inOwn (own.map (·.2)) t = true := by rfl) (hs : ∀ x, foldedSetIterable iter X.env x = pure x := by intro _; rfl) :
    PE X (.ListComp elt [⟨tg, iter, ifs, 0⟩] scope pos) (tD W cm (eComp (own.map (·.2)) t src tt el)) := by
  obtain ⟨wi, h1, h2⟩ := hi.ex
  exact PEimp (pe_lc hc hN h1 ok hg ht he hs) fun _ _ _ h => td_comp h2 ho h
theorem gs_setLc {i : Nat} {y : Str} {py : Pos} {elt tg iter : Expr} {ifs : List Expr} {scope : Scope} {own : List (Str × Nat)} {pos spos : Pos} {src : DI} {t : Tg} {tt : DT} {el : DE} (hc : X.calm = true) (hN : X.N.Nodup) (hy : X.N[i]? = some y) (hyl : X.env.scope.names.lookup y = some .local)
    (hsw : swapsWith (.ListComp elt [⟨tg, iter, ifs, 0⟩] scope pos) (some (.Name y py)) spos.line X.env = pure true) (hi : GI X W cm tg iter src) (ok : BlkOk X.N X.env.scope scope own)
    (hg : ∀ (s : Shared) (H : Hp) (C : Addr) (cl : List (Str × Addr)) (fp : List Addr), PG (X.blk s H scope (compEnvC scope cl C X.env) fp) tg (gT X.K t)) (ht : ∀ (s : Shared) (H : Hp) (C : Addr) (cl : List (Str × Addr)) (fp : List Addr), PTs (X.blk s H scope (compEnvC scope cl C X.env) fp) ifs (tT W0 cm tt))
    (he : ∀ (s : Shared) (H : Hp) (C : Addr) (cl : List (Str × Addr)) (fp : List Addr), PE (X.blk s H scope (compEnvC scope cl C X.env) fp) elt (tD W0 cm el)) (ho : inOwn (own.map (·.2)) t = true := by rfl) (hs : ∀ x, foldedSetIterable iter X.env x = pure x := by intro _; rfl) :
    PS X (.Assign [.Name y py] (.ListComp elt [⟨tg, iter, ifs, 0⟩] scope pos) spos) (tS W cm (sSet i (eComp (own.map (·.2)) t src tt el))) := by
  obtain ⟨wi, h1, h2⟩ := hi.ex
  refine PSimp (ps_setLc hc hN hy hyl hsw h1 ok hg ht he hs) fun D σ H h => ?_
  have h := ts_set h
  exact td_comp (K := X.K) h2 ho h
theorem gts_nil : PTs X [] (tT W cm dYes) := by
  refine ⟨fun pins s σ H Q I hw => ?_⟩
  refine pts_nil.run pins s σ H Q I ?_
  obtain ⟨B, pn, F, N, G, Rg, env, I, h⟩ := hw
  exact h F N Rg H I (Same.refl _) (Same.refl _)
theorem gts_one {c : Expr} {f : DT} (h : PT X c (tT W cm f)) : PTs X [c] (tT W cm f) := pts_one h
end
end DL
namespace DL
open PySem PySem.Spec PyProof.Rows L2
/-! ### while -/
def whileL (c : DT) (body : DS) : Nat → Env → Out
  | 0, _ => .bad
  | n + 1, env => match c env with
    | .ok true e1 => match body e1 with
      | .nx e2 => whileL c body n e2
      | .ct e2 => whileL c body n e2
      | .bk e2 => .nx e2
      | .rt t e2 => .rt t e2
      | .exc x e2 => .exc x e2
      | .bad => .bad
    | .ok false e1 => .nx e1
    | .exc x e1 => .exc x e1
    | .bad => .bad
def sWhile (c : DT) (body : DS) : DS := fun env => whileL c body 1000000 env
theorem ts_while {W : L2.WX} {cm : String → Addr} {c : DT} {body : DS} {Dn : Ends} {σ : L2.St} {H : Hp} (h : tS W cm (sWhile c body) Dn σ H) : tWhile (tT W cm c) (tS W cm body) Dn σ H := by
  obtain ⟨B, pn, F, N, G, Rg, env, I, h⟩ := h
  refine ⟨fun m σ H => ∃ F' N' Rg env, Ok B pn env σ F' N' G Rg H ∧ Same F F' ∧ Same N N' ∧ AftS B pn F' N' G W cm Dn (whileL c body m env), ⟨1000000, F, N, Rg, env, I, Same.refl _, Same.refl _, h⟩, ?_⟩
  rintro m σ H ⟨F1, N1, Rg1, env1, I1, hF, hN, h⟩
  cases m with
  | zero => exact h.elim
  | succ m =>
    refine ⟨B, pn, F1, N1, G, Rg1, env1, I1, ?_⟩
    simp only [whileL] at h
    cases e : c env1 with
    | bad => rw [e] at h; exact h
    | exc x e1 => rw [e] at h; exact fun F' N' Rg' H' I' hF' hN' => h σ F' N' Rg' H' I' hF' hN'
    | ok b e1 =>
      rw [e] at h
      intro F2 N2 Rg2 H2 I2 hF2 hN2
      cases b with
      | false => exact iteF (h σ F2 N2 Rg2 H2 I2 hF2 hN2)
      | true =>
        refine iteT ⟨fun σ' H' => ∃ F' N' Rg env, Ok B pn env σ' F' N' G Rg H' ∧ Same F F' ∧ Same N N' ∧ AftS B pn F' N' G W cm Dn (whileL c body m env), fun σ' H' q => ⟨m, Nat.lt_succ_self _, q⟩, B, pn, F2, N2, G, Rg2, e1, I2, ?_⟩
        simp only at h
        cases e2 : body e1 with
        | bad => rw [e2] at h; exact h
        | nx e3 =>
          rw [e2] at h
          exact fun σ3 F3 N3 Rg3 H3 I3 hF3 hN3 => ⟨F3, N3, Rg3, e3, I3, hF.trans (hF2.trans hF3), hN.trans (hN2.trans hN3), h.low (hF2.trans hF3) (hN2.trans hN3)⟩
        | ct e3 =>
          rw [e2] at h
          exact fun σ3 F3 N3 Rg3 H3 I3 hF3 hN3 => ⟨F3, N3, Rg3, e3, I3, hF.trans (hF2.trans hF3), hN.trans (hN2.trans hN3), h.low (hF2.trans hF3) (hN2.trans hN3)⟩
        | bk e3 =>
          rw [e2] at h
          exact fun σ3 F3 N3 Rg3 H3 I3 hF3 hN3 => h σ3 F3 N3 Rg3 H3 I3 (hF2.trans hF3) (hN2.trans hN3)
        | rt tk e3 =>
          rw [e2] at h
          exact fun σ3 v F3 N3 Rg3 H3 R I3 hF3 hN3 T A => h σ3 v F3 N3 Rg3 H3 R I3 (hF2.trans hF3) (hN2.trans hN3) T A
        | exc x e3 =>
          rw [e2] at h
          exact fun σ3 F3 N3 Rg3 H3 I3 hF3 hN3 => h σ3 F3 N3 Rg3 H3 I3 (hF2.trans hF3) (hN2.trans hN3)
theorem gs_while {X : Cx} {W : L2.WX} {cm : String → Addr} {c : Expr} {body : List Stmt} {pos : Pos} {f : DT} {s : DS} (hp : PassesOwn (model X.prog X.w) X.A X.env X.xe) (hc : PT X c (tT W cm f)) (hb : PSs X body (tS W cm s)) : PS X (.While c body [] pos) (tS W cm (sWhile f s)) :=
  PSimp (ps_while hp hc hb) fun _ _ _ h => ts_while h
def sBreak : DS := fun env => .bk env
def sPass : DS := fun env => .nx env
theorem gs_break {X : Cx} {W : L2.WX} {cm : String → Addr} {pos : Pos} : PS X (.Break pos) (tS W cm sBreak) := PSimp ps_break fun D σ H h => by
  obtain ⟨B, pn, F, N, G, Rg, env, I, h⟩ := h
  exact h σ F N Rg H I (Same.refl _) (Same.refl _)
theorem gs_pass {X : Cx} {W : L2.WX} {cm : String → Addr} {pos : Pos} : PS X (.Pass pos) (tS W cm sPass) := PSimp ps_pass fun D σ H h => by
  obtain ⟨B, pn, F, N, G, Rg, env, I, h⟩ := h
  exact h σ F N Rg H I (Same.refl _) (Same.refl _)
/-- a docstring or a text alone -/
theorem gs_doc {X : Cx} {W : L2.WX} {cm : String → Addr} {x j pos pos'} : PS X (.Expr (.Constant (.str x) j pos) pos') (tS W cm sPass) := PSimp ps_doc fun D σ H h => by
  obtain ⟨B, pn, F, N, G, Rg, env, I, h⟩ := h
  exact h σ F N Rg H I (Same.refl _) (Same.refl _)
/-! ### raise -/
def sRaise (c : String) : DS := fun env => .exc c env
theorem gs_raise {X : Cx} {W : L2.WX} {cm : String → Addr} {e : Expr} {pos : Pos} {c : String} (hc : X.calm = true) (tk : Takes X W) (he : PMk X e (fun _ H Q => Q (.ref (cm c)) none H)) : PS X (.Raise (some e) none pos) (tS W cm (sRaise c)) :=
  PSimp (ps_raise hc tk he) fun D σ H h => by
    obtain ⟨B, pn, F, N, G, Rg, env, I, h⟩ := h
    exact h σ F N Rg H I (Same.refl _) (Same.refl _)
/-! ### names, constants -/
def eVar (i : Nat) : DE := fun env => match env[i]? with
  | none => .bad
  | some .un => .bad
  | some _ => .ok (.sl i) env
def eC (d : D) : DE := fun env => .ok (.fz true d) env
section
variable {W : L2.WX} {cm : String → Addr} {σ : L2.St} {H : Hp} {Q : VK}
theorem td_var {i : Nat} (h : tD W cm (eVar i) σ H Q) : tVar i σ H Q := by
  obtain ⟨B, pn, F, N, G, Rg, env, I, h⟩ := h
  unfold eVar at h
  cases e : env[i]? with
  | none => rw [e] at h; exact h.elim
  | some s =>
    rw [e] at h
    have S := I.sl i s e
    have key : ∀ v, σ[i]? = some (some v) → Aft B pn σ F N G W cm Q (.ok (.sl i) env) → tVar i σ H Q := fun v hv h => ⟨v, hv, h v F N Rg H emp I (Same.refl _) (Same.refl _) ⟨rfl, hv⟩ .none⟩
    cases s with
    | un => exact h.elim
    | fro b d => exact key _ S.2.choose_spec.1 h
    | ex d => exact key _ S.choose_spec.1 h
    | own p b xs => obtain ⟨l, vs, e1, _⟩ := S; exact key _ e1 h
    | lent => obtain ⟨_, l, _, e1⟩ := S; exact key _ e1 h
theorem td_c {v : V} {d : D} (r : Rp emp v d) (h : tD W cm (eC d) σ H Q) : tC v σ H Q := by
  obtain ⟨B, pn, F, N, G, Rg, env, I, h⟩ := h
  exact h v F N Rg H emp I (Same.refl _) (Same.refl _) ⟨rfl, r.mono (emp_same _)⟩ .none
end
section
variable {X : Cx} {W : L2.WX} {cm : String → Addr} {pos : Pos}
theorem gv (i : Nat) {x : Str} (hN : X.N[i]? = some x := by rfl) (hv : Vis X.env.scope x := by first | exact Or.inl rfl | exact Or.inr (Or.inl rfl) | exact Or.inr (Or.inr rfl)) (hd : (x == ("__debug__" : Str)) = false := by decide)
    (hcd : (x == ("__classdict__" : Str)) = false := by decide) : PE X (.Name x pos) (tD W cm (eVar i)) := PEimp (pe_var hN hv hd hcd) fun _ _ _ h => td_var h
theorem ge_int {i j} : PE X (.Constant (.int i) j pos) (tD W cm (eC (.int i))) := PEimp pe_int fun _ _ _ h => td_c (.int i) h
theorem ge_bl {b j} : PE X (.Constant (.bool b) j pos) (tD W cm (eC (.bool b))) := PEimp pe_bl fun _ _ _ h => td_c (.bl b) h
theorem ge_non {j} : PE X (.Constant .none j pos) (tD W cm (eC .none)) := PEimp pe_non fun _ _ _ h => td_c .non h
theorem ge_str {x j} : PE X (.Constant (.str x) j pos) (tD W cm (eC (.str x))) := PEimp pe_str fun _ _ _ h => td_c (.str x) h
/-- a constant of the module -/
theorem ge_glob {x : Str} {v : V} {d : D} {u : Value} (hg : Gl X x) (hm : X.mg x = some u) (r : RelV v u) (q : Rp emp v d) (hd : (x == ("__debug__" : Str)) = false := by decide) : PE X (.Name x pos) (tD W cm (eC d)) := PEimp (pe_glob hg hm r hd) fun _ _ _ h => td_c q h
end
/-! ### calls of the text's own defs -/
section
variable {X : Cx} {W : L2.WX} {cm : String → Addr} {k : Nat} {f : Addr} {fd : FuncData} {ps : List Str} {fn : Fn} {x : Str} {p pos : Pos} {e : Expr} {es : List Expr} {fs : List DE}
theorem td_call {mask : List Bool} {σ : L2.St} {H : Hp} {Q : VK} (h : tD W cm (dAp (opCall mask fn) fs) σ H Q) : tCallS (spD cm fn) (WE W) (tAD W cm fs) σ H Q := ap_read ap_call h
theorem td_callX {mask : List Bool} {σ : L2.St} {H : Hp} {Q : VK} (h : tD W cm (dAp (opCallX mask fn) fs) σ H Q) : tCallS (spD cm fn) (WE W) (tAD W cm fs) σ H Q := ap_read ap_callX h
theorem ge_call {mask : List Bool} (F : FnOk X.prog X.w X.K X.mg X.base (L2.CX X.prog X.w) k f fd ps (spD cm fn)) (hr : Room k X.A) (hg : Gl X x) (hm : X.mg x = some (.ref f)) (hk : PySem.W.keepIn X.K (.ref f) = true) (hb : Binds X.K fd ps []) (tk : Takes X W)
    (ha : PA X (e :: es) (tAD W cm fs)) (hdb : (x == ("__debug__" : Str)) = false := by decide) (he : starEach (e :: es) X.env = (false, eval e X.env) :: starEach es X.env := by rfl) (hpl : (backTo pos (starEach es X.env)).any (·.1) = false := by rfl) :
    PE X (.Call (.Name x p) (e :: es) [] pos) (tD W cm (dAp (opCall mask fn) fs)) := PEimp (pe_callS F hr hg hm hk hb (fun σ => passAt tk σ) ha hdb he hpl) fun _ _ _ h => td_call h
theorem ge_callX {mask : List Bool} (F : FnOk X.prog X.w X.K X.mg X.base (L2.CX X.prog X.w) k f fd ps (spD cm fn)) (hr : Room k X.A) (hg : Gl X x) (hm : X.mg x = some (.ref f)) (hk : PySem.W.keepIn X.K (.ref f) = true) (hb : Binds X.K fd ps []) (tk : Takes X W)
    (ha : PA X (e :: es) (tAD W cm fs)) (hdb : (x == ("__debug__" : Str)) = false := by decide) (he : starEach (e :: es) X.env = (false, eval e X.env) :: starEach es X.env := by rfl) (hpl : (backTo pos (starEach es X.env)).any (·.1) = false := by rfl) :
    PE X (.Call (.Name x p) (e :: es) [] pos) (tD W cm (dAp (opCallX mask fn) fs)) := PEimp (pe_callS F hr hg hm hk hb (fun σ => passAt tk σ) ha hdb he hpl) fun _ _ _ h => td_callX h
end
/-! ### a def's promise by its body -/
def resTok (env : Env) : Tok → Option Tok
  | .sl i => match env[i]? with
    | some (.fro b d) => some (.fz b d)
    | some (.own false b xs) => some (.nw b xs)
    | some (.ex d) => some (.ex d)
    | _ => none
  | t => some t
def outsOf (env : Env) : List Arg → Nat → Option (List (Option (Bool × List D)))
  | [], _ => some []
  | .v _ _ :: r, i => match outsOf env r (i + 1) with
    | none => none
    | some l => some (none :: l)
  | .o _ _ :: r, i => match env[i]? with
    | some (.own true b xs) => match outsOf env r (i + 1) with
      | none => none
      | some l => some (some (b, xs) :: l)
    | _ => none
def runFn (np n : Nat) (s : DS) : Fn := fun args => match decide (args.length = np) with
  | false => .bad
  | true => match s (argEnv args ++ List.replicate (n - np) .un) with
    | .nx e => match outsOf e args 0 with
      | none => .bad
      | some l => .ok (.fz true .none) l
    | .rt t e => match resTok e t with
      | none => .bad
      | some t' => match outsOf e args 0 with
        | none => .bad
        | some l => .ok t' l
    | .exc c _ => .exc c
    | _ => .bad
theorem outsOf_get {env : Env} : ∀ {args : List Arg} {i : Nat} {l : List (Option (Bool × List D))}, outsOf env args i = some l →
    l.length = args.length ∧ ∀ j : Nat, (∀ b d, args[j]? = some (Arg.v b d) → l[j]? = some none) ∧ (∀ b xs, args[j]? = some (Arg.o b xs) → ∃ b' ys, l[j]? = some (some (b', ys)) ∧ env[i + j]? = some (.own true b' ys))
  | [], _, _, h => by
    cases h
    exact ⟨rfl, fun j => ⟨fun _ _ e => by simp at e, fun _ _ e => by simp at e⟩⟩
  | .v b d :: r, i, l, h => by
    simp only [outsOf] at h
    cases e : outsOf env r (i + 1) with
    | none => rw [e] at h; cases h
    | some l' =>
      rw [e] at h
      cases h
      obtain ⟨h1, h2⟩ := outsOf_get e
      refine ⟨by rw [List.length_cons, List.length_cons, h1], fun j => ?_⟩
      cases j with
      | zero => exact ⟨fun _ _ _ => rfl, fun _ _ e => by simp at e⟩
      | succ j =>
        obtain ⟨k1, k2⟩ := h2 j
        refine ⟨fun b' d' e => by simpa using k1 b' d' (by simpa using e), fun b' xs e => ?_⟩
        obtain ⟨c, ys, z1, z2⟩ := k2 b' xs (by simpa using e)
        exact ⟨c, ys, by simpa using z1, by rw [← z2]; congr 1; omega⟩
  | .o b xs :: r, i, l, h => by
    simp only [outsOf] at h
    cases ei : env[i]? with
    | none => rw [ei] at h; cases h
    | some s =>
      rw [ei] at h
      cases s with
      | own p c ys =>
        cases p with
        | false => cases h
        | true =>
          simp only at h
          cases e : outsOf env r (i + 1) with
          | none => rw [e] at h; cases h
          | some l' =>
            rw [e] at h
            cases h
            obtain ⟨h1, h2⟩ := outsOf_get e
            refine ⟨by rw [List.length_cons, List.length_cons, h1], fun j => ?_⟩
            cases j with
            | zero => exact ⟨fun _ _ e => by simp at e, fun _ _ _ => ⟨c, ys, rfl, ei⟩⟩
            | succ j =>
              obtain ⟨k1, k2⟩ := h2 j
              refine ⟨fun b' d' e => by simpa using k1 b' d' (by simpa using e), fun b' xs e => ?_⟩
              obtain ⟨c, ys, z1, z2⟩ := k2 b' xs (by simpa using e)
              exact ⟨c, ys, by simpa using z1, by rw [← z2]; congr 1; omega⟩
      | _ => cases h
section
variable {B : Hp} {pn : Nat → Option Addr} {env : Env} {σ : L2.St} {F N G : Hp} {Rg : Nat → Hp} {H R : Hp}
theorem Ok.pad (I : Ok B pn env σ F N G Rg H) (m : Nat) : Ok B pn (env ++ List.replicate m .un) (σ ++ List.replicate m none) F N G Rg H where
  len := by rw [List.length_append, List.length_append, I.len, List.length_replicate, List.length_replicate]
  sF := I.sF
  sN := I.sN
  sG := I.sG
  dG := I.dG
  nB := I.nB
  nZ := I.nZ
  hB := I.hB
  sl := fun j s e => by
    by_cases hj : j < env.length
    · rw [List.getElem?_append_left hj] at e
      have z := I.sl j s e
      have w : (σ ++ List.replicate m none)[j]? = σ[j]? := List.getElem?_append_left (by rw [← I.len]; exact hj)
      cases s with
      | un => exact z
      | fro b d => exact ⟨z.1, z.2.choose, w.trans z.2.choose_spec.1, z.2.choose_spec.2⟩
      | ex d => obtain ⟨v, e1, r⟩ := z; exact ⟨v, w.trans e1, r⟩
      | own p b xs => obtain ⟨l, ws, e1, r⟩ := z; exact ⟨l, ws, w.trans e1, r⟩
      | lent => obtain ⟨z0, l, e1, e2⟩ := z; exact ⟨z0, l, e1, w.trans e2⟩
    · rw [List.getElem?_append_right (by omega), List.getElem?_replicate] at e
      split at e
      · cases e; exact I.out j (by omega)
      · cases e
  sR := I.sR
  dF := I.dF
  dRG := I.dRG
  dR := I.dR
  out := fun j h => I.out j (by rw [List.length_append] at h; omega)
/-- the state at the def's end, by its parameters alone -/
theorem Ok.ends {args : List Arg} {vs : List V} {outs : List (Option (Bool × List D))} {e' : Env} {σ' : L2.St} {F' N' : Hp} {Rg' : Nat → Hp} {H' : Hp} (I0 : Ok B pn (argEnv args) (vs.map some) F N G Rg H) (I : Ok B pn e' σ' F' N' G Rg' H') (ho : outsOf e' args 0 = some outs) :
    Ok B pn (outEnv outs) (vs.map some) F' N' G (fun i => match outs[i]? with | some (some _) => Rg' i | _ => emp) H' where
  len := by
    have l := I0.len
    unfold argEnv at l
    unfold outEnv
    rw [List.length_map] at l ⊢
    rw [(outsOf_get ho).1]
    exact l
  sF := I.sF
  sN := I.sN
  sG := I.sG
  dG := I.dG
  nB := I.nB
  nZ := I.nZ
  hB := I.hB
  sl := fun j s e => by
    obtain ⟨hl, hg⟩ := outsOf_get ho
    unfold outEnv at e
    rw [List.getElem?_map] at e
    cases q : outs[j]? with
    | none => rw [q] at e; cases e
    | some o =>
      rw [q] at e
      cases o with
      | none => cases e; rfl
      | some o =>
        obtain ⟨b, xs⟩ := o
        cases e
        have hj : j < args.length := by rw [← hl]; exact (List.getElem?_eq_some_iff.mp q).1
        cases a : args[j]? with
        | none => rw [List.getElem?_eq_none_iff] at a; omega
        | some a' =>
          cases a' with
          | v b0 d0 => rw [(hg j).1 b0 d0 a] at q; cases q
          | o b0 ys =>
            obtain ⟨c, zs, z1, z2⟩ := (hg j).2 b0 ys a
            rw [q] at z1
            cases z1
            rw [Nat.zero_add] at z2
            obtain ⟨l, ws, w1, w2, w3, w4⟩ := I.sl j _ z2
            have e0 : (argEnv args)[j]? = some (.own true b0 ys) := by
              unfold argEnv
              rw [List.getElem?_map, a]
              rfl
            obtain ⟨l0, ws0, y1, y2, y3, y4⟩ := I0.sl j _ e0
            rw [if_pos rfl] at w4 y4
            rw [w4] at y4
            cases y4
            exact ⟨l, ws, y1, w2, w3, by rw [if_pos rfl]; exact w4⟩
  sR := fun j => by split; exact I.sR j; exact emp_same _
  dF := fun j => by split; exact I.dF j; exact dj_emp _
  dRG := fun j => by split; exact I.dRG j; exact dj_emp _
  dR := fun i j h => by
    split
    · split
      · exact I.dR i j h
      · exact dj_emp _
    · exact emp_dj _
  out := fun j h => by
    unfold outEnv at h
    rw [List.length_map] at h
    rw [List.getElem?_eq_none h]
/-- a region apart from all at the end is new -/
theorem new_of {args : List Arg} {vs : List V} {outs : List (Option (Bool × List D))} {e' : Env} {σ' : L2.St} {F' N' : Hp} {Rg' : Nat → Hp} {H' : Hp} (En : Entry B pn args vs F N G Rg H) (I : Ok B pn e' σ' F' N' G Rg' H') (hF : Same F F') (ho : outsOf e' args 0 = some outs)
    (dF : dj F' R) (dG : dj G R) (dR : ∀ j, (∃ b xs, args[j]? = some (Arg.o b xs)) → dj (Rg' j) R) : dj H R := fun a o e => by
  cases q : H a with
  | none => rfl
  | some u =>
    rcases En.cov a u q with z | z | ⟨i, z⟩
    · have := hF _ _ z
      rw [dF a o e] at this
      cases this
    · rw [dG a o e] at z; cases z
    · have hi : i < args.length := by
        by_cases h : i < args.length
        · exact h
        · have := En.ok.out i (by unfold argEnv; rw [List.length_map]; omega)
          rw [this] at z
          cases z
      cases ea : args[i]? with
      | none => rw [List.getElem?_eq_none_iff] at ea; omega
      | some a' =>
        have e0 : (argEnv args)[i]? = some (argSlot a') := by unfold argEnv; rw [List.getElem?_map, ea]; rfl
        cases a' with
        | v b d =>
          have S := En.ok.sl i _ e0
          rw [S.1] at z
          cases z
        | o b xs =>
          obtain ⟨c, ys, z1, z2⟩ := ((outsOf_get ho).2 i).2 b xs ea
          rw [Nat.zero_add] at z2
          obtain ⟨l, ws, w1, w2, w3, w4⟩ := I.sl i _ z2
          obtain ⟨l0, ws0, y1, y2, y3, y4⟩ := En.ok.sl i _ e0
          rw [if_pos rfl] at w4 y4
          rw [w4] at y4
          cases y4
          rw [y2] at z
          obtain ⟨rfl, _⟩ := sgl_some z
          have d := dR i ⟨b, xs, ea⟩
          rw [w2] at d
          have := d _ _ e
          rw [sgl_same] at this
          cases this
end
theorem fn_ok {P : Program} {w : World} {K : PySem.W.Frag} {mg : Str → Option Value} {base : Heap} {cm : String → Addr} {x qual : Str} {st : Stmt} {f : Addr} {fd : FuncData} {Nm ps : List Str} {k : Nat} {s : DS} (F : Fun K x qual st f fd) (S : FnScope Nm ps (defScope st))
    (hb : ∀ (cdv : Value) (A : Around) (outer : List PySem.Env) (s0 : Shared) (H : Hp) (E : XK), Room k (A.deeper (envOfC qual (defScope st) s0.heap.objs.size f cdv)) →
      PSs (cxOf (L2.CX P w) P w K mg base Nm qual (defScope st) f cdv A outer s0 H E) (defBody st) (tS (fun cls d _ H => E cls d H) cm s)) :
    FnOk P w K mg base (L2.CX P w) (k + 1) f fd ps (spD cm (runFn ps.length Nm.length s)) := by
  refine F.okX S (fun vs H Q E h => ?_) (fun cdv A outer s0 H vs Q E hr h => ⟨_, hb cdv A outer s0 H E hr, ?_⟩)
  · obtain ⟨B, pn, Fz, N, G, Rg, args, En, h⟩ := h
    have l := En.ok.len
    unfold argEnv at l
    rw [List.length_map, List.length_map] at l
    cases e : decide (args.length = ps.length) with
    | true => rw [← l]; exact of_decide_eq_true e
    | false => unfold runFn at h; rw [e] at h; exact h.elim
  · obtain ⟨B, pn, Fz, N, G, Rg, args, En, h⟩ := h
    have l := En.ok.len
    unfold argEnv at l
    rw [List.length_map, List.length_map] at l
    unfold runFn at h
    cases e : decide (args.length = ps.length) with
    | false => rw [e] at h; exact h.elim
    | true =>
      rw [e] at h
      simp only at h
      have la : args.length = ps.length := of_decide_eq_true e
      have hst : L2.start Nm vs = vs.map some ++ List.replicate (Nm.length - ps.length) none := by
        unfold L2.start
        rw [← l, la]
      have I0 := En.ok.pad (Nm.length - ps.length)
      rw [← hst] at I0
      refine ⟨B, pn, Fz, N, G, Rg, _, I0, ?_⟩
      have fin : ∀ {t : Tok} {e' : Env} {l : List (Option (Bool × List D))} {σ' : L2.St} {F' N' : Hp} {Rg' : Nat → Hp} {H' : Hp} {v : V} {R' : Hp}, outsOf e' args 0 = some l → Ok B pn e' σ' F' N' G Rg' H' → Same Fz F' → Same N N' → noSl t = true → TokOk B [] F' N' R' t v → Same R' H' → dj F' R' → dj G R' → (∀ j, (∃ b xs, args[j]? = some (Arg.o b xs)) → dj (Rg' j) R') →
          (∀ v F' N' Rg' H' R, Ok B pn (outEnv l) (vs.map some) F' N' G Rg' H' → Same Fz F' → Same N N' → TokOk B [] F' N' R t v → Apart F' G Rg' H' R → dj H R → Q v H') → Q v H' := fun {t e' l σ' F' N' Rg' H' v R'} ho I hF hN nt T sR dF dG dR q => by
        refine q v F' N' _ H' R' (En.ok.ends I ho) hF hN T ⟨sR, dF, dG, fun j => ?_⟩ (new_of En I hF ho dF dG dR)
        split
        · rename_i o eo
          refine dR j ?_
          obtain ⟨hl, hg⟩ := outsOf_get ho
          have hj : j < args.length := by rw [← hl]; exact (List.getElem?_eq_some_iff.mp eo).1
          cases ea : args[j]? with
          | none => rw [List.getElem?_eq_none_iff] at ea; omega
          | some a' =>
            cases a' with
            | v b0 d0 => rw [(hg j).1 b0 d0 ea] at eo; cases eo
            | o b0 ys => exact ⟨b0, ys, rfl⟩
        · exact emp_dj _
      cases e1 : s (argEnv args ++ List.replicate (Nm.length - ps.length) .un) with
      | bad => rw [e1] at h; exact h
      | bk e' => rw [e1] at h; exact h.elim
      | ct e' => rw [e1] at h; exact h.elim
      | exc c e' =>
        rw [e1] at h
        intro σ' F' N' Rg' H' I hF hN
        refine h F' N' (fun _ => emp) H' ?_ hF hN
        exact { I with
          len := by rw [List.length_map, List.length_map, l]
          sl := fun j s0 ej => by
            rw [List.getElem?_map] at ej
            cases q : args[j]? with
            | none => rw [q] at ej; cases ej
            | some a => rw [q] at ej; cases ej; rfl
          sR := fun _ => emp_same _
          dF := fun _ => dj_emp _
          dRG := fun _ => dj_emp _
          dR := fun _ _ _ => dj_emp _
          out := fun _ _ => rfl }
      | nx e' =>
        rw [e1] at h
        simp only at h
        intro σ' F' N' Rg' H' I hF hN
        cases e2 : outsOf e' args 0 with
        | none => rw [e2] at h; exact h.elim
        | some l =>
          rw [e2] at h
          exact fin (t := .fz true .none) (R' := emp) e2 I hF hN rfl ⟨rfl, .non⟩ (emp_same _) (dj_emp _) (dj_emp _) (fun _ _ => dj_emp _) h.2
      | rt t e' =>
        rw [e1] at h
        simp only at h
        cases e3 : resTok e' t with
        | none => rw [e3] at h; exact h.elim
        | some t' =>
          rw [e3] at h
          simp only at h
          cases e2 : outsOf e' args 0 with
          | none => rw [e2] at h; exact h.elim
          | some l =>
            rw [e2] at h
            intro σ' v F' N' Rg' H' R I hF hN T A
            have plain : (∀ i, t ≠ .sl i) → Q v H' := fun ns => by
              have et : t' = t := by
                cases t with
                | sl i => exact absurd rfl (ns i)
                | _ => cases e3; rfl
              subst et
              exact fin e2 I hF hN h.1 (T.noSl h.1) A.sR A.dF A.dG (fun j _ => A.dR j) h.2
            cases t with
            | fz b d => exact plain fun i z => by cases z
            | nw b xs => exact plain fun i z => by cases z
            | ex d => exact plain fun i z => by cases z
            | sl i =>
              simp only [resTok] at e3
              obtain ⟨_, hv⟩ := T
              cases ei : e'[i]? with
              | none => rw [ei] at e3; cases e3
              | some sl =>
                rw [ei] at e3
                have notO : ∀ {s0 : Slot}, e'[i]? = some s0 → (∀ b xs, s0 ≠ .own true b xs) → ∀ j, (∃ b xs, args[j]? = some (Arg.o b xs)) → j ≠ i := fun {s0} es hs j ⟨b, xs, ea⟩ z => by
                  subst z
                  obtain ⟨c, ys, z1, z2⟩ := ((outsOf_get e2).2 j).2 b xs ea
                  rw [Nat.zero_add, es] at z2
                  cases z2
                  exact hs _ _ rfl
                cases sl with
                | un => cases e3
                | lent => cases e3
                | fro b d =>
                  cases e3
                  obtain ⟨_, w0, w1, w2⟩ := I.sl i _ ei
                  rw [hv] at w1
                  cases w1
                  exact fin (t := .fz b d) (R' := emp) e2 I hF hN rfl ⟨rfl, w2⟩ (emp_same _) (dj_emp _) (dj_emp _) (fun _ _ => dj_emp _) h.2
                | ex d =>
                  cases e3
                  obtain ⟨w0, w1, w2⟩ := I.sl i _ ei
                  rw [hv] at w1
                  cases w1
                  exact fin (t := .ex d) (R' := Rg' i) e2 I hF hN rfl w2 (I.sR i) (I.dF i) (I.dRG i) (fun j hj => I.dR j i (notO ei (fun _ _ z => by cases z) j hj)) h.2
                | own p b xs =>
                  cases p with
                  | true => cases e3
                  | false =>
                    cases e3
                    obtain ⟨l0, ws, w1, w2, w3, w4⟩ := I.sl i _ ei
                    rw [hv] at w1
                    cases w1
                    exact fin (t := .nw b xs) (R' := Rg' i) e2 I hF hN rfl ⟨l0, ws, rfl, w2, w3, w4⟩ (I.sR i) (I.dF i) (I.dRG i) (fun j hj => I.dR j i (notO ei (fun _ _ z => by cases z) j hj)) h.2
end DL
namespace DL
open PySem PySem.Spec PyProof.Rows L2
/-! ### two values, one result -/
section
variable {X : Cx} {W : L2.WX} {cm : String → Addr} {a b c : Expr} {pos : Pos} {f g h : DE}
def r2 (r : R2) : L2.St → List V → Hp → VK → Prop := fun _ vs H Q => ∃ x y, vs = [x, y] ∧ r x y H Q
theorem td_bin {op : List Tok → Env → ER} {r : R2} (ho : ApR W cm op (fun _ vs H Q => ∀ x y, vs = [x, y] → r x y H Q)) {σ : L2.St} {H : Hp} {Q : VK} (q : tD W cm (dAp op [f, g]) σ H Q) : tOp r (tD W cm f) (tD W cm g) σ H Q := by
  have z : tAD W cm [f, g] σ H (fun vs H' => ∀ x y, vs = [x, y] → r x y H' Q) := ap_read (r := fun _ vs H Q => ∀ x y, vs = [x, y] → r x y H Q) ho q
  have m : ∀ {f : DE} {σ : L2.St} {H : Hp} {Q Q' : VK}, tD W cm f σ H Q → (∀ v H, Q v H → Q' v H) → tD W cm f σ H Q' := fun ⟨B, pn, F, N, G, Rg, env, I, z⟩ k => ⟨B, pn, F, N, G, Rg, env, I, z.imp k⟩
  exact m z fun x H1 z => m z fun y H2 z => z x y rfl
theorem td_un {op : List Tok → Env → ER} {r : V → Hp → VK → Prop} (ho : ApR W cm op (fun _ vs H Q => ∀ x, vs = [x] → r x H Q)) {σ : L2.St} {H : Hp} {Q : VK} (q : tD W cm (dAp op [f]) σ H Q) : tUn r (tD W cm f) σ H Q := by
  have z : tAD W cm [f] σ H (fun vs H' => ∀ x, vs = [x] → r x H' Q) := ap_read (r := fun _ vs H Q => ∀ x, vs = [x] → r x H Q) ho q
  have m : ∀ {f : DE} {σ : L2.St} {H : Hp} {Q Q' : VK}, tD W cm f σ H Q → (∀ v H, Q v H → Q' v H) → tD W cm f σ H Q' := fun ⟨B, pn, F, N, G, Rg, env, I, z⟩ k => ⟨B, pn, F, N, G, Rg, env, I, z.imp k⟩
  exact m z fun x H1 z => z x rfl
/-- an operator whose result is a scalar -/
theorem ge_sc2 {op : Operator} {r : R2} {d : List D → Option D} (ho : OpR X (binaryOp op) r) (hr : ScR (fun _ vs H Q => ∀ x y, vs = [x, y] → r x y H Q) d) (ha : PE X a (tD W cm f)) (hb : PE X b (tD W cm g)) : PE X (.BinOp a op b pos) (tD W cm (dAp (opSc d) [f, g])) :=
  PEimp (pe_op ho ha hb) fun _ _ _ q => td_bin (ap_sc hr) q
theorem ge_el2 {op : Operator} {r : R2} {d : List (Bool × D) → Option Tok} (ho : OpR X (binaryOp op) r) (hr : ElR (fun _ vs H Q => ∀ x y, vs = [x, y] → r x y H Q) d) (ha : PE X a (tD W cm f)) (hb : PE X b (tD W cm g)) : PE X (.BinOp a op b pos) (tD W cm (dAp (opEl d) [f, g])) :=
  PEimp (pe_op ho ha hb) fun _ _ _ q => td_bin (ap_el hr) q
theorem ge_cmp2 {op : CmpOp} {r : R2} {d : List D → Option D} (ho : OpR X (compareOp op) r) (hr : ScR (fun _ vs H Q => ∀ x y, vs = [x, y] → r x y H Q) d) (hm : behindInMarks op b = false) (ha : PE X a (tD W cm f)) (hb : PE X b (tD W cm g)) : PE X (.Compare a [op] [b] pos) (tD W cm (dAp (opSc d) [f, g])) :=
  PEimp (pe_cmpR ho ha hb hm) fun _ _ _ q => td_bin (ap_sc hr) q
theorem gt_cmp2 {op : CmpOp} {r : R2} {d : List D → Option D} (ho : OpR X (compareOp op) r) (hr : ScR (fun _ vs H Q => ∀ x y, vs = [x, y] → r x y H Q) d) (hm : behindInMarks op b = false) (ha : PE X a (tD W cm f)) (hb : PE X b (tD W cm g)) : PT X (.Compare a [op] [b] pos) (tT W cm (dVal (dAp (opSc d) [f, g]))) :=
  PTimp (pt_cmpR ho ha hb hm) fun _ _ _ q => td_bin (ap_sc hr) (tt_val q)
theorem ge_un1 {op : UnaryOp} {r : V → Hp → VK → Prop} {d : List D → Option D} (ho : UnR X (unaryOp op) r) (hr : ScR (fun _ vs H Q => ∀ x, vs = [x] → r x H Q) d) (ha : PE X a (tD W cm f)) : PE X (.UnaryOp op a pos) (tD W cm (dAp (opSc d) [f])) :=
  PEimp (pe_un ho ha) fun _ _ _ q => td_un (ap_sc hr) q
end
/-! ### ints -/
def dInt2 (C : Int → Int → Bool) (k : Int → Int → D) : List D → Option D
  | [.int i, .int j] => match C i j with
    | true => some (k i j)
    | false => none
  | _ => none
theorem rpa1 {H : Hp} {x : V} {d : D} (h : RpA H [x] [d]) : Rp H x d := by
  cases h with
  | cons h _ => exact h
theorem rpa2 {H : Hp} {x y : V} {d e : D} (h : RpA H [x, y] [d, e]) : Rp H x d ∧ Rp H y e := by
  cases h with
  | cons h r => exact ⟨h, rpa1 r⟩
theorem sc_int2 {C : Int → Int → Bool} {k : Int → Int → D} {P : Int → Int → Prop} {g : Int → Int → V} (hC : ∀ i j, C i j = true → P i j) (hk : ∀ i j, Rp emp (g i j) (k i j)) : ScR (fun _ vs H Q => ∀ x y, vs = [x, y] → rI P g x y H Q) (dInt2 C k) := by
  intro σ H vs ds d Q r e q x y ev
  subst ev
  match ds, r, e with
  | [.int i, .int j], r, e =>
    obtain ⟨r1, r2⟩ := rpa2 r
    cases r1
    cases r2
    simp only [dInt2] at e
    cases hc : C i j with
    | false => rw [hc] at e; cases e
    | true =>
      rw [hc] at e
      cases e
      exact ⟨i, j, rfl, rfl, hC i j hc, q _ (hk i j)⟩
theorem sc_int2' {k : Int → Int → D} {g : Int → Int → V} (hk : ∀ i j, Rp emp (g i j) (k i j)) : ScR (fun _ vs H Q => ∀ x y, vs = [x, y] → rI0 g x y H Q) (dInt2 (fun _ _ => true) k) := by
  intro σ H vs ds d Q r e q x y ev
  obtain ⟨i, j, e1, e2, _, z⟩ := sc_int2 (P := fun _ _ => True) (fun _ _ _ => trivial) hk σ H vs ds d Q r e q x y ev
  exact ⟨i, j, e1, e2, z⟩
abbrev dSub := dInt2 (fun _ _ => true) fun i j => .int (i - j)
abbrev dLt := dInt2 (fun _ _ => true) fun i j => .bool (decide (i < j))
abbrev dLe := dInt2 (fun _ _ => true) fun i j => .bool (decide (i ≤ j))
abbrev dGt := dInt2 (fun _ _ => true) fun i j => .bool (decide (j < i))
abbrev dGe := dInt2 (fun _ _ => true) fun i j => .bool (decide (j ≤ i))
abbrev dDiv := dInt2 (fun _ j => decide (0 < j) && decide (j < 2 ^ 128)) fun i j => .int (i / j)
abbrev dMod := dInt2 (fun _ j => decide (0 < j)) fun i j => .int (i % j)
abbrev dPow := dInt2 (fun i j => decide (0 ≤ j) && decide (j ≤ 1000) && decide (-(2 ^ 60) < i) && decide (i < 2 ^ 60)) fun i j => .int (i ^ j.toNat)
abbrev dShl := dInt2 (fun i j => decide (0 ≤ j) && decide (j ≤ 1000) && decide (-(2 ^ 60) < i) && decide (i < 2 ^ 60)) fun i j => .int (i * 2 ^ j.toNat)
abbrev dShr := dInt2 (fun _ j => decide (0 ≤ j)) fun i j => .int (i / 2 ^ j.toNat)
abbrev dBAnd := dInt2 (fun _ _ => true) fun i j => .int (Builtin.bitAnd i j)
theorem C_div {i j : Int} (h : (decide (0 < j) && decide (j < 2 ^ 128)) = true) : CDivW i j := by
  rw [Bool.and_eq_true, decide_eq_true_eq, decide_eq_true_eq] at h
  exact wide_div (b := 128) h.1 (by omega) (by decide) (by decide)
theorem C_pow {i j : Int} (h : (decide (0 ≤ j) && decide (j ≤ 1000) && decide (-(2 ^ 60) < i) && decide (i < 2 ^ 60)) = true) : CPow i j := by
  simp only [Bool.and_eq_true, decide_eq_true_eq] at h
  obtain ⟨⟨⟨h1, h2⟩, h3⟩, h4⟩ := h
  exact ⟨h1, by omega, by omega⟩
section
variable {X : Cx} {W : L2.WX} {cm : String → Addr} {a b : Expr} {pos : Pos} {f g : DE}
theorem ge_sub (ha : PE X a (tD W cm f)) (hb : PE X b (tD W cm g)) : PE X (.BinOp a .Sub b pos) (tD W cm (dAp (opSc dSub) [f, g])) := ge_sc2 op_sub (sc_int2' fun _ _ => .int _) ha hb
theorem ge_div (ha : PE X a (tD W cm f)) (hb : PE X b (tD W cm g)) : PE X (.BinOp a .FloorDiv b pos) (tD W cm (dAp (opSc dDiv) [f, g])) := ge_sc2 op_fdivW (sc_int2 (fun _ _ => C_div) fun _ _ => .int _) ha hb
theorem ge_mod (ha : PE X a (tD W cm f)) (hb : PE X b (tD W cm g)) : PE X (.BinOp a .Mod b pos) (tD W cm (dAp (opSc dMod) [f, g])) := ge_sc2 op_mod (sc_int2 (fun _ _ h => of_decide_eq_true h) fun _ _ => .int _) ha hb
theorem ge_pow (ha : PE X a (tD W cm f)) (hb : PE X b (tD W cm g)) : PE X (.BinOp a .Pow b pos) (tD W cm (dAp (opSc dPow) [f, g])) := ge_sc2 op_pow (sc_int2 (fun _ _ => C_pow) fun _ _ => .int _) ha hb
theorem ge_shl (ha : PE X a (tD W cm f)) (hb : PE X b (tD W cm g)) : PE X (.BinOp a .LShift b pos) (tD W cm (dAp (opSc dShl) [f, g])) := ge_sc2 op_shl (sc_int2 (fun _ _ => C_pow) fun _ _ => .int _) ha hb
theorem ge_shr (ha : PE X a (tD W cm f)) (hb : PE X b (tD W cm g)) : PE X (.BinOp a .RShift b pos) (tD W cm (dAp (opSc dShr) [f, g])) := ge_sc2 op_shr (sc_int2 (fun _ _ h => of_decide_eq_true h) fun _ _ => .int _) ha hb
theorem ge_band (ha : PE X a (tD W cm f)) (hb : PE X b (tD W cm g)) : PE X (.BinOp a .BitAnd b pos) (tD W cm (dAp (opSc dBAnd) [f, g])) := ge_sc2 op_and (sc_int2' fun _ _ => .int _) ha hb
theorem ge_lt (ha : PE X a (tD W cm f)) (hb : PE X b (tD W cm g)) : PE X (.Compare a [.Lt] [b] pos) (tD W cm (dAp (opSc dLt) [f, g])) := ge_cmp2 op_lt (sc_int2' fun _ _ => .bl _) (nomark _) ha hb
theorem ge_le (ha : PE X a (tD W cm f)) (hb : PE X b (tD W cm g)) : PE X (.Compare a [.LtE] [b] pos) (tD W cm (dAp (opSc dLe) [f, g])) := ge_cmp2 op_le (sc_int2' fun _ _ => .bl _) (nomark _) ha hb
theorem ge_gt (ha : PE X a (tD W cm f)) (hb : PE X b (tD W cm g)) : PE X (.Compare a [.Gt] [b] pos) (tD W cm (dAp (opSc dGt) [f, g])) := ge_cmp2 op_gt (sc_int2' fun _ _ => .bl _) (nomark _) ha hb
theorem ge_ge (ha : PE X a (tD W cm f)) (hb : PE X b (tD W cm g)) : PE X (.Compare a [.GtE] [b] pos) (tD W cm (dAp (opSc dGe) [f, g])) := ge_cmp2 op_ge (sc_int2' fun _ _ => .bl _) (nomark _) ha hb
theorem gt_lt (ha : PE X a (tD W cm f)) (hb : PE X b (tD W cm g)) : PT X (.Compare a [.Lt] [b] pos) (tT W cm (dVal (dAp (opSc dLt) [f, g]))) := gt_cmp2 op_lt (sc_int2' fun _ _ => .bl _) (nomark _) ha hb
theorem gt_le (ha : PE X a (tD W cm f)) (hb : PE X b (tD W cm g)) : PT X (.Compare a [.LtE] [b] pos) (tT W cm (dVal (dAp (opSc dLe) [f, g]))) := gt_cmp2 op_le (sc_int2' fun _ _ => .bl _) (nomark _) ha hb
theorem gt_gt (ha : PE X a (tD W cm f)) (hb : PE X b (tD W cm g)) : PT X (.Compare a [.Gt] [b] pos) (tT W cm (dVal (dAp (opSc dGt) [f, g]))) := gt_cmp2 op_gt (sc_int2' fun _ _ => .bl _) (nomark _) ha hb
theorem gt_ge (ha : PE X a (tD W cm f)) (hb : PE X b (tD W cm g)) : PT X (.Compare a [.GtE] [b] pos) (tT W cm (dVal (dAp (opSc dGe) [f, g]))) := gt_cmp2 op_ge (sc_int2' fun _ _ => .bl _) (nomark _) ha hb
/-! ### == and != of data -/
def dEq : List D → Option D
  | [d, e] => match SeqAt.shaped d && SeqAt.shaped e with
    | true => some (.bool (PyData.eqv d e))
    | false => none
  | _ => none
def dNe : List D → Option D
  | [d, e] => match SeqAt.shaped d && SeqAt.shaped e with
    | true => some (.bool (!PyData.eqv d e))
    | false => none
  | _ => none
theorem sc_eq {K : PySem.W.Frag} : ScR (fun _ vs H Q => ∀ x y, vs = [x, y] → rEqD K x y H Q) dEq := by
  intro σ H vs ds d Q r e q x y ev
  subst ev
  match ds, r, e with
  | [d1, d2], r, e =>
    obtain ⟨q1, q2⟩ := rpa2 r
    simp only [dEq] at e
    cases hs : (SeqAt.shaped d1 && SeqAt.shaped d2) with
    | false => rw [hs] at e; cases e
    | true =>
      rw [hs] at e
      cases e
      rw [Bool.and_eq_true] at hs
      exact ⟨d1, d2, q1.dp (Same.refl _), q2.dp (Same.refl _), hs.1, hs.2, q _ (.bl _)⟩
theorem sc_ne {K : PySem.W.Frag} : ScR (fun _ vs H Q => ∀ x y, vs = [x, y] → rNeD K x y H Q) dNe := by
  intro σ H vs ds d Q r e q x y ev
  subst ev
  match ds, r, e with
  | [d1, d2], r, e =>
    obtain ⟨q1, q2⟩ := rpa2 r
    simp only [dNe] at e
    cases hs : (SeqAt.shaped d1 && SeqAt.shaped d2) with
    | false => rw [hs] at e; cases e
    | true =>
      rw [hs] at e
      cases e
      rw [Bool.and_eq_true] at hs
      exact ⟨d1, d2, q1.dp (Same.refl _), q2.dp (Same.refl _), hs.1, hs.2, q _ (.bl _)⟩
theorem ge_eq (hu : X.A.units + 64 < cLine) (ha : PE X a (tD W cm f)) (hb : PE X b (tD W cm g)) : PE X (.Compare a [.Eq] [b] pos) (tD W cm (dAp (opSc dEq) [f, g])) := ge_cmp2 (op_eqD hu) sc_eq (nomark _) ha hb
theorem ge_ne (hu : X.A.units + 64 < cLine) (ha : PE X a (tD W cm f)) (hb : PE X b (tD W cm g)) : PE X (.Compare a [.NotEq] [b] pos) (tD W cm (dAp (opSc dNe) [f, g])) := ge_cmp2 (op_neD hu) sc_ne (nomark _) ha hb
theorem gt_eq (hu : X.A.units + 64 < cLine) (ha : PE X a (tD W cm f)) (hb : PE X b (tD W cm g)) : PT X (.Compare a [.Eq] [b] pos) (tT W cm (dVal (dAp (opSc dEq) [f, g]))) := gt_cmp2 (op_eqD hu) sc_eq (nomark _) ha hb
theorem gt_ne (hu : X.A.units + 64 < cLine) (ha : PE X a (tD W cm f)) (hb : PE X b (tD W cm g)) : PT X (.Compare a [.NotEq] [b] pos) (tT W cm (dVal (dAp (opSc dNe) [f, g]))) := gt_cmp2 (op_neD hu) sc_ne (nomark _) ha hb
/-! ### is None -/
def dIsN : List D → Option D
  | [d, .none] => some (.bool (match d with | .none => true | _ => false))
  | _ => none
def dNotN : List D → Option D
  | [d, .none] => some (.bool (match d with | .none => false | _ => true))
  | _ => none
theorem sc_isN : ScR (fun _ vs H Q => ∀ x y, vs = [x, y] → (fun x y H Q => y = V.non ∧ Q (.bl (decide (x = .non))) H : R2) x y H Q) dIsN := by
  intro σ H vs ds d Q r e q x y ev
  subst ev
  match ds, r, e with
  | [d1, .none], r, e =>
    obtain ⟨q1, q2⟩ := rpa2 r
    cases q2
    simp only [dIsN] at e
    cases e
    refine ⟨rfl, q _ ?_⟩
    cases q1 <;> exact .bl _
theorem sc_notN : ScR (fun _ vs H Q => ∀ x y, vs = [x, y] → (fun x y H Q => y = V.non ∧ Q (.bl (!decide (x = .non))) H : R2) x y H Q) dNotN := by
  intro σ H vs ds d Q r e q x y ev
  subst ev
  match ds, r, e with
  | [d1, .none], r, e =>
    obtain ⟨q1, q2⟩ := rpa2 r
    cases q2
    simp only [dNotN] at e
    cases e
    refine ⟨rfl, q _ ?_⟩
    cases q1 <;> exact .bl _
theorem ge_isN (ha : PE X a (tD W cm f)) (hb : PE X b (tD W cm g)) : PE X (.Compare a [.Is] [b] pos) (tD W cm (dAp (opSc dIsN) [f, g])) := ge_cmp2 op_isN sc_isN (nomark _) ha hb
theorem ge_notN (ha : PE X a (tD W cm f)) (hb : PE X b (tD W cm g)) : PE X (.Compare a [.IsNot] [b] pos) (tD W cm (dAp (opSc dNotN) [f, g])) := ge_cmp2 op_notN sc_notN (nomark _) ha hb
theorem gt_isN (ha : PE X a (tD W cm f)) (hb : PE X b (tD W cm g)) : PT X (.Compare a [.Is] [b] pos) (tT W cm (dVal (dAp (opSc dIsN) [f, g]))) := gt_cmp2 op_isN sc_isN (nomark _) ha hb
theorem gt_notN (ha : PE X a (tD W cm f)) (hb : PE X b (tD W cm g)) : PT X (.Compare a [.IsNot] [b] pos) (tT W cm (dVal (dAp (opSc dNotN) [f, g]))) := gt_cmp2 op_notN sc_notN (nomark _) ha hb
/-! ### -i -/
def dNeg : List D → Option D
  | [.int i] => some (.int (-i))
  | _ => none
theorem ge_neg (ha : PE X a (tD W cm f)) : PE X (.UnaryOp .USub a pos) (tD W cm (dAp (opSc dNeg) [f])) := ge_un1 un_neg (fun σ H vs ds d Q r e q x ev => by
  subst ev
  match ds, r, e with
  | [.int i], r, e =>
    have q1 := rpa1 r
    cases q1
    cases e
    exact ⟨i, rfl, q _ (.int _)⟩) ha
end
/-! ### chains a <= b < c, of ints -/
def eChain (p q : Int → Int → Bool) (f g h : DE) : DE := fun env => match f env with
  | .ok t1 e1 => match g e1 with
    | .ok t2 e2 => match rd e2 t1, rd e2 t2 with
      | some (.int i), some (.int j) => match p i j with
        | false => .ok (.fz true (.bool false)) e2
        | true => match h e2 with
          | .ok t3 e3 => match rd e3 t3 with
            | some (.int k) => .ok (.fz true (.bool (q j k))) e3
            | _ => .bad
          | .exc c e3 => .exc c e3
          | .bad => .bad
      | _, _ => .bad
    | .exc c e2 => .exc c e2
    | .bad => .bad
  | .exc c e1 => .exc c e1
  | .bad => .bad
theorem td_chain {W : L2.WX} {cm : String → Addr} {p q : Int → Int → Bool} {f g h : DE} {σ : L2.St} {H : Hp} {Q : VK} (z : tD W cm (eChain p q f g h) σ H Q) : tChain (rI0 fun i j => .bl (p i j)) (rI0 fun i j => .bl (q i j)) (tD W cm f) (tD W cm g) (tD W cm h) σ H Q := by
  obtain ⟨B, pn, F, N, G, Rg, env, I, z⟩ := z
  refine ⟨B, pn, F, N, G, Rg, env, I, ?_⟩
  unfold eChain at z
  cases e1 : f env with
  | bad => rw [e1] at z; exact z
  | exc c en => rw [e1] at z; exact z
  | ok t1 en1 =>
    rw [e1] at z
    simp only at z
    intro v1 F1 N1 Rg1 H1 R1 I1 hF1 hN1 T1 A1
    refine ⟨B, pn, F1, N1, _, Rg1, en1, I1.res A1, ?_⟩
    cases e2 : g en1 with
    | bad => rw [e2] at z; exact z
    | exc c en => rw [e2] at z; exact fun F' N' Rg' H' I' hF hN => z F' N' Rg' H' (I'.unres (jn_left A1.dG)) (hF1.trans hF) (hN1.trans hN)
    | ok t2 en2 =>
      rw [e2] at z
      simp only at z
      intro v2 F2 N2 Rg2 H2 R2 I2 hF2 hN2 T2 A2
      have A1' : Apart F2 G Rg2 H2 R1 := .back I2 A1.dG
      cases e3 : rd en2 t1 with
      | none => rw [e3] at z; exact z.elim
      | some d1 =>
        cases e4 : rd en2 t2 with
        | none => rw [e3, e4] at z; cases d1 <;> exact z.elim
        | some d2 =>
          rw [e3, e4] at z
          cases d1 with
          | int i =>
            cases d2 with
            | int j =>
              simp only at z
              have r1 := rd_ok I2 (T1.mono hF2 hN2) A1'.sR e3
              have r2 := rd_ok I2 T2 A2.sR e4
              cases r1
              cases r2
              refine ⟨i, j, rfl, rfl, p i j, rfl, ?_⟩
              cases hp : p i j with
              | false =>
                rw [hp] at z
                exact iteF (z _ F2 N2 Rg2 H2 emp (I2.unres (jn_left A1.dG)) (hF1.trans hF2) (hN1.trans hN2) ⟨rfl, .bl _⟩ .none)
              | true =>
                rw [hp] at z
                simp only at z
                refine iteT ⟨B, pn, F2, N2, _, Rg2, en2, I2.unres (jn_left A1.dG), ?_⟩
                cases e5 : h en2 with
                | bad => rw [e5] at z; exact z
                | exc c en => rw [e5] at z; exact fun F' N' Rg' H' I' hF hN => z F' N' Rg' H' I' (hF1.trans (hF2.trans hF)) (hN1.trans (hN2.trans hN))
                | ok t3 en3 =>
                  rw [e5] at z
                  simp only at z
                  intro v3 F3 N3 Rg3 H3 R3 I3 hF3 hN3 T3 A3
                  cases e6 : rd en3 t3 with
                  | none => rw [e6] at z; exact z.elim
                  | some d3 =>
                    rw [e6] at z
                    have r3 := rd_ok I3 T3 A3.sR e6
                    cases d3 with
                    | int k =>
                      cases r3
                      exact ⟨j, k, rfl, rfl, z _ F3 N3 Rg3 H3 emp I3 (hF1.trans (hF2.trans hF3)) (hN1.trans (hN2.trans hN3)) ⟨rfl, .bl _⟩ .none⟩
                    | _ => exact z.elim
            | _ => exact z.elim
          | _ => cases d2 <;> exact z.elim
section
variable {X : Cx} {W : L2.WX} {cm : String → Addr} {a b c : Expr} {pos : Pos} {f g h : DE}
theorem ge_chain {op op' : CmpOp} {p q : Int → Int → Bool} (ho : OpR X (compareOp op) (rI0 fun i j => .bl (p i j))) (ho' : OpR X (compareOp op') (rI0 fun i j => .bl (q i j))) (ha : PE X a (tD W cm f)) (hb : PE X b (tD W cm g)) (hc : PE X c (tD W cm h))
    (hm : lastMarks [op, op'] [b, c] = false := by with_unfolding_all rfl) : PE X (.Compare a [op, op'] [b, c] pos) (tD W cm (eChain p q f g h)) := PEimp (pe_chain ho ho' ha hb hc hm) fun _ _ _ z => td_chain z
theorem gt_chain {op op' : CmpOp} {p q : Int → Int → Bool} (ho : OpR X (compareOp op) (rI0 fun i j => .bl (p i j))) (ho' : OpR X (compareOp op') (rI0 fun i j => .bl (q i j))) (ha : PE X a (tD W cm f)) (hb : PE X b (tD W cm g)) (hc : PE X c (tD W cm h))
    (hm : lastMarks [op, op'] [b, c] = false := by with_unfolding_all rfl) : PT X (.Compare a [op, op'] [b, c] pos) (tT W cm (dVal (eChain p q f g h))) := PTimp (pt_chain ho ho' ha hb hc hm) fun _ _ _ z => td_chain (tt_val z)
end
end DL
namespace DL
open PySem PySem.Spec PyProof.Rows L2
/-! ### views -/
theorem vws1 {N F H : Hp} {x : V} {b : Bool} {d : D} (h : Vws N F H [x] [(b, d)]) : Vw N F H x b d := by
  obtain ⟨v, r, e, h1, _⟩ := h
  cases e
  exact h1
theorem vws2 {N F H : Hp} {x y : V} {b c : Bool} {d e : D} (h : Vws N F H [x, y] [(b, d), (c, e)]) : Vw N F H x b d ∧ Vw N F H y c e := by
  obtain ⟨v, r, e, h1, h2⟩ := h
  cases e
  exact ⟨h1, vws1 h2⟩
theorem vws2' {N F H : Hp} {x y : V} {ps : List (Bool × D)} (h : Vws N F H [x, y] ps) : ∃ b d c e, ps = [(b, d), (c, e)] ∧ Vw N F H x b d ∧ Vw N F H y c e := by
  cases ps with
  | nil => cases (show [x, y] = [] from h)
  | cons p ps =>
    obtain ⟨b, d⟩ := p
    obtain ⟨v, r, e, h1, h2⟩ := h
    cases e
    cases ps with
    | nil => cases (show [y] = [] from h2)
    | cons p ps =>
      obtain ⟨c, e⟩ := p
      obtain ⟨v, r, e', h3, h4⟩ := h2
      cases e'
      cases ps with
      | nil => exact ⟨b, d, c, e, rfl, h1, h3⟩
      | cons p ps =>
        obtain ⟨b', d'⟩ := p
        obtain ⟨_, _, z, _⟩ := h4
        cases z
theorem Vw.int {N F H : Hp} {x : V} {b : Bool} {i : Int} (h : Vw N F H x b (.int i)) : x = .int i := by
  rcases h with h | ⟨_, _, _, _, e, _⟩
  · cases h; rfl
  · cases e
theorem Vw.str {N F H : Hp} {x : V} {b : Bool} {i : Str} (h : Vw N F H x b (.str i)) : x = .str i := by
  rcases h with h | ⟨_, _, _, _, e, _⟩
  · cases h; rfl
  · cases e
theorem Vw.bl {N F H : Hp} {x : V} {b c : Bool} (h : Vw N F H x b (.bool c)) : x = .bl c := by
  rcases h with h | ⟨_, _, _, _, e, _⟩
  · cases h; rfl
  · cases e
theorem Vw.lst {N F H : Hp} {x : V} {b : Bool} {xs : List D} (sN : Same N F) (sF : Same F H) (h : Vw N F H x b (.list xs)) : ∃ l vs, x = .ref l ∧ Rd H l (.lst vs) ∧ RpA (bsel b N F) vs xs := by
  rcases h with h | ⟨l, vs, ys, e1, e2, e3, r⟩
  · cases h with
    | lst hr ra => exact ⟨_, _, rfl, Rd.same ((bsel_sub sN).trans sF) hr, ra⟩
  · cases e2; exact ⟨l, vs, e1, .inl e3, r⟩
theorem Vw.tup {N F H : Hp} {x : V} {b : Bool} {xs : List D} (sN : Same N F) (sF : Same F H) (h : Vw N F H x b (.tuple xs)) : ∃ l vs, x = .ref l ∧ Rd H l (.tup vs) ∧ RpA (bsel b N F) vs xs := by
  rcases h with h | ⟨_, _, _, _, e, _⟩
  · cases h with
    | tup hr ra => exact ⟨_, _, rfl, Rd.same ((bsel_sub sN).trans sF) hr, ra⟩
  · cases e
/-- of a tuple as a value -/
theorem Vw.tupR {N F H : Hp} {x : V} {b : Bool} {xs : List D} (h : Vw N F H x b (.tuple xs)) : Rp (bsel b N F) x (.tuple xs) := by
  rcases h with h | ⟨_, _, _, _, e, _⟩
  · exact h
  · cases e
theorem Inv.lstR {X : Cx} {pins : List (Addr × Obj)} {σ : L2.St} {H : Hp} {s : Shared} {l : Addr} {xs : List V} (I : Inv X pins σ H s) (hH : Rd H l (.lst xs)) : xs.length ≤ sizeLine ∧ ∃ (its : List Value) (n : Nat), Vals xs its ∧ xs.length = its.length ∧ s.heap.get? l = some { cls := .type "list", data := .seq its.toArray n } := by
  obtain ⟨z, its, n, r, e⟩ := hH.ok I.hok
  exact ⟨z, its, n, r, r.length, e⟩
/-! ### + -/
def rCat' : R2 := fun x y H Q => ∃ l b xs zs, x = .ref l ∧ y = .ref b ∧ Rd H l (.lst xs) ∧ Rd H b (.lst zs) ∧ xs.length + zs.length ≤ sizeLine ∧ ∀ p, H p = none → Q (.ref p) (upd H p (.lst (xs ++ zs)))
theorem op_cat' {X : Cx} : OpR X (binaryOp .Add) rCat' := by
  intro pins s σ H x y v u Q I rx ry h
  obtain ⟨l, b, xs, zs, rfl, rfl, hH, hB, hz, q⟩ := h
  cases rx
  cases ry
  obtain ⟨z, its, n, r, hl, e⟩ := Inv.lstR I hH
  obtain ⟨z2, its2, n2, r2, hl2, e2⟩ := Inv.lstR I hB
  refine PySem.P.add_list e e2 ?_ (by rw [List.size_toArray, List.size_toArray]; omega)
  have ea : its.toArray ++ its2.toArray = (its ++ its2).toArray := by simp
  rw [ea]
  exact ⟨.ref _, _, I.lnew (t' := s.toks) (r.append r2) (by rw [List.length_append]; omega), rfl, q _ I.fresh⟩
def rAddI : R2 := rI0 fun i j => .int (i + j)
def rAddS : R2 := fun x y H Q => ∃ i j, x = .str i ∧ y = .str j ∧ i.length + j.length ≤ sizeLine ∧ Q (.str (i ++ j)) H
def rAdd (K : PySem.W.Frag) : R2 := fun x y H Q => rAddI x y H Q ∨ rCat' x y H Q ∨ rCatA K x y H Q ∨ rAddS x y H Q
theorem op_addA {X : Cx} : OpR X (binaryOp .Add) (rAdd X.K) := op_add.or (op_cat'.or (op_catA.or op_add_str))
def fits (n : Nat) : Bool := decide (n ≤ 16777216)
theorem fits_ok {n : Nat} (h : fits n = true) : n ≤ sizeLine := by rw [sizeLine_eq]; exact of_decide_eq_true h
def dAdd : List (Bool × D) → Option Tok
  | [(_, .int i), (_, .int j)] => some (.fz true (.int (i + j)))
  | [(b, .list xs), (c, .list ys)] => match fits (xs.length + ys.length) with
    | true => some (.nw (b && c) (xs ++ ys))
    | false => none
  | [(b, .tuple xs), (c, .tuple ys)] => match fits (xs.length + ys.length) with
    | true => some (.fz (b && c) (.tuple (xs ++ ys)))
    | false => none
  | [(_, .str s), (_, .str t)] => match fits (s.length + t.length) with
    | true => some (.fz true (.str (s ++ t)))
    | false => none
  | _ => none
theorem ne_nil {α : Type} {l : List α} (h : (!l.isEmpty) = true) : l ≠ [] := by
  intro e
  subst e
  cases h
theorem el_add {K : PySem.W.Frag} : ElR (fun _ vs H Q => ∀ x y, vs = [x, y] → rAdd K x y H Q) dAdd := by
  intro σ N F H vs ps t Q sN sF V e q x y ev
  subst ev
  obtain ⟨b, d1, c, d2, rfl, v1, v2⟩ := vws2' V
  · skip
    cases d1 with
    | int i =>
      cases d2 with
      | int j =>
        cases e
        exact .inl ⟨i, j, v1.int, v2.int, q _ _ (.inl ⟨rfl, true, _, rfl, .int _⟩)⟩
      | _ => cases e
    | list xs =>
      cases d2 with
      | list ys =>
        have e : (match fits (xs.length + ys.length) with | true => some (Tok.nw (b && c) (xs ++ ys)) | false => none) = some t := e
        cases hf : fits (xs.length + ys.length) with
        | false => rw [hf] at e; cases e
        | true =>
          rw [hf] at e
          cases e
          obtain ⟨l, vs, e1, h1, r1⟩ := v1.lst sN sF
          obtain ⟨l', vs', e2, h2, r2⟩ := v2.lst sN sF
          exact .inr (.inl ⟨l, l', vs, vs', e1, e2, h1, h2, by rw [r1.len, r2.len]; exact fits_ok hf, fun p np => q _ _ (.inr (.inl ⟨p, _, _, _, rfl, rfl, np, rfl, (r1.mono (bsel_and_l sN)).append (r2.mono (bsel_and_r sN))⟩))⟩)
      | _ => cases e
    | tuple xs =>
      cases d2 with
      | tuple ys =>
        have e : (match fits (xs.length + ys.length) with | true => some (Tok.fz (b && c) (.tuple (xs ++ ys))) | false => none) = some t := e
        cases hf : fits (xs.length + ys.length) with
        | false => rw [hf] at e; cases e
        | true =>
          rw [hf] at e
          cases e
          obtain ⟨l, vs, e1, h1, r1⟩ := v1.tup sN sF
          obtain ⟨l', vs', e2, h2, r2⟩ := v2.tup sN sF
          refine .inr (.inr (.inl ⟨l, l', vs, vs', e1, e2, .inl h1, .inl h2, by rw [r1.len, r2.len]; exact fits_ok hf, fun z => ?_, fun z1 z => ?_, fun _ _ p np => q _ _ (.inr (.inr ⟨p, _, _, _, rfl, rfl, np, rfl, (r1.mono (bsel_and_l sN)).append (r2.mono (bsel_and_r sN))⟩))⟩))
          · have : xs = [] := by have := r1.len; rw [z] at this; exact List.length_eq_zero_iff.mp this.symm
            subst this
            rw [← e2]
            exact q _ _ (.inl ⟨rfl, _, _, rfl, v2.tupR.mono (bsel_and_r sN)⟩)
          · have : ys = [] := by have := r2.len; rw [z] at this; exact List.length_eq_zero_iff.mp this.symm
            subst this
            rw [← e1]
            exact q _ _ (.inl ⟨rfl, _, _, rfl, by rw [List.append_nil]; exact v1.tupR.mono (bsel_and_l sN)⟩)
      | _ => cases e
    | str s =>
      cases d2 with
      | str u =>
        have e : (match fits (s.length + u.length) with | true => some (Tok.fz true (.str (s ++ u))) | false => none) = some t := e
        cases hf : fits (s.length + u.length) with
        | false => rw [hf] at e; cases e
        | true =>
          rw [hf] at e
          cases e
          exact .inr (.inr (.inr ⟨s, u, v1.str, v2.str, fits_ok hf, q _ _ (.inl ⟨rfl, true, _, rfl, .str _⟩)⟩))
      | _ => cases e
    | _ => cases e
/-! ### * -/
def rRep' : R2 := fun x y H Q => ∃ l k xs, x = .ref l ∧ y = .int k ∧ H l = some (.lst xs) ∧ -(2 ^ 63) ≤ k ∧ k < 2 ^ 63 ∧ xs.length * k.toNat ≤ sizeLine ∧
  ∀ p, H p = none → Q (.ref p) (upd H p (.lst (List.replicate k.toNat xs).flatten))
def rMul : R2 := fun x y H Q => rI CMul (fun i j => .int (i * j)) x y H Q ∨ rRep x y H Q
theorem op_mulA {X : Cx} : OpR X (binaryOp .Mult) rMul := op_mul.or op_rep
def small64 (i : Int) : Bool := decide (-(2 ^ 64) < i) && decide (i < 2 ^ 64)
theorem small64_ok {i : Int} (h : small64 i = true) : -(2 ^ 64) < i ∧ i < 2 ^ 64 := by
  unfold small64 at h
  rw [Bool.and_eq_true, decide_eq_true_eq, decide_eq_true_eq] at h
  exact h
def dMul : List (Bool × D) → Option Tok
  | [(_, .int i), (_, .int j)] => match small64 i || small64 j with
    | true => some (.fz true (.int (i * j)))
    | false => none
  | [(b, .list xs), (_, .int k)] => match smallI k && fits (xs.length * k.toNat) with
    | true => some (.nw b (List.replicate k.toNat xs).flatten)
    | false => none
  | _ => none
/-! a list that is multiplied must not be the script: it stands by itself or is frozen as a plain list -/
theorem op_repR {X : Cx} : OpR X (binaryOp .Mult) (fun x y H Q => ∃ l k xs, x = .ref l ∧ y = .int k ∧ Rd H l (.lst xs) ∧ -(2 ^ 63) ≤ k ∧ k < 2 ^ 63 ∧ xs.length * k.toNat ≤ sizeLine ∧
  ∀ p, H p = none → Q (.ref p) (upd H p (.lst (List.replicate k.toNat xs).flatten))) := by
  intro pins s σ H x y v u Q I rx ry h
  obtain ⟨l, k, xs, rfl, rfl, hH, h1, h2, hz, q⟩ := h
  cases rx
  obtain ⟨t, rfl⟩ := ry
  obtain ⟨z, its, n, r, hl, e⟩ := Inv.lstR I hH
  have hlen : its.toArray.size * k.toNat ≤ sizeLine := by rw [List.size_toArray, ← hl]; exact hz
  have hcap : ¬ its.toArray.size * k.toNat > (2 ^ 63 - 1) / 8 := by
    have : (sizeLine : Nat) ≤ (2 ^ 63 - 1) / 8 := by decide
    omega
  have hfit : ¬ (!Builtin.List.listFitsIndex k) = true := by
    rw [fitsIndex_both h1 h2]
    exact Bool.false_ne_true
  have hlong : ¬ Builtin.List.listTooLong (its.toArray.size * k.toNat) = true := by
    rw [notLongL hlen]
    exact Bool.false_ne_true
  have hnew : List.foldl (fun x1 x2 => x1 ++ x2) #[] (List.replicate (if its.toArray.isEmpty = true then 0 else k.toNat) its.toArray) = (List.replicate k.toNat its).flatten.toArray := by
    have f0 : ∀ m : Nat, List.foldl (fun x1 x2 => x1 ++ x2) #[] (List.replicate m its.toArray) = (List.replicate m its).flatten.toArray := fun m => by
      have := foldl_rep its m []
      rw [List.nil_append] at this
      exact this
    rw [f0]
    cases its with
    | nil => simp
    | cons a r' => rw [if_neg (by simp)]
  refine wpAny_binaryOp_repeat_ref (T := "list") (U := "int") (by decide) ⟨_, e, rfl⟩ (fun s' => typeIs_int s' k t) noFill_list_mul F.fills_int_mul F.slot_int_rmul repeat_list F.slot_int_index.lookup
    (call_meets F.slot_int_rmul (typeIs_int s k t) F.entry_int_rmul (F.args_int_rmul_2 _ _) (int___rmul___int_list k t l its.toArray n)
      ⟨e, rfl, ⟨_, e, rfl⟩, call_meets F.slot_list_mul ⟨_, e, rfl⟩ F.entry_list_mul (F.args_list_mul_2 _ _) (AutoListH.list___mul___list_int_3 l its.toArray n k t hfit hcap hlong) ⟨e, ?_⟩⟩)
  rw [hnew]
  exact ⟨.ref _, _, I.lnew (t' := s.toks) (r.rep k.toNat) (by rw [PyProof.Rows.lm_len_rep_flat, Nat.mul_comm]; exact hz), rfl, q _ I.fresh⟩
theorem el_mul : ElR (fun _ vs H Q => ∀ x y, vs = [x, y] → (rI CMul (fun i j => .int (i * j)) x y H Q ∨ ∃ l k xs, x = .ref l ∧ y = .int k ∧ Rd H l (.lst xs) ∧ -(2 ^ 63) ≤ k ∧ k < 2 ^ 63 ∧ xs.length * k.toNat ≤ sizeLine ∧
  ∀ p, H p = none → Q (.ref p) (upd H p (.lst (List.replicate k.toNat xs).flatten)))) dMul := by
  intro σ N F H vs ps t Q sN sF V e q x y ev
  subst ev
  obtain ⟨b, d1, c, d2, rfl, v1, v2⟩ := vws2' V
  · skip
    cases d1 with
    | int i =>
      cases d2 with
      | int j =>
        have e : (match small64 i || small64 j with | true => some (Tok.fz true (.int (i * j))) | false => none) = some t := e
        cases hf : (small64 i || small64 j) with
        | false => rw [hf] at e; cases e
        | true =>
          rw [hf] at e
          cases e
          refine .inl ⟨i, j, v1.int, v2.int, ?_, q _ _ (.inl ⟨rfl, true, _, rfl, .int _⟩)⟩
          rw [Bool.or_eq_true] at hf
          rcases hf with hf | hf
          · exact .inl (small64_ok hf)
          · exact .inr (small64_ok hf)
      | _ => cases e
    | list xs =>
      cases d2 with
      | int k =>
        have e : (match smallI k && fits (xs.length * k.toNat) with | true => some (Tok.nw b (List.replicate k.toNat xs).flatten) | false => none) = some t := e
        cases hf : (smallI k && fits (xs.length * k.toNat)) with
        | false => rw [hf] at e; cases e
        | true =>
          rw [hf] at e
          cases e
          rw [Bool.and_eq_true] at hf
          obtain ⟨f1, f2⟩ := smallI_ok hf.1
          obtain ⟨l, vs, e1, h1, r1⟩ := v1.lst sN sF
          exact .inr ⟨l, k, vs, e1, v2.int, h1, by omega, by omega, by rw [r1.len]; exact fits_ok hf.2, fun p np => q _ _ (.inr (.inl ⟨p, _, _, _, rfl, rfl, np, rfl, r1.rep _⟩))⟩
      | _ => cases e
    | _ => cases e
/-! ### a[i] -/
def dIdx : List (Bool × D) → Option Tok
  | [(b, .list xs), (_, .int i)] => (atI xs i).map fun d => .fz b d
  | [(b, .tuple xs), (_, .int i)] => (atI xs i).map fun d => .fz b d
  | [(_, .str z), (_, .int i)] => match fits z.length with
    | true => (atI z.cps.toList i).map fun c => .fz true (.str ⟨#[c]⟩)
    | false => none
  | _ => none
theorem atI_rp {F : Hp} {vs : List V} {xs : List D} {i : Int} {d : D} (r : RpA F vs xs) (h : atI xs i = some d) : ∃ v, atI vs i = some v ∧ Rp F v d := by
  unfold atI at h ⊢
  rw [r.len]
  cases e : ixN xs.length i with
  | none => rw [e] at h; cases h
  | some j =>
    rw [e] at h
    exact r.get h
theorem el_idx {K : PySem.W.Frag} : ElR (fun _ vs H Q => ∀ x y, vs = [x, y] → rIx K x y H Q) dIdx := by
  intro σ N F H vs ps t Q sN sF V e q x y ev
  subst ev
  obtain ⟨b, d1, c, d2, rfl, v1, v2⟩ := vws2' V
  · skip
    cases d2 with
    | int i =>
      cases d1 with
      | list xs =>
        obtain ⟨d, ed, rfl⟩ := Option.map_eq_some_iff.mp (show (atI xs i).map (fun d => Tok.fz b d) = some t from e)
        obtain ⟨l, vs, e1, h1, r1⟩ := v1.lst sN sF
        obtain ⟨v, ev, rv⟩ := atI_rp r1 ed
        exact .inl ⟨l, vs, i, v, e1, v2.int, .inl h1, ev, q _ _ (.inl ⟨rfl, b, d, rfl, rv⟩)⟩
      | tuple xs =>
        obtain ⟨d, ed, rfl⟩ := Option.map_eq_some_iff.mp (show (atI xs i).map (fun d => Tok.fz b d) = some t from e)
        obtain ⟨l, vs, e1, h1, r1⟩ := v1.tup sN sF
        obtain ⟨v, ev, rv⟩ := atI_rp r1 ed
        exact .inr (.inl ⟨l, vs, i, v, e1, v2.int, .inl h1, ev, q _ _ (.inl ⟨rfl, b, d, rfl, rv⟩)⟩)
      | str z =>
        have e : (match fits z.length with | true => (atI z.cps.toList i).map fun c => Tok.fz true (.str ⟨#[c]⟩) | false => none) = some t := e
        cases hf : fits z.length with
        | false => rw [hf] at e; cases e
        | true =>
          rw [hf] at e
          simp only [Option.map_eq_some_iff] at e
          obtain ⟨c, ed, rfl⟩ := e
          exact .inr (.inr ⟨z, i, c, v1.str, v2.int, fits_ok hf, ed, q _ _ (.inl ⟨rfl, true, _, rfl, .str _⟩)⟩)
      | _ => cases e
    | _ => cases d1 <;> cases e
/-! ### a[lo:hi] -/
def cutL {α : Type} (xs : List α) (lo hi : Option Int) : List α := (xs.drop (HT.sIx xs.length 0 lo)).take (HT.sIx xs.length xs.length hi - HT.sIx xs.length 0 lo)
theorem cutL_rp {F : Hp} {vs : List V} {xs : List D} {lo hi : Option Int} (r : RpA F vs xs) : RpA F (cutV vs lo hi) (cutL xs lo hi) := by
  unfold cutV cutL
  rw [r.len]
  exact (r.drop _).take _
def parts (a b : Bool) : List (Bool × D) → Option (Option Int × Option Int)
  | ps => match a, b, ps with
    | false, false, [] => some (none, none)
    | true, false, [(_, .int i)] => some (some i, none)
    | false, true, [(_, .int j)] => some (none, some j)
    | true, true, [(_, .int i), (_, .int j)] => some (some i, some j)
    | _, _, _ => none
def dCut (a b : Bool) : List (Bool × D) → Option Tok
  | (t, .list xs) :: ps => match parts a b ps with
    | some (lo, hi) => some (.nw t (cutL xs lo hi))
    | none => none
  | (t, .tuple xs) :: ps => match parts a b ps with
    | some (lo, hi) => some (.fz t (.tuple (cutL xs lo hi)))
    | none => none
  | (_, .str z) :: ps => match parts a b ps with
    | some (lo, hi) => match fits z.length with
      | true => some (.fz true (.str (cutS z lo hi)))
      | false => none
    | none => none
  | _ => none

theorem cutL_whole {α : Type} {xs : List α} {lo hi : Option Int} (h : HT.sIx xs.length 0 lo = 0 ∧ HT.sIx xs.length xs.length hi = xs.length) : cutL xs lo hi = xs := by
  unfold cutL
  rw [h.1, h.2, List.drop_zero, Nat.sub_zero]
  exact List.take_of_length_le (Nat.le_refl _)
def rSl (K : PySem.W.Frag) : V → Option Int → Option Int → Hp → VK → Prop := fun x lo hi H Q => rSlL K x lo hi H Q ∨ rSlA K x lo hi H Q ∨ rSlS x lo hi H Q
theorem sl_all {X : Cx} : SlR X (rSl X.K) := sl_list.or (sl_tupA.or sl_str)
def cut1 (b : Bool) (d : D) (lo hi : Option Int) : Option Tok := match d with
  | .list xs => some (.nw b (cutL xs lo hi))
  | .tuple xs => some (.fz b (.tuple (cutL xs lo hi)))
  | .str z => match fits z.length with
    | true => some (.fz true (.str (cutS z lo hi)))
    | false => none
  | _ => none
theorem el_cut1 {K : PySem.W.Frag} {N F H : Hp} {x : V} {b : Bool} {d : D} {lo hi : Option Int} {t : Tok} {Q : VK} (sN : Same N F) (sF : Same F H) (v1 : Vw N F H x b d)
    (e : cut1 b d lo hi = some t) (q : ∀ v H', RM N F H t v H' → Q v H') : rSl K x lo hi H Q := by
  cases d with
  | list xs =>
    cases e
    obtain ⟨l, vs, e1, h1, r1⟩ := v1.lst sN sF
    exact .inl ⟨l, vs, e1, .inl h1, fun p np => q _ _ (.inr (.inl ⟨p, _, _, _, rfl, rfl, np, rfl, cutL_rp r1⟩))⟩
  | tuple xs =>
    cases e
    obtain ⟨l, vs, e1, h1, r1⟩ := v1.tup sN sF
    refine .inr (.inl ⟨l, vs, e1, .inl h1, fun hw => ?_, fun _ p np => q _ _ (.inr (.inr ⟨p, _, _, _, rfl, rfl, np, rfl, cutL_rp r1⟩))⟩)
    rw [← e1]
    refine q _ _ (.inl ⟨rfl, b, _, rfl, ?_⟩)
    rw [r1.len] at hw
    rw [cutL_whole hw]
    exact v1.tupR
  | str z =>
    have e : (match fits z.length with | true => some (Tok.fz true (.str (cutS z lo hi))) | false => none) = some t := e
    cases hf : fits z.length with
    | false => rw [hf] at e; cases e
    | true =>
      rw [hf] at e
      cases e
      exact .inr (.inr ⟨z, v1.str, fits_ok hf, q _ _ (.inl ⟨rfl, true, _, rfl, .str _⟩)⟩)
  | _ => cases e
def dCut00 : List (Bool × D) → Option Tok
  | [(b, d)] => cut1 b d none none
  | _ => none
def dCut10 : List (Bool × D) → Option Tok
  | [(b, d), (_, .int i)] => cut1 b d (some i) none
  | _ => none
def dCut01 : List (Bool × D) → Option Tok
  | [(b, d), (_, .int j)] => cut1 b d none (some j)
  | _ => none
def dCut11 : List (Bool × D) → Option Tok
  | [(b, d), (_, .int i), (_, .int j)] => cut1 b d (some i) (some j)
  | _ => none
theorem vws_len {N F H : Hp} : ∀ {ps : List (Bool × D)} {vs : List V}, Vws N F H vs ps → vs.length = ps.length
  | [], vs, h => by rw [show vs = [] from h]; rfl
  | (b, d) :: ps, vs, h => by
    obtain ⟨v, r, rfl, _, h2⟩ := h
    rw [List.length_cons, List.length_cons, vws_len h2]
theorem vws1' {N F H : Hp} {x : V} {ps : List (Bool × D)} (h : Vws N F H [x] ps) : ∃ b d, ps = [(b, d)] ∧ Vw N F H x b d := by
  cases ps with
  | nil => cases (show [x] = [] from h)
  | cons p ps =>
    obtain ⟨b, d⟩ := p
    obtain ⟨v, r, e, h1, h2⟩ := h
    cases e
    cases ps with
    | nil => exact ⟨b, d, rfl, h1⟩
    | cons p ps =>
      obtain ⟨b', d'⟩ := p
      obtain ⟨_, _, z, _⟩ := h2
      cases z
theorem vws3' {N F H : Hp} {x y z : V} {ps : List (Bool × D)} (h : Vws N F H [x, y, z] ps) : ∃ b d c e g i, ps = [(b, d), (c, e), (g, i)] ∧ Vw N F H x b d ∧ Vw N F H y c e ∧ Vw N F H z g i := by
  cases ps with
  | nil => cases (show [x, y, z] = [] from h)
  | cons p ps =>
    obtain ⟨b, d⟩ := p
    obtain ⟨v, r, e, h1, h2⟩ := h
    cases e
    obtain ⟨b1, d1, b2, d2, rfl, h3, h4⟩ := vws2' h2
    exact ⟨b, d, b1, d1, b2, d2, rfl, h1, h3, h4⟩
theorem el_cut00 {K : PySem.W.Frag} : ElR (fun _ vs H Q => ∀ x, vs = [x] → rSl K x none none H Q) dCut00 := fun σ N F H vs ps t Q sN sF V e q x ev => by
  subst ev
  obtain ⟨b, d, rfl, v1⟩ := vws1' V
  exact el_cut1 sN sF v1 e q
theorem el_cut10 {K : PySem.W.Frag} : ElR (fun _ vs H Q => ∀ x y, vs = [x, y] → ∃ i, y = .int i ∧ rSl K x (some i) none H Q) dCut10 := fun σ N F H vs ps t Q sN sF V e q x y ev => by
  subst ev
  obtain ⟨b, d, c, d2, rfl, v1, v2⟩ := vws2' V
  cases d2 with
  | int i => exact ⟨i, v2.int, el_cut1 sN sF v1 e q⟩
  | _ => cases e
theorem el_cut01 {K : PySem.W.Frag} : ElR (fun _ vs H Q => ∀ x y, vs = [x, y] → ∃ i, y = .int i ∧ rSl K x none (some i) H Q) dCut01 := fun σ N F H vs ps t Q sN sF V e q x y ev => by
  subst ev
  obtain ⟨b, d, c, d2, rfl, v1, v2⟩ := vws2' V
  cases d2 with
  | int i => exact ⟨i, v2.int, el_cut1 sN sF v1 e q⟩
  | _ => cases e
theorem el_cut11 {K : PySem.W.Frag} : ElR (fun _ vs H Q => ∀ x y w, vs = [x, y, w] → ∃ i, y = .int i ∧ ∃ j, w = .int j ∧ rSl K x (some i) (some j) H Q) dCut11 := fun σ N F H vs ps t Q sN sF V e q x y w ev => by
  subst ev
  obtain ⟨b, d, c, d2, c3, d3, rfl, v1, v2, v3⟩ := vws3' V
  cases d2 with
  | int i =>
    cases d3 with
    | int j => exact ⟨i, v2.int, j, v3.int, el_cut1 sN sF v1 e q⟩
    | _ => cases e
  | _ => cases d3 <;> cases e
/-- an expression whose value must be an int -/
def eInt (f : DE) : DE := fun env => match f env with
  | .ok t e1 => match rd e1 t with
    | some (.int i) => .ok (.fz true (.int i)) e1
    | _ => .bad
  | .exc c e1 => .exc c e1
  | .bad => .bad
theorem td_int {W : L2.WX} {cm : String → Addr} {f : DE} {σ : L2.St} {H : Hp} {Q : VK} (h : tD W cm (eInt f) σ H Q) : tD W cm f σ H fun y H1 => ∃ i, y = .int i ∧ Q y H1 := by
  obtain ⟨B, pn, F, N, G, Rg, env, I, h⟩ := h
  refine ⟨B, pn, F, N, G, Rg, env, I, ?_⟩
  unfold eInt at h
  cases e : f env with
  | bad => rw [e] at h; exact h
  | exc c e1 => rw [e] at h; exact h
  | ok t e1 =>
    rw [e] at h
    simp only at h
    intro v F' N' Rg' H' R I' hF hN T A
    cases e2 : rd e1 t with
    | none => rw [e2] at h; exact h.elim
    | some d =>
      have r := rd_ok I' T A.sR e2
      rw [e2] at h
      cases d with
      | int i =>
        cases r
        exact ⟨i, rfl, h _ F' N' Rg' H' emp I' hF hN ⟨rfl, .int i⟩ .none⟩
      | _ => exact h.elim
section
variable {X : Cx} {W : L2.WX} {cm : String → Addr} {a b c : Expr} {pos p2 : Pos} {f g h : DE}
theorem tdmono {f : DE} {σ : L2.St} {H : Hp} {Q Q' : VK} : tD W cm f σ H Q → (∀ v H, Q v H → Q' v H) → tD W cm f σ H Q' := fun ⟨B, pn, F, N, G, Rg, env, I, z⟩ k => ⟨B, pn, F, N, G, Rg, env, I, z.imp k⟩
theorem ge_cut00 (ha : PE X a (tD W cm f)) : PE X (.Subscript a (.Slice none none none p2) pos) (tD W cm (dAp (opEl dCut00) [f])) :=
  PEimp (pe_slice sl_all ha po_none po_none) fun σ H Q q => by
    have z : tAD W cm [f] σ H (fun vs H' => ∀ x, vs = [x] → rSl X.K x none none H' Q) := ap_read (ap_el el_cut00) q
    exact tdmono z fun x H1 z => z x rfl
theorem ge_cut10 (ha : PE X a (tD W cm f)) (hb : PE X b (tD W cm g)) : PE X (.Subscript a (.Slice (some b) none none p2) pos) (tD W cm (dAp (opEl dCut10) [f, g])) :=
  PEimp (pe_slice sl_all ha (po_some hb) po_none) fun σ H Q q => by
    have z : tAD W cm [f, g] σ H (fun vs H' => ∀ x y, vs = [x, y] → ∃ i, y = .int i ∧ rSl X.K x (some i) none H' Q) := ap_read (ap_el el_cut10) q
    exact tdmono z fun x H1 z => tdmono z fun y H2 z => z x y rfl
theorem ge_cut01 (ha : PE X a (tD W cm f)) (hb : PE X b (tD W cm g)) : PE X (.Subscript a (.Slice none (some b) none p2) pos) (tD W cm (dAp (opEl dCut01) [f, g])) :=
  PEimp (pe_slice sl_all ha po_none (po_some hb)) fun σ H Q q => by
    have z : tAD W cm [f, g] σ H (fun vs H' => ∀ x y, vs = [x, y] → ∃ i, y = .int i ∧ rSl X.K x none (some i) H' Q) := ap_read (ap_el el_cut01) q
    exact tdmono z fun x H1 z => tdmono z fun y H2 z => z x y rfl
theorem ge_cut11 (ha : PE X a (tD W cm f)) (hb : PE X b (tD W cm g)) (hc : PE X c (tD W cm h)) : PE X (.Subscript a (.Slice (some b) (some c) none p2) pos) (tD W cm (dAp (opEl dCut11) [f, eInt g, h])) :=
  PEimp (pe_slice sl_all ha (po_some hb) (po_some hc)) fun σ H Q q => by
    have z : tAD W cm [f, eInt g, h] σ H (fun vs H' => ∀ x y w, vs = [x, y, w] → ∃ i, y = .int i ∧ ∃ j, w = .int j ∧ rSl X.K x (some i) (some j) H' Q) := ap_read (ap_el el_cut11) q
    exact tdmono z fun x H1 z => tdmono (td_int z) fun y H2 ⟨i, ei, z⟩ => ⟨i, ei, tdmono z fun w H3 z => by
      obtain ⟨i', e1, j, e2, z⟩ := z x y w rfl
      rw [ei] at e1
      cases e1
      exact ⟨j, e2, z⟩⟩
theorem ge_add (ha : PE X a (tD W cm f)) (hb : PE X b (tD W cm g)) : PE X (.BinOp a .Add b pos) (tD W cm (dAp (opEl dAdd) [f, g])) := ge_el2 op_addA el_add ha hb
theorem ge_mul (ha : PE X a (tD W cm f)) (hb : PE X b (tD W cm g)) : PE X (.BinOp a .Mult b pos) (tD W cm (dAp (opEl dMul) [f, g])) := ge_el2 (op_mul.or op_repR) el_mul ha hb
theorem ge_idx (hs : PlainIx b) (ha : PE X a (tD W cm f)) (hb : PE X b (tD W cm g)) : PE X (.Subscript a b pos) (tD W cm (dAp (opEl dIdx) [f, g])) :=
  PEimp (pe_ix ix_seq ha hb hs) fun _ _ _ q => td_bin (ap_el el_idx) q
end
end DL
namespace DL
open PySem PySem.Spec PyProof.Rows L2
/-! ### displays -/
def dList (ps : List (Bool × D)) : Option Tok := match fits ps.length with
  | true => some (.nw (tagAll ps) (ps.map (·.2)))
  | false => none
def dTup (ps : List (Bool × D)) : Option Tok := match fits ps.length with
  | true => some (.fz (tagAll ps) (.tuple (ps.map (·.2))))
  | false => none
theorem tk_list : TkR (fun _ xs H Q => xs.length ≤ sizeLine ∧ ∀ p, H p = none → Q (.ref p) (upd H p (.lst xs))) dList := fun σ N F H vs ps t Q sN sF r e q => by
  have e : (match fits ps.length with | true => some (Tok.nw (tagAll ps) (ps.map (·.2))) | false => none) = some t := e
  cases hf : fits ps.length with
  | false => rw [hf] at e; cases e
  | true =>
    rw [hf] at e
    cases e
    exact ⟨by rw [r.len]; exact fits_ok hf, fun p np => q _ _ (.inr (.inl ⟨p, _, _, _, rfl, rfl, np, rfl, r.all sN⟩))⟩
theorem tk_tup : TkR (fun _ xs H Q => xs.length ≤ sizeLine ∧ ∀ p, H p = none → Q (.ref p) (upd H p (.tup xs))) dTup := fun σ N F H vs ps t Q sN sF r e q => by
  have e : (match fits ps.length with | true => some (Tok.fz (tagAll ps) (.tuple (ps.map (·.2)))) | false => none) = some t := e
  cases hf : fits ps.length with
  | false => rw [hf] at e; cases e
  | true =>
    rw [hf] at e
    cases e
    exact ⟨by rw [r.len]; exact fits_ok hf, fun p np => q _ _ (.inr (.inr ⟨p, _, _, _, rfl, rfl, np, rfl, r.all sN⟩))⟩
section
variable {X : Cx} {W : L2.WX} {cm : String → Addr} {es : List Expr} {fs : List DE} {pos : Pos}
theorem ge_list (ha : PA X es (tAD W cm fs)) : PE X (.List es pos) (tD W cm (dAp (opTk dList) fs)) := PEimp (pe_lst ha) fun σ H Q q => by
  exact ap_read (ap_tk tk_list) q
theorem ge_tuple {x1} (ha : PA X es (tAD W cm fs)) : PE X (.Tuple es x1 pos) (tD W cm (dAp (opTk dTup) fs)) := PEimp (pe_tup ha) fun σ H Q q => by
  exact ap_read (ap_tk tk_tup) q
end
/-! ### built-in functions -/
section
variable {X : Cx} {W : L2.WX} {cm : String → Addr} {x : Str} {p pos : Pos} {e : Expr} {es : List Expr} {fs : List DE} {id T : String} {r : List V → Hp → VK → Prop}
theorem ge_cbS {op : List D → Option D} (hc : CallR X (.builtin id) r) (hr : ScR (fun _ vs H Q => r vs H Q) op) (hg : Gl X x) (hm : X.mg x = none) (hv : bootBuiltins x = some (.builtin id)) (ha : PA X (e :: es) (tAD W cm fs)) (hn : x ≠ "__name__" := by decide) (hdb : (x == ("__debug__" : Str)) = false := by decide)
    (he : starEach (e :: es) X.env = (false, eval e X.env) :: starEach es X.env := by rfl) (hpl : (backTo pos (starEach es X.env)).any (·.1) = false := by rfl) : PE X (.Call (.Name x p) (e :: es) [] pos) (tD W cm (dAp (opSc op) fs)) :=
  PEimp (pe_callB hc hg hm hv ha hn hdb he hpl) fun _ _ _ q => ap_read (r := fun _ vs H Q => r vs H Q) (ap_sc hr) q
theorem ge_cbE {op : List (Bool × D) → Option Tok} (hc : CallR X (.builtin id) r) (hr : ElR (fun _ vs H Q => r vs H Q) op) (hg : Gl X x) (hm : X.mg x = none) (hv : bootBuiltins x = some (.builtin id)) (ha : PA X (e :: es) (tAD W cm fs)) (hn : x ≠ "__name__" := by decide) (hdb : (x == ("__debug__" : Str)) = false := by decide)
    (he : starEach (e :: es) X.env = (false, eval e X.env) :: starEach es X.env := by rfl) (hpl : (backTo pos (starEach es X.env)).any (·.1) = false := by rfl) : PE X (.Call (.Name x p) (e :: es) [] pos) (tD W cm (dAp (opEl op) fs)) :=
  PEimp (pe_callB hc hg hm hv ha hn hdb he hpl) fun _ _ _ q => ap_read (r := fun _ vs H Q => r vs H Q) (ap_el hr) q
theorem ge_ctS {op : List D → Option D} (hc : CallR X (.type T) r) (hr : ScR (fun _ vs H Q => r vs H Q) op) (hg : Gl X x) (hm : X.mg x = none) (hv : bootBuiltins x = some (.type T)) (ha : PA X (e :: es) (tAD W cm fs)) (hn : x ≠ "__name__" := by decide) (hdb : (x == ("__debug__" : Str)) = false := by decide)
    (he : starEach (e :: es) X.env = (false, eval e X.env) :: starEach es X.env := by rfl) (hpl : (backTo pos (starEach es X.env)).any (·.1) = false := by rfl) : PE X (.Call (.Name x p) (e :: es) [] pos) (tD W cm (dAp (opSc op) fs)) :=
  PEimp (pe_callTy hc hg hm hv ha hn hdb he hpl) fun _ _ _ q => ap_read (r := fun _ vs H Q => r vs H Q) (ap_sc hr) q
theorem ge_ctE {op : List (Bool × D) → Option Tok} (hc : CallR X (.type T) r) (hr : ElR (fun _ vs H Q => r vs H Q) op) (hg : Gl X x) (hm : X.mg x = none) (hv : bootBuiltins x = some (.type T)) (ha : PA X (e :: es) (tAD W cm fs)) (hn : x ≠ "__name__" := by decide) (hdb : (x == ("__debug__" : Str)) = false := by decide)
    (he : starEach (e :: es) X.env = (false, eval e X.env) :: starEach es X.env := by rfl) (hpl : (backTo pos (starEach es X.env)).any (·.1) = false := by rfl) : PE X (.Call (.Name x p) (e :: es) [] pos) (tD W cm (dAp (opEl op) fs)) :=
  PEimp (pe_callTy hc hg hm hv ha hn hdb he hpl) fun _ _ _ q => ap_read (r := fun _ vs H Q => r vs H Q) (ap_el hr) q
end
theorem rpa1' {H : Hp} {vs : List V} {d : D} (h : RpA H vs [d]) : ∃ x, vs = [x] ∧ Rp H x d := by
  cases h with
  | cons h r => cases r; exact ⟨_, rfl, h⟩
theorem rpa2' {H : Hp} {vs : List V} {d e : D} (h : RpA H vs [d, e]) : ∃ x y, vs = [x, y] ∧ Rp H x d ∧ Rp H y e := by
  cases h with
  | cons h r =>
    obtain ⟨y, rfl, r2⟩ := rpa1' r
    exact ⟨_, _, rfl, h, r2⟩
def lenD : D → Option Nat
  | .list xs => some xs.length
  | .tuple xs => some xs.length
  | .str z => match fits z.length with
    | true => some z.length
    | false => none
  | _ => none
def dLen : List D → Option D
  | [d] => (lenD d).map fun n => .int (n : Nat)
  | _ => none
theorem sc_len {K : PySem.W.Frag} : ScR (fun _ xs H Q => ∃ x n, xs = [x] ∧ LenV K x H n ∧ Q (.int (n : Nat)) H) dLen := fun σ H vs ds d Q r e q => by
  match ds, r, e with
  | [d1], r, e =>
    obtain ⟨x, rfl, r1⟩ := rpa1' r
    obtain ⟨n, en, rfl⟩ := Option.map_eq_some_iff.mp (show (lenD d1).map (fun n => PyData.int (n : Nat)) = some d from e)
    refine ⟨x, n, rfl, ?_, q _ (.int _)⟩
    cases r1 with
    | lst h ra => cases en; exact .inl ⟨_, .inl h, ra.len.symm⟩
    | tup h ra => cases en; exact .inr ⟨_, .inl h, ra.len.symm⟩
    | str z =>
      have en : (match fits z.length with | true => some z.length | false => none) = some n := en
      cases hf : fits z.length with
      | false => rw [hf] at en; cases en
      | true => rw [hf] at en; cases en; exact ⟨fits_ok hf, rfl⟩
    | _ => cases en
def dMax2 : List D → Option D
  | [.int i, .int j] => some (.int (if j > i then j else i))
  | _ => none
def dMin2 : List D → Option D
  | [.int i, .int j] => some (.int (if j < i then j else i))
  | _ => none
theorem sc_max2 : ScR (fun _ xs H Q => ∃ i j, xs = [V.int i, V.int j] ∧ Q (.int (if j > i then j else i)) H) dMax2 := fun σ H vs ds d Q r e q => by
  match ds, r, e with
  | [.int i, .int j], r, e =>
    obtain ⟨x, y, rfl, r1, r2⟩ := rpa2' r
    cases r1
    cases r2
    cases e
    exact ⟨i, j, rfl, q _ (.int _)⟩
theorem sc_min2 : ScR (fun _ xs H Q => ∃ i j, xs = [V.int i, V.int j] ∧ Q (.int (if j < i then j else i)) H) dMin2 := fun σ H vs ds d Q r e q => by
  match ds, r, e with
  | [.int i, .int j], r, e =>
    obtain ⟨x, y, rfl, r1, r2⟩ := rpa2' r
    cases r1
    cases r2
    cases e
    exact ⟨i, j, rfl, q _ (.int _)⟩
def dInt1 : List D → Option D
  | [.int i] => some (.int i)
  | [.bool b] => some (.int (if b then 1 else 0))
  | _ => none
theorem sc_int1 : ScR (fun _ xs H Q => (∃ i, xs = [V.int i] ∧ Q (.int i) H) ∨ ∃ k, xs = [V.bl k] ∧ Q (.int (if k then 1 else 0)) H) dInt1 := fun σ H vs ds d Q r e q => by
  match ds, r, e with
  | [.int i], r, e =>
    obtain ⟨x, rfl, r1⟩ := rpa1' r
    cases r1
    cases e
    exact .inl ⟨i, rfl, q _ (.int _)⟩
  | [.bool b], r, e =>
    obtain ⟨x, rfl, r1⟩ := rpa1' r
    cases r1
    cases e
    exact .inr ⟨b, rfl, q _ (.int _)⟩
def dListOf : List (Bool × D) → Option Tok
  | [(b, .list xs)] => some (.nw b xs)
  | [(b, .tuple xs)] => some (.nw b xs)
  | _ => none
theorem el_listOf {K : PySem.W.Frag} : ElR (fun _ xs H Q => ∃ p ys, xs = [V.ref p] ∧ (SqL K H p ys ∨ SqT K H p ys) ∧ ∀ l, H l = none → Q (.ref l) (upd H l (.lst ys))) dListOf := fun σ N F H vs ps t Q sN sF V e q => by
  have hl := vws_len V
  match ps, V, e with
  | [(b, .list xs)], V, e =>
    cases e
    obtain ⟨v, r, rfl, v1, v2⟩ := V
    cases (show r = [] from v2)
    obtain ⟨l, ws, rfl, h, ra⟩ := v1.lst sN sF
    exact ⟨l, ws, rfl, .inl (.inl h), fun p np => q _ _ (.inr (.inl ⟨p, _, _, _, rfl, rfl, np, rfl, ra⟩))⟩
  | [(b, .tuple xs)], V, e =>
    cases e
    obtain ⟨v, r, rfl, v1, v2⟩ := V
    cases (show r = [] from v2)
    obtain ⟨l, ws, rfl, h, ra⟩ := v1.tup sN sF
    exact ⟨l, ws, rfl, .inr (.inl h), fun p np => q _ _ (.inr (.inl ⟨p, _, _, _, rfl, rfl, np, rfl, ra⟩))⟩
/-- a list of ints, sorted -/
def intsD : List D → Option (List Int)
  | [] => some []
  | .int i :: r => (intsD r).map (i :: ·)
  | _ :: _ => none
theorem intsD_some : ∀ {ds : List D} {ns : List Int}, intsD ds = some ns → ds = ns.map PyData.int
  | [], _, h => by cases h; rfl
  | .int i :: r, ns, h => by
    obtain ⟨m, e, rfl⟩ := Option.map_eq_some_iff.mp (show (intsD r).map (i :: ·) = some ns from h)
    rw [intsD_some e]
    rfl
theorem intsD_map : ∀ ns : List Int, intsD (ns.map PyData.int) = some ns
  | [] => rfl
  | n :: r => by
    show (intsD (r.map PyData.int)).map (n :: ·) = _
    rw [intsD_map r]
    rfl
def leI (a b : Int) : Bool := decide (a ≤ b)
def sortI (ns : List Int) : List Int := ns.mergeSort leI
theorem sortI_perm (ns : List Int) : (sortI ns).Perm ns := List.mergeSort_perm ns leI
theorem sortI_sorted (ns : List Int) : (sortI ns).Pairwise (· ≤ ·) := by
  have := List.pairwise_mergeSort (le := leI) (fun a b c h1 h2 => decide_eq_true (Int.le_trans (of_decide_eq_true h1) (of_decide_eq_true h2))) (fun a b => by
    simp only [leI, Bool.or_eq_true, decide_eq_true_eq]; omega) ns
  exact this.imp fun h => of_decide_eq_true h
def dSorted : List (Bool × D) → Option Tok
  | [(_, .list xs)] => (intsD xs).map fun ns => .nw true ((sortI ns).map PyData.int)
  | _ => none
theorem el_sorted {K : PySem.W.Frag} : ElR (fun _ vs H Q => rSortedI K vs H Q) dSorted := fun σ N F H vs ps t Q sN sF V e q => by
  match ps, V, e with
  | [(b, .list xs)], V, e =>
    obtain ⟨ns, en, rfl⟩ := Option.map_eq_some_iff.mp (show (intsD xs).map (fun ns => Tok.nw true ((sortI ns).map PyData.int)) = some t from e)
    obtain ⟨v, r, rfl, v1, v2⟩ := V
    cases (show r = [] from v2)
    obtain ⟨l, ws, rfl, h, ra⟩ := v1.lst sN sF
    rw [intsD_some en] at ra
    have := RpA.ofInts ra
    subst this
    refine ⟨l, ns, rfl, .inl h, fun ns' p hp hs np => q _ _ (.inr (.inl ⟨p, _, _, _, rfl, rfl, np, rfl, ?_⟩))⟩
    have : ns' = sortI ns := PySem.W.ksm_same (hp.trans (sortI_perm ns).symm) hs (sortI_sorted ns)
    rw [this]
    exact RpA.ints _ _
/-! ### x in xs, of data -/
def rInA (K : PySem.W.Frag) : R2 := fun x y H Q => ∃ d ds, Dp K H x d ∧ (Dp K H y (.list ds) ∨ Dp K H y (.tuple ds)) ∧ SeqAt.shaped d = true ∧ PyData.canLayAll0 ds = true ∧ Q (.bl (ds.any fun z => PyData.eqv z d)) H
def rNotInA (K : PySem.W.Frag) : R2 := fun x y H Q => ∃ d ds, Dp K H x d ∧ (Dp K H y (.list ds) ∨ Dp K H y (.tuple ds)) ∧ SeqAt.shaped d = true ∧ PyData.canLayAll0 ds = true ∧ Q (.bl (!ds.any fun z => PyData.eqv z d)) H
theorem room_in {A : Around} {d : PyData} {n : Nat} (sd : SeqAt.shaped d = true) (hu : A.units + 65 < cLine) : A.units + 1 + min n d.depth < cLine := by
  have := SeqAt.depth_of_shaped sd
  omega
theorem op_inA {X : Cx} (hu : X.A.units + 65 < cLine) : OpR X (compareOp .In) (rInA X.K) := by
  intro pins s σ H x y v u Q I rx ry h
  obtain ⟨d, ds, hd, he, sd, se, q⟩ := h
  obtain ⟨as, r1⟩ := Dp.reads I d x v hd rx
  rcases he with he | he
  · obtain ⟨bs, r2⟩ := Dp.reads I (.list ds) y u he ry
    exact SeqAt.in_list_reads r2 r1 se (SeqAt.canLay_of_shaped sd) (room_in sd hu) ⟨.bl _, H, I, rfl, q⟩
  · obtain ⟨bs, r2⟩ := Dp.reads I (.tuple ds) y u he ry
    exact SeqAt.in_tuple_reads r2 r1 se (SeqAt.canLay_of_shaped sd) (room_in sd hu) ⟨.bl _, H, I, rfl, q⟩
theorem op_notInA {X : Cx} (hu : X.A.units + 65 < cLine) : OpR X (compareOp .NotIn) (rNotInA X.K) := by
  intro pins s σ H x y v u Q I rx ry h
  obtain ⟨d, ds, hd, he, sd, se, q⟩ := h
  obtain ⟨as, r1⟩ := Dp.reads I d x v hd rx
  rcases he with he | he
  · obtain ⟨bs, r2⟩ := Dp.reads I (.list ds) y u he ry
    exact SeqAt.notIn_list_reads r2 r1 se (SeqAt.canLay_of_shaped sd) (room_in sd hu) ⟨.bl _, H, I, rfl, q⟩
  · obtain ⟨bs, r2⟩ := Dp.reads I (.tuple ds) y u he ry
    exact SeqAt.notIn_tuple_reads r2 r1 se (SeqAt.canLay_of_shaped sd) (room_in sd hu) ⟨.bl _, H, I, rfl, q⟩
def inD (d : D) (ds : List D) : Option Bool := match SeqAt.shaped d && PyData.canLayAll0 ds with
  | true => some (ds.any fun z => PyData.eqv z d)
  | false => none
def dIn : List D → Option D
  | [d, .list ds] => (inD d ds).map fun b => .bool b
  | [d, .tuple ds] => (inD d ds).map fun b => .bool b
  | _ => none
def dNotIn : List D → Option D
  | [d, .list ds] => (inD d ds).map fun b => .bool (!b)
  | [d, .tuple ds] => (inD d ds).map fun b => .bool (!b)
  | _ => none
theorem inD_some {d : D} {ds : List D} {b : Bool} (h : inD d ds = some b) : SeqAt.shaped d = true ∧ PyData.canLayAll0 ds = true ∧ b = ds.any fun z => PyData.eqv z d := by
  unfold inD at h
  cases hs : (SeqAt.shaped d && PyData.canLayAll0 ds) with
  | false => rw [hs] at h; cases h
  | true =>
    rw [hs] at h
    rw [Bool.and_eq_true] at hs
    exact ⟨hs.1, hs.2, (Option.some.inj h).symm⟩
theorem sc_in {K : PySem.W.Frag} : ScR (fun _ vs H Q => ∀ x y, vs = [x, y] → rInA K x y H Q) dIn := fun σ H vs ds d Q r e q x y ev => by
  subst ev
  match ds, r, e with
  | [d1, .list xs], r, e =>
    obtain ⟨r1, r2⟩ := rpa2 r
    obtain ⟨b, eb, rfl⟩ := Option.map_eq_some_iff.mp (show (inD d1 xs).map (fun b => PyData.bool b) = some d from e)
    obtain ⟨h1, h2, rfl⟩ := inD_some eb
    exact ⟨d1, xs, r1.dp (Same.refl _), .inl (r2.dp (Same.refl _)), h1, h2, q _ (.bl _)⟩
  | [d1, .tuple xs], r, e =>
    obtain ⟨r1, r2⟩ := rpa2 r
    obtain ⟨b, eb, rfl⟩ := Option.map_eq_some_iff.mp (show (inD d1 xs).map (fun b => PyData.bool b) = some d from e)
    obtain ⟨h1, h2, rfl⟩ := inD_some eb
    exact ⟨d1, xs, r1.dp (Same.refl _), .inr (r2.dp (Same.refl _)), h1, h2, q _ (.bl _)⟩
theorem sc_notIn {K : PySem.W.Frag} : ScR (fun _ vs H Q => ∀ x y, vs = [x, y] → rNotInA K x y H Q) dNotIn := fun σ H vs ds d Q r e q x y ev => by
  subst ev
  match ds, r, e with
  | [d1, .list xs], r, e =>
    obtain ⟨r1, r2⟩ := rpa2 r
    obtain ⟨b, eb, rfl⟩ := Option.map_eq_some_iff.mp (show (inD d1 xs).map (fun b => PyData.bool (!b)) = some d from e)
    obtain ⟨h1, h2, rfl⟩ := inD_some eb
    exact ⟨d1, xs, r1.dp (Same.refl _), .inl (r2.dp (Same.refl _)), h1, h2, q _ (.bl _)⟩
  | [d1, .tuple xs], r, e =>
    obtain ⟨r1, r2⟩ := rpa2 r
    obtain ⟨b, eb, rfl⟩ := Option.map_eq_some_iff.mp (show (inD d1 xs).map (fun b => PyData.bool (!b)) = some d from e)
    obtain ⟨h1, h2, rfl⟩ := inD_some eb
    exact ⟨d1, xs, r1.dp (Same.refl _), .inr (r2.dp (Same.refl _)), h1, h2, q _ (.bl _)⟩
section
variable {X : Cx} {W : L2.WX} {cm : String → Addr} {a b : Expr} {pos : Pos} {f g : DE}
theorem ge_in (hu : X.A.units + 65 < cLine) (hm : behindInMarks .In b = false) (ha : PE X a (tD W cm f)) (hb : PE X b (tD W cm g)) : PE X (.Compare a [.In] [b] pos) (tD W cm (dAp (opSc dIn) [f, g])) := ge_cmp2 (op_inA hu) sc_in hm ha hb
theorem ge_notIn (hu : X.A.units + 65 < cLine) (hm : behindInMarks .NotIn b = false) (ha : PE X a (tD W cm f)) (hb : PE X b (tD W cm g)) : PE X (.Compare a [.NotIn] [b] pos) (tD W cm (dAp (opSc dNotIn) [f, g])) := ge_cmp2 (op_notInA hu) sc_notIn hm ha hb
theorem gt_in (hu : X.A.units + 65 < cLine) (hm : behindInMarks .In b = false) (ha : PE X a (tD W cm f)) (hb : PE X b (tD W cm g)) : PT X (.Compare a [.In] [b] pos) (tT W cm (dVal (dAp (opSc dIn) [f, g]))) := gt_cmp2 (op_inA hu) sc_in hm ha hb
theorem gt_notIn (hu : X.A.units + 65 < cLine) (hm : behindInMarks .NotIn b = false) (ha : PE X a (tD W cm f)) (hb : PE X b (tD W cm g)) : PT X (.Compare a [.NotIn] [b] pos) (tT W cm (dVal (dAp (opSc dNotIn) [f, g]))) := gt_cmp2 (op_notInA hu) sc_notIn hm ha hb
end
/-! ### isinstance -/
def tyN : D → String
  | .none => "NoneType"
  | .bool _ => "bool"
  | .int _ => "int"
  | .str _ => "str"
  | .list _ => "list"
  | .tuple _ => "tuple"
  | .dict _ => "dict"
def isTy (a : String) (T : String) : Bool := decide (a = T) || (decide (a = "bool") && decide (T = "int"))
def goodT (T : String) : Bool := decide (T = "list") || decide (T = "tuple") || decide (T = "int") || decide (T = "bool") || decide (T = "str")
def eIsi (T : String) (f : DE) : DE := fun env => match f env with
  | .ok t e1 => match rd e1 t with
    | some d => match d with
      | .dict _ => .bad
      | d => .ok (.fz true (.bool (isTy (tyN d) T))) e1
    | none => .bad
  | .exc c e1 => .exc c e1
  | .bad => .bad
theorem Rp.ty {K : PySem.W.Frag} {H : Hp} {v : V} {d : D} (h : Rp H v d) : TyX K H v (.type (tyN d)) := by
  cases h with
  | non => exact .base .non
  | bl b => exact .base (.bl b)
  | int i => exact .base (.int i)
  | str x => exact .base (.str x)
  | lst h _ =>
    rcases h with h | ⟨o, h⟩
    · exact .base (.lst h)
    · exact .base (.frz h)
  | tup h _ =>
    rcases h with h | ⟨o, h⟩
    · exact .base (.tup h)
    · exact .fTuple h
theorem kit_all {T : String} (hT : goodT T = true) {d : D} (hd : ∀ k, d ≠ .dict k) : kitB (tyN d) T = some (isTy (tyN d) T) := by
  have key : ∀ a ∈ ["NoneType", "bool", "int", "str", "list", "tuple"], ∀ T ∈ ["list", "tuple", "int", "bool", "str"], kitB a T = some (isTy a T) := by decide +kernel
  have h2 : T ∈ ["list", "tuple", "int", "bool", "str"] := by
    simp only [goodT, Bool.or_eq_true, decide_eq_true_eq] at hT
    rcases hT with (((h | h) | h) | h) | h <;> subst h <;> simp
  refine key _ ?_ T h2
  cases d <;> first | exact absurd rfl (hd _) | (simp [tyN])
theorem td_isi {K : PySem.W.Frag} {W : L2.WX} {cm : String → Addr} {T : String} {f : DE} (hT : goodT T = true) {σ : L2.St} {H : Hp} {Q : VK} (h : tD W cm (eIsi T f) σ H Q) : tCB (rIsi K) (tCons (tD W cm f) (tCons (tC (.ty T)) tNil)) σ H Q := by
  obtain ⟨B, pn, F, N, G, Rg, env, I, h⟩ := h
  refine ⟨B, pn, F, N, G, Rg, env, I, ?_⟩
  unfold eIsi at h
  cases e : f env with
  | bad => rw [e] at h; exact h
  | exc c e1 => rw [e] at h; exact h
  | ok t e1 =>
    rw [e] at h
    simp only at h
    intro v F' N' Rg' H' R I' hF hN TT A
    cases e2 : rd e1 t with
    | none => rw [e2] at h; exact h.elim
    | some d =>
      have r := rd_ok I' TT A.sR e2
      rw [e2] at h
      have hd : ∀ k, d ≠ .dict k := fun k z => by subst z; exact h.elim
      have h' : Aft B pn σ F N G W cm Q (.ok (.fz true (.bool (isTy (tyN d) T))) e1) := by
        cases d with
        | dict k => exact absurd rfl (hd k)
        | _ => exact h
      exact ⟨v, .ty T, .type (tyN d), .type T, _, rfl, .ty T, r.ty, kit_ty (kit_all hT hd), h' _ F' N' Rg' H' emp I' hF hN ⟨rfl, .bl _⟩ .none⟩
/-- isinstance(x, (S, T)) -/
def eIsi2 (S T : String) (f : DE) : DE := fun env => match f env with
  | .ok t e1 => match rd e1 t with
    | some d => match d with
      | .dict _ => .bad
      | d => .ok (.fz true (.bool (isTy (tyN d) S || isTy (tyN d) T))) e1
    | none => .bad
  | .exc c e1 => .exc c e1
  | .bad => .bad
theorem td_isi2 {K : PySem.W.Frag} {W : L2.WX} {cm : String → Addr} {S T : String} {f : DE} (hS : goodT S = true) (hT : goodT T = true) {σ : L2.St} {H : Hp} {Q : VK} (h : tD W cm (eIsi2 S T f) σ H Q) :
    tCB (rIsiT K) (tCons (tD W cm f) (tCons (tTup (tCons (tC (.ty S)) (tCons (tC (.ty T)) tNil))) tNil)) σ H Q := by
  obtain ⟨B, pn, F, N, G, Rg, env, I, h⟩ := h
  refine ⟨B, pn, F, N, G, Rg, env, I, ?_⟩
  unfold eIsi2 at h
  cases e : f env with
  | bad => rw [e] at h; exact h
  | exc c e1 => rw [e] at h; exact h
  | ok t e1 =>
    rw [e] at h
    simp only at h
    intro v F' N' Rg' H' R I' hF hN TT A
    cases e2 : rd e1 t with
    | none => rw [e2] at h; exact h.elim
    | some d =>
      rw [e2] at h
      have hd : ∀ k, d ≠ .dict k := fun k z => by subst z; exact h.elim
      have h' : Aft B pn σ F N G W cm Q (.ok (.fz true (.bool (isTy (tyN d) S || isTy (tyN d) T))) e1) := by
        cases d with
        | dict k => exact absurd rfl (hd k)
        | _ => exact h
      refine ⟨by show 2 ≤ sizeLine; decide, fun p np => ?_⟩
      have s := upd_Same (o := HO.tup [V.ty S, V.ty T]) np
      have I2 := I'.grow s
      have r := rd_ok I2 TT (A.sR.trans s) e2
      refine ⟨v, p, [.ty S, .ty T], .type (tyN d), [.type S, .type T], _, rfl, upd_same, .cons (.ty S) (.cons (.ty T) .nil), r.ty, ?_, h' _ F' N' Rg' _ emp I2 hF hN ⟨rfl, .bl _⟩ .none⟩
      refine kitAny_cons (kit_ty (kit_all hS hd)) (fun z => ?_) (fun z => by rw [z]; rfl)
      rw [z, Bool.false_or]
      refine kitAny_cons (kit_ty (kit_all hT hd)) (fun z => ?_) (fun z => z)
      rw [z]
      exact kitAny_nil
section
variable {X : Cx} {W : L2.WX} {cm : String → Addr} {a : Expr} {x y : Str} {pos p p1 p2 p3 : Pos} {S T : String} {f : DE} {k : Nat}
theorem ge_isi (hT : goodT T = true) (hg : Gl X "isinstance") (hm : X.mg "isinstance" = none) (hgx : Gl X x) (hmx : X.mg x = none) (hvx : bootBuiltins x = some (.type T)) (ha : PE X a (tD W cm f)) (hn : x ≠ "__name__" := by decide) (hdb : (x == ("__debug__" : Str)) = false := by decide)
    (hs1 : starEach [a, .Name x p1] X.env = (false, eval a X.env) :: starEach [.Name x p1] X.env := by rfl) (hs2 : starEach [.Name x p1] X.env = (false, eval (.Name x p1) X.env) :: starEach [] X.env := by rfl) (hpl : (backTo pos (starEach [.Name x p1] X.env)).any (·.1) = false := by rfl) :
    PE X (.Call (.Name "isinstance" p) [a, .Name x p1] [] pos) (tD W cm (eIsi T f)) :=
  PEimp (pe_callB call_isi hg hm (by decide +kernel) (pa_cons ha (pa_cons (pe_bltn (v := .ty T) hgx hmx hvx rfl hn hdb) pa_nil hs2) hs1) (by decide) (by decide) hs1 hpl) fun _ _ _ h => td_isi hT h
theorem ge_isi2 (hS : goodT S = true) (hT : goodT T = true) (hg : Gl X "isinstance") (hm : X.mg "isinstance" = none) (hgx : Gl X x) (hmx : X.mg x = none) (hvx : bootBuiltins x = some (.type S)) (hgy : Gl X y) (hmy : X.mg y = none) (hvy : bootBuiltins y = some (.type T)) (ha : PE X a (tD W cm f)) (hn : x ≠ "__name__" := by decide) (hdb : (x == ("__debug__" : Str)) = false := by decide) (hn2 : y ≠ "__name__" := by decide) (hdb2 : (y == ("__debug__" : Str)) = false := by decide)
    (hs1 : starEach [a, .Tuple [.Name x p1, .Name y p2] k p3] X.env = (false, eval a X.env) :: starEach [.Tuple [.Name x p1, .Name y p2] k p3] X.env := by rfl) (hs2 : starEach [.Tuple [.Name x p1, .Name y p2] k p3] X.env = (false, eval (.Tuple [.Name x p1, .Name y p2] k p3) X.env) :: starEach [] X.env := by rfl)
    (hs3 : starEach [.Name x p1, .Name y p2] X.env = (false, eval (.Name x p1) X.env) :: starEach [.Name y p2] X.env := by rfl) (hs4 : starEach [.Name y p2] X.env = (false, eval (.Name y p2) X.env) :: starEach [] X.env := by rfl) (hpl : (backTo pos (starEach [.Tuple [.Name x p1, .Name y p2] k p3] X.env)).any (·.1) = false := by rfl) :
    PE X (.Call (.Name "isinstance" p) [a, .Tuple [.Name x p1, .Name y p2] k p3] [] pos) (tD W cm (eIsi2 S T f)) :=
  PEimp (pe_callB call_isiT hg hm (by decide +kernel) (pa_cons ha (pa_cons (pe_tup (pa_cons (pe_bltn (v := .ty S) hgx hmx hvx rfl hn hdb) (pa_cons (pe_bltn (v := .ty T) hgy hmy hvy rfl hn2 hdb2) pa_nil hs4) hs3)) pa_nil hs2) hs1) (by decide) (by decide) hs1 hpl) fun _ _ _ h => td_isi2 hS hT h
end
end DL
namespace DL
open PySem PySem.Spec PyProof.Rows L2
/-! ### own lists rewritten -/
section
variable {B : Hp} {pn : Nat → Option Addr} {env : Env} {σ : L2.St} {F N G : Hp} {Rg : Nat → Hp} {H R : Hp}
theorem Ok.rewrite {i : Nat} {p b : Bool} {xs : List D} (I : Ok B pn env σ F N G Rg H) (e : env[i]? = some (.own p b xs)) :
    ∃ l vs, σ[i]? = some (some (.ref l)) ∧ H l = some (.lst vs) ∧ RpA (bsel b N F) vs xs ∧ ∀ vs' b' xs', RpA (bsel b' N F) vs' xs' →
      ∃ Rg', Ok B pn (env.set i (.own p b' xs')) σ F N G Rg' (upd H l (.lst vs')) ∧ ∀ R, Apart F G Rg H R → Apart F G Rg' (upd H l (.lst vs')) R := by
  obtain ⟨l, vs, e1, e2, r, q⟩ := I.sl i _ e
  have hi := Ok.slotLt e
  have hl : H l = some (.lst vs) := by
    have s := I.sR i
    rw [e2] at s
    exact s _ _ sgl_same
  refine ⟨l, vs, e1, hl, r, fun vs' b' xs' r' => ?_⟩
  have I1 := I.off hi
  have A1 := I.offApart (i := i)
  rw [e2] at A1
  have hu : ∀ {Y : Hp}, Same Y H → dj Y (sgl l (.lst vs)) → Same Y (upd H l (.lst vs')) := fun {Y} s d a u ea => by
    have ne : a ≠ l := fun z => by
      subst z
      rw [d _ _ sgl_same] at ea
      cases ea
    rw [upd_ne ne]
    exact s _ _ ea
  have I2 : Ok B pn (env.set i .un) σ F N G (setR Rg i emp) (upd H l (.lst vs')) := { I1 with
    sF := hu I1.sF A1.dF
    sG := hu I1.sG A1.dG
    hB := fun a ha => by
      by_cases z : a = l
      · subst z; rw [upd_same] at ha; cases ha
      · rw [upd_ne z] at ha; exact I1.hB a ha
    sR := fun j => hu (I1.sR j) (A1.dR j) }
  have I3 := I2.put (σ' := σ) (i := i) (s := .own p b' xs') (R := sgl l (.lst vs')) (by rw [List.length_set]; exact hi) ⟨l, vs', e1, rfl, r', q⟩ (sgl_same_iff upd_same) (dj_sgl (A1.dF _ _ sgl_same)) (dj_sgl (A1.dG _ _ sgl_same)) (fun j _ => dj_sgl (A1.dR j _ _ sgl_same)) (fun _ _ => rfl) rfl
  rw [set_set] at I3
  refine ⟨_, I3, fun R A => ?_⟩
  have dR : dj (sgl l (.lst vs)) R := by rw [← e2]; exact A.dR i
  refine ⟨hu A.sR (dj_comm dR), A.dF, A.dG, fun j => ?_⟩
  by_cases hj : j = i
  · subst hj
    rw [setR_same]
    exact fun a o ea => sgl_ne fun z => by
      subst z
      have := dR _ _ ea
      rw [sgl_same] at this
      cases this
  · rw [setR_ne hj, setR_ne hj]
    exact A.dR j
def asOwn (env : Env) (i : Nat) : Option (Bool × Bool × List D) := match env[i]? with
  | some (.own p b xs) => some (p, b, xs)
  | some (.ex (.list xs)) => match xs.all scal with
    | true => some (false, true, xs)
    | false => none
  | _ => none
theorem set_self {env : Env} {i : Nat} {s : Slot} (e : env[i]? = some s) : env.set i s = env := by
  apply List.ext_getElem?
  intro j
  by_cases h : j = i
  · subst h
    rw [List.getElem?_set_self (Ok.slotLt e), e]
  · rw [List.getElem?_set_ne (Ne.symm h)]
theorem Ok.toOwn {i : Nat} {p b : Bool} {xs : List D} (I : Ok B pn env σ F N G Rg H) (h : asOwn env i = some (p, b, xs)) :
    i < env.length ∧ ∃ Rg', Ok B pn (env.set i (.own p b xs)) σ F N G Rg' H ∧ ∀ R, Apart F G Rg H R → Apart F G Rg' H R := by
  unfold asOwn at h
  cases e : env[i]? with
  | none => rw [e] at h; cases h
  | some s =>
    rw [e] at h
    have hi := Ok.slotLt e
    cases s with
    | own p' b' xs' =>
      cases h
      exact ⟨hi, Rg, by rw [set_self e]; exact I, fun _ A => A⟩
    | ex d =>
      cases d with
      | list ys =>
        simp only at h
        cases hs : ys.all scal with
        | false => rw [hs] at h; cases h
        | true =>
          rw [hs] at h
          cases h
          obtain ⟨v, hv, r, dB, nz⟩ := I.sl i _ e
          cases r with
          | lst hr ra =>
            rename_i a vs
            have ha : Rg i a = some (.lst vs) := by
              rcases hr with hr | ⟨u, hr⟩
              · exact hr
              · exact absurd hr (nz _ _ _)
            have I3 := I.put (σ' := σ) (i := i) (s := .own false true xs) (R := sgl a (.lst vs)) hi ⟨a, vs, hv, rfl, ra.scal hs, dB _ _ ha⟩ (sgl_same_iff (I.sR i _ _ ha)) (dj_sgl (I.dF i _ _ ha)) (dj_sgl (I.dRG i _ _ ha)) (fun j hj => dj_sgl (I.dR j i hj _ _ ha)) (fun _ _ => rfl) rfl
            refine ⟨hi, _, I3, fun R A => ⟨A.sR, A.dF, A.dG, fun j => ?_⟩⟩
            by_cases hj : j = i
            · subst hj
              rw [setR_same]
              exact fun x o ex => sgl_ne fun z => by
                subst z
                have := A.dR j _ _ ex
                rw [ha] at this
                cases this
            · rw [setR_ne hj]; exact A.dR j
      | _ => cases h
    | _ => cases h
theorem asOwn_lst {i : Nat} {p b : Bool} {xs : List D} (I : Ok B pn env σ F N G Rg H) (h : asOwn env i = some (p, b, xs)) : ∃ l vs, σ[i]? = some (some (.ref l)) ∧ H l = some (.lst vs) := by
  obtain ⟨hi, Rg', I', _⟩ := I.toOwn h
  obtain ⟨l, vs, e1, e2, _⟩ := I'.rewrite (List.getElem?_set_self hi)
  exact ⟨l, vs, e1, e2⟩
end
abbrev MOp := Bool → List D → List (Bool × D) → Option (Bool × List D × Bool × D)
def eMut (i : Nat) (op : MOp) (fs : List DE) : DE := fun env => match asOwn env i with
  | none => .bad
  | some _ => match dArgs fs env with
    | .ok ts e1 => match takes e1 ts with
      | none => .bad
      | some (ps, e2) => match asOwn e2 i with
        | none => .bad
        | some (p, b, xs) => match op b xs ps with
          | none => .bad
          | some (b', xs', c, d) => .ok (.fz c d) (e2.set i (.own p b' xs'))
    | .exc c e1 => .exc c e1
    | .bad => .bad
def MuR (r : V → List V → Hp → VK → Prop) (op : MOp) : Prop := ∀ (N F H : Hp) (l : Addr) (vs us : List V) (xs : List D) (b : Bool) (ps : List (Bool × D)) (b' : Bool) (xs' : List D) (c : Bool) (d : D) (Q : VK), Same N F → Same F H → H l = some (.lst vs) → RpA (bsel b N F) vs xs → RpB N F us ps → op b xs ps = some (b', xs', c, d) →
  (∀ vs' y, RpA (bsel b' N F) vs' xs' → Rp (bsel c N F) y d → Q y (upd H l (.lst vs'))) → r (.ref l) us H Q
theorem td_mut {K : PySem.W.Frag} {W : L2.WX} {cm : String → Addr} {i : Nat} {op : MOp} {r : V → List V → Hp → VK → Prop} {fs : List DE} (hr : MuR r op) {σ : L2.St} {H : Hp} {Q : VK} (h : tD W cm (eMut i op fs) σ H Q) : tBM K "list" r (tD W cm (eVar i)) (tAD W cm fs) σ H Q := by
  obtain ⟨B, pn, F, N, G, Rg, env, I, h⟩ := h
  refine ⟨B, pn, F, N, G, Rg, env, I, ?_⟩
  unfold eMut at h
  cases e0 : asOwn env i with
  | none => rw [e0] at h; exact h.elim
  | some q =>
    obtain ⟨p0, b0, xs0⟩ := q
    rw [e0] at h
    simp only at h
    obtain ⟨l, vs, z1, z2⟩ := asOwn_lst I e0
    have ev : eVar i env = .ok (.sl i) env := by
      unfold asOwn at e0
      unfold eVar
      cases e : env[i]? with
      | none => rw [e] at e0; cases e0
      | some s => cases s with
        | un => rw [e] at e0; cases e0
        | _ => rfl
    rw [ev]
    intro v F' N' Rg' H' R I' hF hN T A
    obtain ⟨l1, vs1, z3, z4⟩ := asOwn_lst I' e0
    have hv := T.2
    rw [z3] at hv
    cases hv
    refine ⟨.inl ⟨rfl, vs1, .inl (.inl z4)⟩, args_read I' ?_⟩
    cases e1 : dArgs fs env with
    | bad => rw [e1] at h; exact h
    | exc c en =>
      rw [e1] at h
      exact fun F2 N2 Rg2 H2 I2 hF2 hN2 => h F2 N2 Rg2 H2 I2 (hF.trans hF2) (hN.trans hN2)
    | ok ts en =>
      rw [e1] at h
      simp only at h
      intro us F1 N1 Rg1 H1 I1 hF1 hN1 T1
      cases e2 : takes en ts with
      | none => rw [e2] at h; exact h.elim
      | some q =>
        obtain ⟨ps, en2⟩ := q
        rw [e2] at h
        simp only at h
        obtain ⟨F2, N2, Rg2, I2, hF2, hN2, r2⟩ := takes_ok I1 T1 e2
        cases e3 : asOwn en2 i with
        | none => rw [e3] at h; exact h.elim
        | some q =>
          obtain ⟨p, b, xs⟩ := q
          rw [e3] at h
          simp only at h
          obtain ⟨hi, Rg3, I3, _⟩ := I2.toOwn e3
          obtain ⟨l2, vs2, z5, z6, ra, k⟩ := I3.rewrite (List.getElem?_set_self hi)
          rw [z3] at z5
          cases z5
          cases e4 : op b xs ps with
          | none => rw [e4] at h; exact h.elim
          | some q =>
            obtain ⟨b', xs', c, d⟩ := q
            rw [e4] at h
            refine hr N2 F2 H1 l1 vs2 us xs b ps b' xs' c d Q I2.sN I2.sF z6 ra r2 e4 fun vs' y ra' ry => ?_
            obtain ⟨Rg4, I4, _⟩ := k vs' b' xs' ra'
            rw [set_set] at I4
            exact h y F2 N2 Rg4 _ emp I4 (hF.trans (hF1.trans hF2)) (hN.trans (hN1.trans hN2)) ⟨rfl, ry⟩ .none
def mAppend : MOp := fun b xs ps => match ps with
  | [(c, d)] => match decide (xs.length < 16777216) with
    | true => some (b && c, xs ++ [d], true, .none)
    | false => none
  | _ => none
theorem mu_append : MuR rAppend mAppend := fun N F H l vs us xs b ps b' xs' c d Q sN sF hl ra rb e q => by
  match ps, rb, e with
  | [(c1, d1)], rb, e =>
    have e : (match decide (xs.length < 16777216) with | true => some (b && c1, xs ++ [d1], true, PyData.none) | false => none) = some (b', xs', c, d) := e
    cases hz : decide (xs.length < 16777216) with
    | false => rw [hz] at e; cases e
    | true =>
      rw [hz] at e
      cases e
      obtain ⟨v, r, rfl, h1, h2⟩ := rb
      cases (show r = [] from h2)
      have hz := of_decide_eq_true hz
      exact ⟨l, vs, v, rfl, rfl, hl, by rw [ra.len, sizeLine_eq]; exact hz, q _ _ ((ra.mono (bsel_and_l sN)).append (.cons (h1.mono (bsel_and_r sN)) .nil)) .non⟩
def mPop : MOp := fun b xs ps => match ps with
  | [] => match xs[xs.length - 1]? with
    | some d => some (b, xs.dropLast, b, d)
    | none => none
  | _ => none
theorem RpA.dropLast {F : Hp} : ∀ {vs : List V} {ds : List D}, RpA F vs ds → RpA F vs.dropLast ds.dropLast
  | _, _, .nil => .nil
  | _, _, .cons h .nil => .nil
  | _, _, .cons h (.cons h2 r) => .cons h (RpA.dropLast (.cons h2 r))
theorem mu_pop : MuR rPop mPop := fun N F H l vs us xs b ps b' xs' c d Q sN sF hl ra rb e q => by
  match ps, rb, e with
  | [], rb, e =>
    have e : (match xs[xs.length - 1]? with | some d => some (b, xs.dropLast, b, d) | none => none) = some (b', xs', c, d) := e
    cases hz : xs[xs.length - 1]? with
    | none => rw [hz] at e; cases e
    | some d1 =>
      rw [hz] at e
      cases e
      cases (show us = [] from rb)
      obtain ⟨v, hv, rv⟩ := ra.get hz
      rw [← ra.len] at hv
      exact ⟨l, vs, v, rfl, rfl, hl, hv, q _ _ ra.dropLast rv⟩
def smallIx (i : Int) : Bool := decide (-(2 ^ 63) ≤ i) && decide (i < 2 ^ 63)
def mPopAt : MOp := fun b xs ps => match ps with
  | [(_, .int i)] => match smallIx i, seqIndex? i xs.length with
    | true, some k => match xs[k]? with
      | some d => some (b, xs.eraseIdx k, b, d)
      | none => none
    | _, _ => none
  | _ => none
theorem mu_popAt : MuR rPopAt mPopAt := fun N F H l vs us xs b ps b' xs' c d Q sN sF hl ra rb e q => by
  match ps, rb, e with
  | [(c1, .int i)], rb, e =>
    have e : (match smallIx i, seqIndex? i xs.length with
      | true, some k => (match xs[k]? with
        | some d => some (b, xs.eraseIdx k, b, d)
        | none => none)
      | _, _ => none) = some (b', xs', c, d) := e
    cases h1 : smallIx i with
    | false => rw [h1] at e; cases e
    | true =>
      cases h2 : seqIndex? i xs.length with
      | none => rw [h1, h2] at e; cases e
      | some k =>
        rw [h1, h2] at e
        simp only at e
        cases h3 : xs[k]? with
        | none => rw [h3] at e; cases e
        | some d1 =>
          rw [h3] at e
          cases e
          obtain ⟨v, r, rfl, g1, g2⟩ := rb
          cases (show r = [] from g2)
          cases g1
          obtain ⟨w, hw, rw'⟩ := ra.get h3
          unfold smallIx at h1
          rw [Bool.and_eq_true, decide_eq_true_eq, decide_eq_true_eq] at h1
          exact ⟨l, vs, i, k, w, rfl, rfl, hl, h1.1, h1.2, by rw [ra.len]; exact h2, hw, q _ _ (ra.erase k) rw'⟩
/-- extend by a list -/
def rExtendD (K : PySem.W.Frag) : V → List V → Hp → VK → Prop := fun x vs H Q => ∃ l b xs zs, x = .ref l ∧ vs = [.ref b] ∧ H l = some (.lst xs) ∧ Rd H b (.lst zs) ∧ xs.length + zs.length ≤ sizeLine ∧ Q .non (upd H l (.lst (xs ++ zs)))
theorem mt_extendD {X : Cx} : MtR X "list.extend" (rExtendD X.K) := by
  intro pins s σ H x vs v us Q I rx rv h
  obtain ⟨l, b, xs, zs, rfl, rfl, hH, hB, hz, q⟩ := h
  cases rx
  obtain ⟨u, rfl, ru⟩ := rv.one
  cases ru
  obtain ⟨z, its, n, r, hl, e⟩ := I.lstM hH
  obtain ⟨z2, its2, n2, r2, hl2, e2⟩ := Inv.lstR I hB
  have hsz : its.toArray.size + its2.toArray.size ≤ sizeLine := by rw [List.size_toArray, List.size_toArray]; omega
  have hlong : ¬ (!its.toArray.isEmpty && Builtin.List.listTooLong (its.toArray.size + its2.toArray.size)) = true := by
    rw [notLongL hsz, Bool.and_false]
    exact Bool.false_ne_true
  refine call_meets F.slot_list_extend ⟨_, e, rfl⟩ F.entry_list_extend (F.args_list_extend_2 _ _)
    (AutoSeq1.list_extend_list_list_0 l its.toArray n b its2.toArray n2 hlong (by rw [List.size_toArray]; omega) (by omega)) ⟨e, e2, ?_⟩
  refine ⟨.non, _, I.lset (its' := its ++ its2) hH e (by simp) (r.append r2) ?_, rfl, q⟩
  rw [List.length_append]
  omega
def mExtend : MOp := fun b xs ps => match ps with
  | [(c, .list ys)] => match fits (xs.length + ys.length) with
    | true => some (b && c, xs ++ ys, true, .none)
    | false => none
  | _ => none
theorem mu_extend {K : PySem.W.Frag} : MuR (rExtendD K) mExtend := fun N F H l vs us xs b ps b' xs' c d Q sN sF hl ra rb e q => by
  match ps, rb, e with
  | [(c1, .list ys)], rb, e =>
    have e : (match fits (xs.length + ys.length) with | true => some (b && c1, xs ++ ys, true, PyData.none) | false => none) = some (b', xs', c, d) := e
    cases hz : fits (xs.length + ys.length) with
    | false => rw [hz] at e; cases e
    | true =>
      rw [hz] at e
      cases e
      obtain ⟨v, r, rfl, h1, h2⟩ := rb
      cases (show r = [] from h2)
      cases h1 with
      | lst hr ra2 =>
        rename_i a ws
        exact ⟨l, a, vs, ws, rfl, rfl, hl, Rd.same ((bsel_sub sN).trans sF) hr, by rw [ra.len, ra2.len]; exact fits_ok hz, q _ _ ((ra.mono (bsel_and_l sN)).append (ra2.mono (bsel_and_r sN))) .non⟩
section
variable {X : Cx} {W : L2.WX} {cm : String → Addr} {e : Expr} {es : List Expr} {fs : List DE} {x : Str} {npos apos cpos : Pos}
theorem ge_mut {name : Str} {id : String} {r : V → List V → Hp → VK → Prop} {op : MOp} (i : Nat) (slot : PySem.Slot "list" name id) (hty : typeOf (.builtin id) = pure (.type "method_descriptor")) (hm : MtR X id r) (hr : MuR r op) (ho : PE X (.Name x npos) (tD W cm (eVar i))) (ha : PA X (e :: es) (tAD W cm fs))
    (hbase : attributeBase (.Name x npos) name X.env (eval (.Name x npos) X.env) = eval (.Name x npos) X.env := by rfl)
    (hfew : ((backTo cpos (starEach (e :: es) X.env)).all (fun x => !x.1) && (backToKw cpos (keywordEach [] X.env)).all (fun x => x.1.isSome)
      && decide ((e :: es).length + ([] : List Keyword).length + (if ([] : List Keyword).isEmpty then 0 else 1) < 30)) = true := by rfl)
    (hline : (apos.endLine == cpos.line) = true := by rfl) (hs : starEach (e :: es) X.env = (false, eval e X.env) :: starEach es X.env := by rfl) (hplain : (backTo cpos (starEach es X.env)).any (·.1) = false := by rfl) :
    PE X (.Call (.Attribute (.Name x npos) name apos) (e :: es) [] cpos) (tD W cm (eMut i op fs)) := PEimp (pe_bm PySem.F.plainAttrs_list slot hty hm ho ha hbase hfew hline hs hplain) fun _ _ _ h => td_mut hr h
theorem ge_append (i : Nat) (ho : PE X (.Name x npos) (tD W cm (eVar i))) (ha : PA X [e] (tAD W cm fs)) (hbase : attributeBase (.Name x npos) "append" X.env (eval (.Name x npos) X.env) = eval (.Name x npos) X.env := by rfl)
    (hfew : ((backTo cpos (starEach [e] X.env)).all (fun x => !x.1) && (backToKw cpos (keywordEach [] X.env)).all (fun x => x.1.isSome)
      && decide ([e].length + ([] : List Keyword).length + (if ([] : List Keyword).isEmpty then 0 else 1) < 30)) = true := by rfl)
    (hline : (apos.endLine == cpos.line) = true := by rfl) (hs : starEach [e] X.env = (false, eval e X.env) :: starEach [] X.env := by rfl) (hplain : (backTo cpos (starEach [] X.env)).any (·.1) = false := by rfl) :
    PE X (.Call (.Attribute (.Name x npos) "append" apos) [e] [] cpos) (tD W cm (eMut i mAppend fs)) := ge_mut i PySem.F.slot_list_append PySem.F.type_list_append mt_append mu_append ho ha hbase hfew hline hs hplain
theorem ge_extend (i : Nat) (ho : PE X (.Name x npos) (tD W cm (eVar i))) (ha : PA X [e] (tAD W cm fs)) (hbase : attributeBase (.Name x npos) "extend" X.env (eval (.Name x npos) X.env) = eval (.Name x npos) X.env := by rfl)
    (hfew : ((backTo cpos (starEach [e] X.env)).all (fun x => !x.1) && (backToKw cpos (keywordEach [] X.env)).all (fun x => x.1.isSome)
      && decide ([e].length + ([] : List Keyword).length + (if ([] : List Keyword).isEmpty then 0 else 1) < 30)) = true := by rfl)
    (hline : (apos.endLine == cpos.line) = true := by rfl) (hs : starEach [e] X.env = (false, eval e X.env) :: starEach [] X.env := by rfl) (hplain : (backTo cpos (starEach [] X.env)).any (·.1) = false := by rfl) :
    PE X (.Call (.Attribute (.Name x npos) "extend" apos) [e] [] cpos) (tD W cm (eMut i mExtend fs)) := ge_mut i PySem.F.slot_list_extend PySem.F.type_list_extend mt_extendD mu_extend ho ha hbase hfew hline hs hplain
theorem ge_popAt (i : Nat) (ho : PE X (.Name x npos) (tD W cm (eVar i))) (ha : PA X [e] (tAD W cm fs)) (hbase : attributeBase (.Name x npos) "pop" X.env (eval (.Name x npos) X.env) = eval (.Name x npos) X.env := by rfl)
    (hfew : ((backTo cpos (starEach [e] X.env)).all (fun x => !x.1) && (backToKw cpos (keywordEach [] X.env)).all (fun x => x.1.isSome)
      && decide ([e].length + ([] : List Keyword).length + (if ([] : List Keyword).isEmpty then 0 else 1) < 30)) = true := by rfl)
    (hline : (apos.endLine == cpos.line) = true := by rfl) (hs : starEach [e] X.env = (false, eval e X.env) :: starEach [] X.env := by rfl) (hplain : (backTo cpos (starEach [] X.env)).any (·.1) = false := by rfl) :
    PE X (.Call (.Attribute (.Name x npos) "pop" apos) [e] [] cpos) (tD W cm (eMut i mPopAt fs)) := ge_mut i PySem.F.slot_list_pop PySem.F.type_list_pop mt_popAt mu_popAt ho ha hbase hfew hline hs hplain
theorem ge_pop (i : Nat) (ho : PE X (.Name x npos) (tD W cm (eVar i))) (hbase : attributeBase (.Name x npos) "pop" X.env (eval (.Name x npos) X.env) = eval (.Name x npos) X.env := by rfl) (hline : (apos.endLine == cpos.line) = true := by rfl) :
    PE X (.Call (.Attribute (.Name x npos) "pop" apos) [] [] cpos) (tD W cm (eMut i mPop [])) := PEimp (pe_bm0 PySem.F.plainAttrs_list PySem.F.slot_list_pop PySem.F.type_list_pop mt_pop ho hbase hline) fun _ _ _ h => td_mut mu_pop h
end
/-! ### xs[i] = e -/
def sSetIx (i : Nat) (f g : DE) : DS := fun env => match f env with
  | .ok t e1 => match take e1 t with
    | none => .bad
    | some (c, d, e2) => match asOwn e2 i with
      | none => .bad
      | some _ => match g e2 with
        | .ok tk e3 => match rd e3 tk with
          | some (.int k) => match asOwn e3 i with
            | none => .bad
            | some (p, b, xs) => match ixN xs.length k with
              | none => .bad
              | some j => .nx (e3.set i (.own p (b && c) (xs.set j d)))
          | _ => .bad
        | .exc x e3 => .exc x e3
        | .bad => .bad
  | .exc x e1 => .exc x e1
  | .bad => .bad
theorem ts_setIx {W : L2.WX} {cm : String → Addr} {i : Nat} {f g : DE} {Dn : Ends} {σ : L2.St} {H : Hp} (h : tS W cm (sSetIx i f g) Dn σ H) : tAsg (tD W cm f) (gSub (tD W cm (eVar i)) (tD W cm g) rSetL) Dn σ H := by
  obtain ⟨B, pn, F, N, G, Rg, env, I, h⟩ := h
  refine ⟨B, pn, F, N, G, Rg, env, I, ?_⟩
  unfold sSetIx at h
  cases e : f env with
  | bad => rw [e] at h; exact h
  | exc c e1 => rw [e] at h; exact fun F' N' Rg' H' I' hF hN => h σ F' N' Rg' H' I' hF hN
  | ok t e1 =>
    rw [e] at h
    simp only at h
    intro v F' N' Rg' H' R I' hF hN T A
    cases q1 : take e1 t with
    | none => rw [q1] at h; exact h.elim
    | some q =>
      obtain ⟨c, d, e2⟩ := q
      rw [q1] at h
      simp only at h
      obtain ⟨F2, N2, Rg2, I2, hF2, hN2, rv⟩ := take_ok I' T A q1
      cases q2 : asOwn e2 i with
      | none => rw [q2] at h; exact h.elim
      | some q =>
        obtain ⟨p0, b0, xs0⟩ := q
        rw [q2] at h
        simp only at h
        have ev : eVar i e2 = .ok (.sl i) e2 := by
          unfold asOwn at q2
          unfold eVar
          cases e : e2[i]? with
          | none => rw [e] at q2; cases q2
          | some s => cases s with
            | un => rw [e] at q2; cases q2
            | _ => rfl
        refine ⟨B, pn, F2, N2, G, Rg2, e2, I2, ?_⟩
        rw [ev]
        intro o F3 N3 Rg3 H3 R3 I3 hF3 hN3 T3 A3
        refine ⟨B, pn, F3, N3, G, Rg3, e2, I3, ?_⟩
        cases q3 : g e2 with
        | bad => rw [q3] at h; exact h
        | exc x e3 =>
          rw [q3] at h
          exact fun F4 N4 Rg4 H4 I4 hF4 hN4 => h σ F4 N4 Rg4 H4 I4 (hF.trans (hF2.trans (hF3.trans hF4))) (hN.trans (hN2.trans (hN3.trans hN4)))
        | ok tk e3 =>
          rw [q3] at h
          simp only at h
          intro w F4 N4 Rg4 H4 R4 I4 hF4 hN4 T4 A4
          cases q4 : rd e3 tk with
          | none => rw [q4] at h; exact h.elim
          | some dd =>
            rw [q4] at h
            have rr := rd_ok I4 T4 A4.sR q4
            cases dd with
            | int k =>
              simp only at h
              cases q5 : asOwn e3 i with
              | none => rw [q5] at h; exact h.elim
              | some q =>
                obtain ⟨p, b, xs⟩ := q
                rw [q5] at h
                simp only at h
                cases q6 : ixN xs.length k with
                | none => rw [q6] at h; exact h.elim
                | some j =>
                  rw [q6] at h
                  obtain ⟨hi, Rg5, I5, _⟩ := I4.toOwn q5
                  obtain ⟨l2, vs2, z5, z6, ra, kk⟩ := I5.rewrite (List.getElem?_set_self hi)
                  have ho := T3.2
                  rw [z5] at ho
                  cases ho
                  cases rr
                  refine ⟨l2, vs2, k, j, rfl, rfl, z6, by rw [ra.len]; exact q6, ?_⟩
                  obtain ⟨Rg6, I6, _⟩ := kk (vs2.set j v) (b && c) (xs.set j d) ((ra.mono (bsel_and_l I4.sN)).set ((rv.mono (bsel_mono (hN3.trans hN4) (hF3.trans hF4))).mono (bsel_and_r I4.sN)) j)
                  rw [set_set] at I6
                  exact h σ F4 N4 Rg6 _ I6 (hF.trans (hF2.trans (hF3.trans hF4))) (hN.trans (hN2.trans (hN3.trans hN4)))
            | _ => exact h.elim
section
variable {X : Cx} {W : L2.WX} {cm : String → Addr} {a ix : Expr} {f g : DE} {x : Str} {npos spos pos : Pos}
theorem gs_setIx (i : Nat) (h : PE X a (tD W cm f)) (ho : PE X (.Name x npos) (tD W cm (eVar i))) (hi : PE X ix (tD W cm g))
    (ha : ∀ v, assign (.Subscript (.Name x npos) ix spos) X.env v = (do
      let ov ← holding [v] (eval (.Name x npos) X.env)
      let iv ← holding [v, ov] (eval ix X.env)
      standAt spos
      holding [v, ov, iv] (setItem ov iv v)
      release [v, ov, iv] []) := by intro _; rfl)
    (hs : swapsWithSole [.Subscript (.Name x npos) ix spos] a pos.line X.env = pure false := by rfl) (hw : swappedStores [.Subscript (.Name x npos) ix spos] a X.env = pure none := by rfl)
    (h1 : (assignEach [.Subscript (.Name x npos) ix spos] X.env).map (·.2) = [assign (.Subscript (.Name x npos) ix spos) X.env] := by rfl) : PS X (.Assign [.Subscript (.Name x npos) ix spos] a pos) (tS W cm (sSetIx i f g)) :=
  PSimp (ps_asg h (pg_sub ho hi set_list ha) hs hw h1) fun _ _ _ h => ts_setIx h
end
/-! ### list(range(..)) -/
def rgOk (i j : Int) : Bool := smallI i && smallI j && fits (j - i).toNat
theorem rgOk_ok {i j : Int} (h : rgOk i j = true) : RgOk i j := by
  unfold rgOk at h
  rw [Bool.and_eq_true, Bool.and_eq_true] at h
  obtain ⟨a1, a2⟩ := smallI_ok h.1.1
  obtain ⟨b1, b2⟩ := smallI_ok h.1.2
  have := fits_ok h.2
  rw [sizeLine_eq] at this
  exact ⟨a1, a2, b1, b2, this⟩
def dLrg1 : List (Bool × D) → Option Tok
  | [(_, .int n)] => match rgOk 0 n with
    | true => some (.nw true (intsOf 0 n.toNat))
    | false => none
  | _ => none
def dLrg2 : List (Bool × D) → Option Tok
  | [(_, .int i), (_, .int j)] => match rgOk i j with
    | true => some (.nw true (intsOf i (j - i).toNat))
    | false => none
  | _ => none
def rLrg1 : List V → Hp → VK → Prop := fun vs H Q => match vs with
  | [x] => ∃ n, x = V.int n ∧ RgOk 0 n ∧ ∀ q, H q = none → Q (.ref q) (upd H q (.lst (rgV 0 n)))
  | _ => False
def rLrg2 : List V → Hp → VK → Prop := fun vs H Q => match vs with
  | [x, y] => ∃ i j, x = V.int i ∧ y = V.int j ∧ RgOk i j ∧ ∀ q, H q = none → Q (.ref q) (upd H q (.lst (rgV i j)))
  | _ => False
theorem rgV_rp (F : Hp) (i j : Int) : RpA F (rgV i j) (intsOf i (j - i).toNat) := by
  unfold rgV intsOf
  have := RpA.ints F ((List.range (j - i).toNat).map fun k => i + (k : Nat))
  rw [List.map_map, List.map_map] at this
  exact this
theorem vws_int1 {N F H : Hp} {b : Bool} {n : Int} {vs : List V} (hv : Vws N F H vs [(b, .int n)]) : vs = [V.int n] := by
  obtain ⟨v, r, rfl, v1, v2⟩ := hv
  cases (show r = [] from v2)
  rcases v1 with v1 | ⟨_, _, _, _, z, _⟩
  · cases v1; rfl
  · cases z
theorem vws_int2 {N F H : Hp} {b c : Bool} {n m : Int} {vs : List V} (hv : Vws N F H vs [(b, .int n), (c, .int m)]) : vs = [V.int n, V.int m] := by
  obtain ⟨v, r, rfl, v1, v2⟩ := hv
  rw [vws_int1 v2]
  rcases v1 with v1 | ⟨_, _, _, _, z, _⟩
  · cases v1; rfl
  · cases z
theorem el_lrg1 : ElR (fun _ vs H Q => rLrg1 vs H Q) dLrg1 := fun σ N F H vs ps t Q sN sF V e q => by
  match ps, V, e with
  | [(b, .int n)], V, e =>
    have e : (match rgOk 0 n with | true => some (Tok.nw true (intsOf 0 n.toNat)) | false => none) = some t := e
    cases hr : rgOk 0 n with
    | false => rw [hr] at e; cases e
    | true =>
      rw [hr] at e
      cases e
      rw [vws_int1 V]
      refine ⟨n, rfl, rgOk_ok hr, fun p np => q _ _ (.inr (.inl ⟨p, _, _, _, rfl, rfl, np, rfl, ?_⟩))⟩
      have := rgV_rp (bsel true N F) 0 n
      rw [Int.sub_zero] at this
      exact this
theorem el_lrg2 : ElR (fun _ vs H Q => rLrg2 vs H Q) dLrg2 := fun σ N F H vs ps t Q sN sF V e q => by
  match ps, V, e with
  | [(b, .int i), (c, .int j)], V, e =>
    have e : (match rgOk i j with | true => some (Tok.nw true (intsOf i (j - i).toNat)) | false => none) = some t := e
    cases hr : rgOk i j with
    | false => rw [hr] at e; cases e
    | true =>
      rw [hr] at e
      cases e
      rw [vws_int2 V]
      exact ⟨i, j, rfl, rfl, rgOk_ok hr, fun p np => q _ _ (.inr (.inl ⟨p, _, _, _, rfl, rfl, np, rfl, rgV_rp _ _ _⟩))⟩
section
variable {X : Cx} {W : L2.WX} {cm : String → Addr} {a b : Expr} {f g : DE} {p p2 pos pos2 : Pos}
theorem ge_lrg1 (hc : X.calm = true) (hgl : Gl X "list") (hml : X.mg "list" = none) (hg : Gl X "range") (hm : X.mg "range" = none) (ha : PE X a (tD W cm f)) (na : starEach [a] X.env = (false, eval a X.env) :: starEach [] X.env := by rfl)
    (na2 : starEach [.Call (.Name "range" p2) [a] [] pos2] X.env = (false, eval (.Call (.Name "range" p2) [a] [] pos2) X.env) :: starEach [] X.env := by rfl) : PE X (.Call (.Name "list" p) [.Call (.Name "range" p2) [a] [] pos2] [] pos) (tD W cm (dAp (opEl dLrg1) [f])) :=
  PEimp (pe_listRg hc hgl hml (prg_1 hg hm ha na) na2) fun _ _ _ h => ap_read (r := fun _ vs H Q => rLrg1 vs H Q) (ap_el el_lrg1) h
theorem ge_lrg2 (hc : X.calm = true) (hgl : Gl X "list") (hml : X.mg "list" = none) (hg : Gl X "range") (hm : X.mg "range" = none) (ha : PE X a (tD W cm f)) (hb : PE X b (tD W cm g)) (na : starEach [a, b] X.env = (false, eval a X.env) :: starEach [b] X.env := by rfl)
    (nb : starEach [b] X.env = (false, eval b X.env) :: starEach [] X.env := by rfl) (hp : (backTo pos2 (starEach [b] X.env)).any (·.1) = false := by rfl)
    (na2 : starEach [.Call (.Name "range" p2) [a, b] [] pos2] X.env = (false, eval (.Call (.Name "range" p2) [a, b] [] pos2) X.env) :: starEach [] X.env := by rfl) : PE X (.Call (.Name "list" p) [.Call (.Name "range" p2) [a, b] [] pos2] [] pos) (tD W cm (dAp (opEl dLrg2) [f, g])) :=
  PEimp (pe_listRg hc hgl hml (prg_2 hg hm ha hb na nb hp) na2) fun _ _ _ h => ap_read (r := fun _ vs H Q => rLrg2 vs H Q) (ap_el el_lrg2) h
end
/-! ### enumerate, zip -/
def pairsE (i : Nat) : List D → List D
  | [] => []
  | d :: r => .tuple [.int (i : Nat), d] :: pairsE (i + 1) r
theorem pairsE_get : ∀ {ds : List D} {j i : Nat} {d : D}, ds[i]? = some d → (pairsE j ds)[i]? = some (.tuple [.int ((j + i : Nat) : Int), d])
  | [], _, _, _, e => by simp at e
  | x :: r, j, 0, d, e => by
    simp at e
    subst e
    rfl
  | x :: r, j, i + 1, d, e => by
    have := pairsE_get (j := j + 1) (by simpa using e : r[i]? = some d)
    show (pairsE (j + 1) r)[i]? = _
    rw [this]
    congr 4
    omega
theorem pairsE_len : ∀ {ds : List D} {j : Nat}, (pairsE j ds).length = ds.length
  | [], _ => rfl
  | x :: r, j => by show (pairsE (j + 1) r).length + 1 = _; rw [pairsE_len, List.length_cons]
/-- the values of expressions, kept -/
def iTk (op : List (Bool × D) → Option (Bool × List D)) (fs : List DE) : DI := fun env => match dArgs fs env with
  | .ok ts e1 => match takes e1 ts with
    | none => .bad
    | some (ps, e2) => match op ps with
      | none => .bad
      | some (b, ds) => .ok b ds none e2
  | .exc c e1 => .exc c e1
  | .bad => .bad
def ITkR (r : List V → Hp → (It → Hp → Prop) → Prop) (op : List (Bool × D) → Option (Bool × List D)) : Prop := ∀ (B : Hp) (pn : Nat → Option Addr) (G F N H : Hp) (vs : List V) (ps : List (Bool × D)) (b : Bool) (ds : List D) (R : It → Hp → Prop), Same N F → Same F H → RpB N F vs ps → op ps = some (b, ds) → (∀ J, Iter J B pn G F N b ds → R J H) → r vs H R
theorem src_tk {W : L2.WX} {cm : String → Addr} {op : List (Bool × D) → Option (Bool × List D)} {r : List V → Hp → (It → Hp → Prop) → Prop} {fs : List DE} (hr : ITkR r op) : SrcOk W cm (fun σ H R => tAD W cm fs σ H fun vs H1 => r vs H1 R) (iTk op fs) := by
  intro B pn env σ F N G Rg H R I h
  refine args_read I ?_
  unfold iTk at h
  cases e : dArgs fs env with
  | bad => rw [e] at h; exact h
  | exc c e1 => rw [e] at h; exact h
  | ok ts e1 =>
    rw [e] at h
    simp only at h
    intro vs F1 N1 Rg1 H1 I1 hF hN T1
    cases e2 : takes e1 ts with
    | none => rw [e2] at h; exact h.elim
    | some q =>
      obtain ⟨ps, en⟩ := q
      rw [e2] at h
      simp only at h
      obtain ⟨F2, N2, Rg2, I2, hF2, hN2, r2⟩ := takes_ok I1 T1 e2
      cases e3 : op ps with
      | none => rw [e3] at h; exact h.elim
      | some q =>
        obtain ⟨b, ds⟩ := q
        rw [e3] at h
        exact hr B pn G F2 N2 H1 vs ps b ds R I2.sN I2.sF r2 e3 fun J it => h J F2 N2 Rg2 H1 I2 (hF.trans hF2) (hN.trans hN2) it
/-- a new pair, frozen -/
theorem pair_new {B : Hp} {pn : Nat → Option Addr} {env : Env} {σ : L2.St} {F N G : Hp} {Rg : Nat → Hp} {H : Hp} {T : Addr} {x y : V} {b : Bool} {dx dy : D} (I : Ok B pn env σ F N G Rg H) (nT : H T = none) (rx : Rp (bsel b N F) x dx) (ry : Rp (bsel b N F) y dy) :
    ∃ F' N', Ok B pn env σ F' N' G Rg (upd H T (.tup [x, y])) ∧ Same F F' ∧ Same N N' ∧ Rp (bsel b N' F') (.ref T) (.tuple [dx, dy]) := by
  have I1 := I.grow (upd_Same (o := .tup [x, y]) nT)
  have A := I.fresh (o := .tup [x, y]) nT
  cases b with
  | true =>
    have hN := I1.djN A
    refine ⟨_, _, I1.frzN A (dj_sgl (I.hB T nT)) (nofz_sgl (by intro _ _ z; cases z)), jn_left A.dF, jn_left hN, ?_⟩
    exact .tup (.inl (jn_right _ _ sgl_same)) (.cons (rx.mono (jn_left hN)) (.cons (ry.mono (jn_left hN)) .nil))
  | false =>
    refine ⟨_, _, I1.frz A, jn_left A.dF, Same.refl _, ?_⟩
    exact .tup (.inl (jn_right _ _ sgl_same)) (.cons (rx.mono (jn_left A.dF)) (.cons (ry.mono (jn_left A.dF)) .nil))
def dEnum : List (Bool × D) → Option (Bool × List D)
  | [(b, .list ds)] => some (b, pairsE 0 ds)
  | _ => none
theorem itk_enum {K : PySem.W.Frag} : ITkR (fun vs H R => ∃ a xs, vs = [.ref a] ∧ SqL K H a xs ∧ R (Ite K a) H) dEnum := fun B pn G F N H vs ps b ds R sN sF rb e q => by
  match ps, rb, e with
  | [(b1, .list ds1)], rb, e =>
    cases e
    obtain ⟨v, r, rfl, h1, h2⟩ := rb
    cases (show r = [] from h2)
    cases h1 with
    | lst hr ra =>
      rename_i a xs
      have hs : ∀ {H3 : Hp}, Same F H3 → SqL K H3 a xs := fun s => .inl (Rd.same ((bsel_sub sN).trans s) hr)
      refine ⟨a, xs, rfl, hs sF, q _ ⟨fun i sg I hF hN hi => ?_, fun sg I hF hN => ⟨xs, hs (hF.trans I.sF), by rw [pairsE_len, ra.len]; exact Nat.le_refl _⟩, fun i x H' sg I hF hN hi y => ?_⟩⟩
      · rw [pairsE_len] at hi
        have hi' : i < xs.length := by rw [ra.len]; exact hi
        exact ⟨xs, xs[i], hs (hF.trans I.sF), List.getElem?_eq_getElem hi'⟩
      · obtain ⟨T, z, rfl, nT, rfl, k⟩ := y
        obtain ⟨d, ed, rd⟩ := ra.getV (k xs (hs (hF.trans I.sF)))
        obtain ⟨F', N', I', hF', hN', r'⟩ := pair_new (b := b) I nT (.int (i : Nat)) (rd.mono (bsel_mono hN hF))
        refine ⟨F', N', _, ?_, I', hF', hN', r'⟩
        have := pairsE_get (j := 0) ed
        rw [Nat.zero_add] at this
        exact this
def dZip : List (Bool × D) → Option (Bool × List D)
  | [(b, .list ds), (c, .list es)] => some (b && c, List.zipWith (fun d e => .tuple [d, e]) ds es)
  | [(b, .tuple ds), (c, .tuple es)] => some (b && c, List.zipWith (fun d e => .tuple [d, e]) ds es)
  | _ => none
theorem itk_zip {K : PySem.W.Frag} : ITkR (fun vs H R => ∃ a b xs ys, vs = [.ref a, .ref b] ∧ ((SqL K H a xs ∧ SqL K H b ys ∧ R (Itz K a b) H) ∨ (SqT K H a xs ∧ SqT K H b ys ∧ R (RZ.ItzT K a b) H))) dZip := fun B pn G F N H vs ps b ds R sN sF rb e q => by
  have zl : ∀ {ds es : List D} {i : Nat} {d e : D}, ds[i]? = some d → es[i]? = some e → (List.zipWith (fun d e => PyData.tuple [d, e]) ds es)[i]? = some (.tuple [d, e]) := fun {ds es i d e} h1 h2 => by
    rw [List.getElem?_zipWith, h1, h2]
  match ps, rb, e with
  | [(b1, .list ds1), (b2, .list es1)], rb, e =>
    cases e
    obtain ⟨v, r, rfl, h1, w, r, rfl, h2, h3⟩ := rb
    cases (show r = [] from h3)
    cases h1 with
    | lst hr ra =>
      rename_i a xs
      cases h2 with
      | lst hr2 ra2 =>
        rename_i a2 ys
        have hs : ∀ {H3 : Hp}, Same F H3 → SqL K H3 a xs := fun s => .inl (Rd.same ((bsel_sub sN).trans s) hr)
        have hs2 : ∀ {H3 : Hp}, Same F H3 → SqL K H3 a2 ys := fun s => .inl (Rd.same ((bsel_sub sN).trans s) hr2)
        refine ⟨a, a2, xs, ys, rfl, .inl ⟨hs sF, hs2 sF, q _ ⟨fun i sg I hF hN hi => ?_, fun sg I hF hN => ⟨xs, ys, hs (hF.trans I.sF), hs2 (hF.trans I.sF), by rw [List.length_zipWith, ra.len, ra2.len]; omega⟩, fun i x H' sg I hF hN hi y => ?_⟩⟩⟩
        · rw [List.length_zipWith] at hi
          have hi' : i < xs.length := by rw [ra.len]; omega
          have hi2 : i < ys.length := by rw [ra2.len]; omega
          exact ⟨xs, ys, xs[i], ys[i], hs (hF.trans I.sF), hs2 (hF.trans I.sF), List.getElem?_eq_getElem hi', List.getElem?_eq_getElem hi2⟩
        · obtain ⟨T, z1, z2, rfl, nT, rfl, k, k2⟩ := y
          obtain ⟨d, ed, rd⟩ := ra.getV (k xs (hs (hF.trans I.sF)))
          obtain ⟨d2, ed2, rd2⟩ := ra2.getV (k2 ys (hs2 (hF.trans I.sF)))
          obtain ⟨F', N', I', hF', hN', r'⟩ := pair_new (b := b1 && b2) I nT ((rd.mono (bsel_mono hN hF)).mono (bsel_and_l I.sN)) ((rd2.mono (bsel_mono hN hF)).mono (bsel_and_r I.sN))
          exact ⟨F', N', _, zl ed ed2, I', hF', hN', r'⟩
  | [(b1, .tuple ds1), (b2, .tuple es1)], rb, e =>
    cases e
    obtain ⟨v, r, rfl, h1, w, r, rfl, h2, h3⟩ := rb
    cases (show r = [] from h3)
    cases h1 with
    | tup hr ra =>
      rename_i a xs
      cases h2 with
      | tup hr2 ra2 =>
        rename_i a2 ys
        have hs : ∀ {H3 : Hp}, Same F H3 → SqT K H3 a xs := fun s => .inl (Rd.same ((bsel_sub sN).trans s) hr)
        have hs2 : ∀ {H3 : Hp}, Same F H3 → SqT K H3 a2 ys := fun s => .inl (Rd.same ((bsel_sub sN).trans s) hr2)
        refine ⟨a, a2, xs, ys, rfl, .inr ⟨hs sF, hs2 sF, q _ ⟨fun i sg I hF hN hi => ?_, fun sg I hF hN => ⟨xs, ys, hs (hF.trans I.sF), hs2 (hF.trans I.sF), by rw [List.length_zipWith, ra.len, ra2.len]; omega⟩, fun i x H' sg I hF hN hi y => ?_⟩⟩⟩
        · rw [List.length_zipWith] at hi
          have hi' : i < xs.length := by rw [ra.len]; omega
          have hi2 : i < ys.length := by rw [ra2.len]; omega
          exact ⟨xs, ys, xs[i], ys[i], hs (hF.trans I.sF), hs2 (hF.trans I.sF), List.getElem?_eq_getElem hi', List.getElem?_eq_getElem hi2⟩
        · obtain ⟨T, z1, z2, rfl, nT, rfl, k, k2⟩ := y
          obtain ⟨d, ed, rd⟩ := ra.getV (k xs (hs (hF.trans I.sF)))
          obtain ⟨d2, ed2, rd2⟩ := ra2.getV (k2 ys (hs2 (hF.trans I.sF)))
          obtain ⟨F', N', I', hF', hN', r'⟩ := pair_new (b := b1 && b2) I nT ((rd.mono (bsel_mono hN hF)).mono (bsel_and_l I.sN)) ((rd2.mono (bsel_mono hN hF)).mono (bsel_and_r I.sN))
          exact ⟨F', N', _, zl ed ed2, I', hF', hN', r'⟩
section
variable {X : Cx} {W : L2.WX} {cm : String → Addr} {a b : Expr} {f g : DE} {p pos tpos : Pos} {elts : List Expr} {kk : Nat}
theorem gi_enum (hg : Gl X "enumerate") (hm : X.mg "enumerate" = none) (ha : PA X [a] (tAD W cm [f])) (hs : starEach [a] X.env = [(false, eval a X.env)] := by rfl) : GI X W cm (.Tuple elts kk tpos) (.Call (.Name "enumerate" p) [a] [] pos) (iTk dEnum [f]) :=
  ⟨_, pi_enum hg hm ha hs, src_tk itk_enum⟩
theorem gi_zip (hg : Gl X "zip") (hm : X.mg "zip" = none) (ha : PA X [a, b] (tAD W cm [f, g])) (hs : starEach [a, b] X.env = (false, eval a X.env) :: starEach [b] X.env := by rfl) (hpl : (backTo pos (starEach [b] X.env)).any (·.1) = false := by rfl) :
    GI X W cm (.Tuple elts kk tpos) (.Call (.Name "zip" p) [a, b] [] pos) (iTk dZip [f, g]) := ⟨_, RZ.pi_zipA hg hm ha hs hpl, src_tk itk_zip⟩
end
end DL
namespace DL
open PySem PySem.Spec PyProof.Rows L2
/-! ### the law's own end -/
def noList : PySem.W.Frag → Bool
  | [] => true
  | (_, o) :: r => (match o.cls with | .type s => s != "list" | _ => true) && noList r
theorem noList_ok {K : PySem.W.Frag} (h : noList K = true) {a : Addr} {o : Obj} (m : (a, o) ∈ K) (hc : o.cls = .type "list") : False := by
  induction K with
  | nil => cases m
  | cons x r ih =>
    obtain ⟨b, u⟩ := x
    have h1 : ((match u.cls with | .type s => s != "list" | _ => true) && noList r) = true := h
    rw [Bool.and_eq_true] at h1
    rcases List.mem_cons.mp m with e | e
    · have eu : o = u := (Prod.mk.inj e).2
      subst eu
      have h2 := h1.1
      rw [hc] at h2
      exact absurd h2 (by decide)
    · exact ih h1.2 e
theorem law_entry {cm : String → Addr} {fn : Fn} {H : Hp} {a : Addr} {ns : List Int} (hO : Only H) (hS : Rd H a (.lst (ns.map V.int))) (hf : ∃ outs, fn [.v false (.list (ns.map PyData.int))] = .ok (.fz true (.bool true)) outs) :
    spD cm fn [.ref a] H (fun v _ => v = .bl true) fun _ _ _ => False := by
  obtain ⟨outs, hf⟩ := hf
  refine ⟨emp, fun _ => none, H, emp, emp, fun _ => emp, [.v false (.list (ns.map PyData.int))], ⟨?_, fun b o e => .inl e⟩, ?_⟩
  · exact {
      len := rfl
      sF := Same.refl _
      sN := emp_same _
      sG := emp_same _
      dG := dj_emp _
      nB := dj_emp _
      nZ := fun _ _ _ e => nomatch e
      hB := fun _ _ => rfl
      sl := fun i s e => by
        cases i with
        | zero =>
          cases e
          exact ⟨rfl, .ref a, rfl, .lst hS (RpA.ints _ _)⟩
        | succ i => simp [argEnv] at e
      sR := fun _ => emp_same _
      dF := fun _ => dj_emp _
      dRG := fun _ => dj_emp _
      dR := fun _ _ _ => dj_emp _
      out := fun _ _ => rfl }
  · rw [hf]
    refine ⟨rfl, fun v F' N' Rg' H' R I hF hN T A _ => ?_⟩
    obtain ⟨_, r⟩ := T
    cases r
    rfl
/-- a def of which nothing is promised -/
theorem fn_none {P : Program} {w : World} {K : PySem.W.Frag} {mg : Str → Option Value} {base : Heap} {cm : String → Addr} {x qual : Str} {st : Stmt} {f : Addr} {fd : FuncData} {Nm ps : List Str} {k : Nat} (F : Fun K x qual st f fd) (S : FnScope Nm ps (defScope st)) :
    FnOk P w K mg base (L2.CX P w) (k + 1) f fd ps (spD cm fun _ => .bad) := by
  refine F.okX S (fun vs H Q E h => ?_) (fun cdv A outer s0 H vs Q E hr h => ?_)
  · obtain ⟨B, pn, Fz, N, G, Rg, args, En, h⟩ := h
    exact h.elim
  · obtain ⟨B, pn, Fz, N, G, Rg, args, En, h⟩ := h
    exact h.elim
end DL
namespace DL
open PySem PySem.Spec PyProof.Rows L2
/-! ### xs[::-1] -/
def dRev : List (Bool × D) → Option Tok
  | [(b, .list xs)] => some (.nw b xs.reverse)
  | _ => none
def rRev (K : PySem.W.Frag) : List V → Hp → VK → Prop := fun vs H Q => match vs with
  | [x] => ∃ a xs, x = .ref a ∧ SqL K H a xs ∧ ∀ p, H p = none → Q (.ref p) (upd H p (.lst xs.reverse))
  | _ => False
theorem el_rev {K : PySem.W.Frag} : ElR (fun _ vs H Q => rRev K vs H Q) dRev := fun σ N F H vs ps t Q sN sF hv e q => by
  match ps, hv, e with
  | [(b, .list xs)], hv, e =>
    cases e
    obtain ⟨v, r, rfl, v1, v2⟩ := hv
    cases (show r = [] from v2)
    obtain ⟨l, ws, rfl, h, ra⟩ := v1.lst sN sF
    exact ⟨l, ws, rfl, .inl h, fun p np => q _ _ (.inr (.inl ⟨p, _, _, _, rfl, rfl, np, rfl, ra.reverse⟩))⟩
/-! ### x is b, of truths -/
def dIsB : List D → Option D
  | [.bool a, .bool b] => some (.bool (decide (a = b)))
  | _ => none
def dNotB : List D → Option D
  | [.bool a, .bool b] => some (.bool (!decide (a = b)))
  | _ => none
/-! ### x += e, of ints -/
def sAug (i : Nat) (g : Int → Int → Int) (f : DE) : DS := fun env => match env[i]? with
  | some (.fro _ (.int k)) => match f env with
    | .ok t e1 => match rd e1 t with
      | some (.int j) => match setSlot e1 i (.fro true (.int (g k j))) with
        | some e2 => .nx e2
        | none => .bad
      | _ => .bad
    | .exc c e1 => .exc c e1
    | .bad => .bad
  | _ => .bad
theorem ts_aug {W : L2.WX} {cm : String → Addr} {i : Nat} {g : Int → Int → Int} {f : DE} {Dn : Ends} {σ : L2.St} {H : Hp} (h : tS W cm (sAug i g f) Dn σ H) : tAug i (tD W cm f) (ipI g) Dn σ H := by
  obtain ⟨B, pn, F, N, G, Rg, env, I, h⟩ := h
  unfold sAug at h
  cases e0 : env[i]? with
  | none => rw [e0] at h; exact h.elim
  | some s =>
    rw [e0] at h
    cases s with
    | fro b d =>
      cases d with
      | int k =>
        simp only at h
        obtain ⟨_, v, hv, rv⟩ := I.sl i _ e0
        cases rv
        refine ⟨_, hv, B, pn, F, N, G, Rg, env, I, ?_⟩
        cases e : f env with
        | bad => rw [e] at h; exact h
        | exc c e1 => rw [e] at h; exact fun F' N' Rg' H' I' hF hN => h σ F' N' Rg' H' I' hF hN
        | ok t e1 =>
          rw [e] at h
          simp only at h
          intro v F' N' Rg' H' R I' hF hN T A
          cases e2 : rd e1 t with
          | none => rw [e2] at h; exact h.elim
          | some d =>
            have r := rd_ok I' T A.sR e2
            rw [e2] at h
            cases d with
            | int j =>
              simp only at h
              cases r
              cases e3 : setSlot e1 i (.fro true (.int (g k j))) with
              | none => rw [e3] at h; exact h.elim
              | some e4 =>
                rw [e3] at h
                have hi : i < σ.length := by rw [← I'.len]; exact (setSlot_lt e3).1
                obtain ⟨Rg2, J⟩ := I'.set (v := .int (g k j)) e3 .none ⟨rfl, _, set_at hi, .int _⟩
                exact ⟨k, j, rfl, rfl, h _ F' N' Rg2 H' J hF hN⟩
            | _ => exact h.elim
      | _ => exact h.elim
    | _ => exact h.elim
theorem hu65 {A : Around} {k : Nat} (hr : Room k A) : A.units + 65 < cLine := by have := hr.un; omega
section
variable {X : Cx} {W : L2.WX} {cm : String → Addr} {a b : Expr} {pos p1 p2 p3 : Pos} {f g : DE} {k : Nat}
theorem ge_rev (ha : PE X a (tD W cm f)) : PE X (.Subscript a (.Slice none none (some (.UnaryOp .USub (.Constant (.int 1) k p1) p2)) p3) pos) (tD W cm (dAp (opEl dRev) [f])) :=
  PEimp (pe_revL ha) fun _ _ _ h => ap_read (r := fun _ vs H Q => rRev X.K vs H Q) (ap_el el_rev) h
theorem sc_isB : ScR (fun _ vs H Q => ∀ x y, vs = [x, y] → ∃ a b, x = V.bl a ∧ y = V.bl b ∧ Q (.bl (decide (a = b))) H) dIsB := fun σ H vs ds d Q r e q x y ev => by
  subst ev
  match ds, r, e with
  | [.bool a, .bool b], r, e =>
    obtain ⟨r1, r2⟩ := rpa2 r
    cases r1
    cases r2
    cases e
    exact ⟨a, b, rfl, rfl, q _ (.bl _)⟩
theorem sc_notB : ScR (fun _ vs H Q => ∀ x y, vs = [x, y] → ∃ a b, x = V.bl a ∧ y = V.bl b ∧ Q (.bl (!decide (a = b))) H) dNotB := fun σ H vs ds d Q r e q x y ev => by
  subst ev
  match ds, r, e with
  | [.bool a, .bool b], r, e =>
    obtain ⟨r1, r2⟩ := rpa2 r
    cases r1
    cases r2
    cases e
    exact ⟨a, b, rfl, rfl, q _ (.bl _)⟩
theorem ge_isB (ha : PE X a (tD W cm f)) (hb : PE X b (tD W cm g)) : PE X (.Compare a [.Is] [b] pos) (tD W cm (dAp (opSc dIsB) [f, g])) := ge_cmp2 L2.op_is_bl sc_isB (nomark _) ha hb
theorem ge_notB (ha : PE X a (tD W cm f)) (hb : PE X b (tD W cm g)) : PE X (.Compare a [.IsNot] [b] pos) (tD W cm (dAp (opSc dNotB) [f, g])) := ge_cmp2 L2.op_isnot_bl sc_notB (nomark _) ha hb
theorem gt_isB (ha : PE X a (tD W cm f)) (hb : PE X b (tD W cm g)) : PT X (.Compare a [.Is] [b] pos) (tT W cm (dVal (dAp (opSc dIsB) [f, g]))) := gt_cmp2 L2.op_is_bl sc_isB (nomark _) ha hb
theorem gt_notB (ha : PE X a (tD W cm f)) (hb : PE X b (tD W cm g)) : PT X (.Compare a [.IsNot] [b] pos) (tT W cm (dVal (dAp (opSc dNotB) [f, g]))) := gt_cmp2 L2.op_isnot_bl sc_notB (nomark _) ha hb
theorem gs_augAdd {i : Nat} {x : Str} {pos' : Pos} (hN : X.N.Nodup) (hi : X.N[i]? = some x) (hx : Loc X.env.scope x) (h : PE X a (tD W cm f)) (hf : X.fn x = true ∨ X.env.scope.names.lookup x = some .local := by first | exact .inl rfl | exact .inr rfl | assumption) :
    PS X (.AugAssign (.Name x pos') .Add a pos) (tS W cm (sAug i (fun i j => i + j) f)) := PSimp (ps_aug hN hi hx h ip_add hf) fun _ _ _ h => ts_aug h
end
end DL
namespace DL
open PySem PySem.Spec PyProof.Rows L2
/-! ### the groups of a list of ints -/
def addG (k : Int) (i : Nat) : List (Int × List Nat) → List (Int × List Nat)
  | [] => [(k, [i])]
  | (k', l) :: r => if k' = k then (k', l ++ [i]) :: r else (k', l) :: addG k i r
def grpFrom : Nat → List Int → List (Int × List Nat) → List (Int × List Nat)
  | _, [], acc => acc
  | i, k :: r, acc => grpFrom (i + 1) r (addG k i acc)
def grp (ns : List Int) : List (Int × List Nat) := grpFrom 0 ns []
def natsD (l : List Nat) : D := .list (l.map fun i => .int (i : Nat))
def grpD (ns : List Int) : List D := (grp ns).map fun p => natsD p.2
def fnGrp : Fn := fun args => match args with
  | [.v _ (.list xs)] => match intsD xs with
    | some ns => match decide (ns.length ≤ 1000) with
      | true => .ok (.nw true (grpD ns)) [none]
      | false => .bad
    | none => .bad
  | _ => .bad
end DL
namespace DL
open PySem PySem.Spec PyProof.Rows L2
/-! ### list(d.values()) -/
def rValsL : V → Hp → VK → Prop := fun x H Q => ∃ (d : Addr) (kvs : List (Key × V)), x = .ref d ∧ H d = some (.dK kvs) ∧ ∀ q, H q = none → Q (.ref q) (upd H q (.lst (kvs.map (·.2))))
def tListVals (te : TE) : TE := fun σ H Q => te σ H fun x H1 => rValsL x H1 Q
theorem pairedAt {α β : Type} {R : α → β → Prop} : ∀ {xs : List α} {ys : List β}, Paired R xs ys → ∀ {i : Nat} {x : α} {y : β}, xs[i]? = some x → ys[i]? = some y → R x y
  | _, _, .nil, i, x, y, h, _ => by simp at h
  | _, _, .cons r t, 0, x, y, h, g => by
    simp at h g
    subst h
    subst g
    exact r
  | _, _, .cons r t, i + 1, x, y, h, g => pairedAt t (by simpa using h) (by simpa using g)
theorem pe_listVals {X : Cx} {e : Expr} {te : TE} {p apos cpos pos : Pos} (hc : X.calm = true) (he : PE X e te) (hg : Gl X "list") (hm : X.mg "list" = none) (hv : bootBuiltins "list" = some (.type "list")) (hbase : attributeBase e "values" X.env (eval e X.env) = eval e X.env := by rfl) (hline : (apos.endLine == cpos.line) = true := by rfl)
    (hs : starEach [.Call (.Attribute e "values" apos) [] [] cpos] X.env = (false, eval (.Call (.Attribute e "values" apos) [] [] cpos) X.env) :: starEach [] X.env := by rfl) :
    PE X (.Call (.Name "list" p) [.Call (.Attribute e "values" apos) [] [] cpos] [] pos) (tListVals te) := by
  refine ⟨fun pins s σ H Q I hq => ?_⟩
  refine wpAny_Call_Name_kw (ld_blt I hg hm hv ?_)
  refine PyProof.Rows.callWith_type1 ?_ hs rfl
  rw [hs]
  show wpAny _ _ (spliced ((false, eval (.Call (.Attribute e "values" apos) [] [] cpos) X.env) :: backTo pos (starEach [] X.env))) _ _ s
  refine Calls.spliced_cons ?_
  refine wpAny_Call_method (T := "dict") (id := "dict.values") hbase rfl hline F.plainAttrs_dict F.slot_dict_values F.type_dict_values (thn (he.run pins s σ H _ I hq) fun u s1 ⟨x, H1, I1, rx, d, kvs, ex, hd, q⟩ => ?_)
  subst ex
  obtain rfl : u = Value.ref d := rx
  obtain ⟨hz, hs0, vs, kv, hdo⟩ := I1.hok d _ hd
  obtain ⟨ep, hat⟩ := hdo.dictAt
  have lk : kvs.length = vs.length := Paired.length kv
  have I2 : Inv X pins σ H1 { s1 with heap := s1.heap.push { cls := .type "dict_values", data := .fields #[.ref d] } } := I1.kept (t' := s1.toks) fun b ob q => Heap.get?_push_of_some _ q
  refine ⟨hdo.typeIs, hdo.mapOf.noDict, ?_⟩
  show wpAny _ _ (callWith cpos (.builtin "dict.values") [.ref d] [] []) _ X.xe s1
  refine method_meetsIn F.slot_dict_values F.entry_dict_values rfl (PySem.evalArgs_none ⟨rfl, hdo.typeIs, F.args_dict_values_1 _, _, meets_dict_values (mixKind X.prog X.w) d hs0, ⟨vs, hdo⟩, ?_⟩)
  refine Calls.spliced_nil ?_
  refine PySem.W.kdl_call (PySem.W.kdl_values (knd := mixKind X.prog X.w) (kvs := vs) (ep := ep)) (I1.ok.hd hc) ⟨⟨_, Heap.get?_push_size _ rfl, rfl, rfl⟩, hat.push _⟩ (by rw [← lk]; exact hz) fun h' tk acc' c' hkeep hS hacc => ?_
  refine ⟨.ref _, upd H1 _ (.lst (kvs.map (·.2))), I2.laid hkeep (Nat.le_refl _) (show ObjOk X.prog X.w _ _ _ (.lst (kvs.map (·.2))) from ⟨?_, acc'.toList, c', ?_, ?_⟩), rfl, q _ (I2.hok.fresh (Nat.le_refl _))⟩
  · rw [List.length_map]; exact hz
  · have el : acc'.toList.length = acc'.size := by simp
    refine vals_of_at (by rw [List.length_map, el, hacc.1, lk]) fun j x w h1 h2 => ?_
    obtain ⟨k, hk⟩ := hacc.2 j w (by rw [← Array.getElem?_toList]; exact h2)
    rw [List.getElem?_map] at h1
    cases e1 : kvs[j]? with
    | none => rw [e1] at h1; cases h1
    | some p =>
      rw [e1] at h1
      cases h1
      exact (pairedAt kv e1 hk).2
  · rw [Array.toArray_toList]; exact hS
/-! ### the groups in a heap -/
def natsV (l : List Nat) : List V := l.map fun i => V.int (i : Nat)
def GR (H0 H : Hp) (d : Addr) : List (Int × List Nat) → List Addr → List (Key × V) → Prop
  | [], [], [] => True
  | (k, ns) :: acc, l :: ls, (k', v) :: kvs => k' = Sum.inl k ∧ v = .ref l ∧ H0 l = none ∧ l ≠ d ∧ l ∉ ls ∧ H l = some (.lst (natsV ns)) ∧ GR H0 H d acc ls kvs
  | _, _, _ => False
def hasG (k : Int) (acc : List (Int × List Nat)) : Bool := acc.any fun p => decide (p.1 = k)
theorem GR.mono {H0 H H' : Hp} {d : Addr} : ∀ {acc : List (Int × List Nat)} {ls : List Addr} {kvs : List (Key × V)}, (∀ l ∈ ls, H l = H' l) → GR H0 H d acc ls kvs → GR H0 H' d acc ls kvs
  | [], [], [], _, h => h
  | (k, ns) :: acc, l :: ls, (k', v) :: kvs, e, h => by
    obtain ⟨h1, h2, h3, h4, h5, h6, h7⟩ := h
    exact ⟨h1, h2, h3, h4, h5, by rw [← e l List.mem_cons_self]; exact h6, GR.mono (fun l hl => e l (List.mem_cons_of_mem _ hl)) h7⟩
theorem GR.some {H0 H : Hp} {d : Addr} : ∀ {acc : List (Int × List Nat)} {ls : List Addr} {kvs : List (Key × V)}, GR H0 H d acc ls kvs → ∀ l ∈ ls, H0 l = none ∧ l ≠ d ∧ ∃ o, H l = some (.lst o)
  | [], [], [], _, l, hl => by cases hl
  | (k, ns) :: acc, m :: ls, (k', v) :: kvs, h, l, hl => by
    obtain ⟨h1, h2, h3, h4, h5, h6, h7⟩ := h
    rcases List.mem_cons.mp hl with e | hl
    · subst e; exact ⟨h3, h4, _, h6⟩
    · exact GR.some h7 l hl
theorem GR.len {H0 H : Hp} {d : Addr} : ∀ {acc : List (Int × List Nat)} {ls : List Addr} {kvs : List (Key × V)}, GR H0 H d acc ls kvs → kvs.length = acc.length ∧ kvs.map (·.2) = ls.map V.ref
  | [], [], [], _ => ⟨rfl, rfl⟩
  | (k, ns) :: acc, l :: ls, (k', v) :: kvs, h => by
    obtain ⟨h1, h2, h3, h4, h5, h6, h7⟩ := h
    obtain ⟨e1, e2⟩ := GR.len h7
    exact ⟨by rw [List.length_cons, List.length_cons, e1], by rw [List.map_cons, List.map_cons, e2, h2]⟩
theorem GR.val {H0 H : Hp} {d : Addr} {k : Int} : ∀ {acc : List (Int × List Nat)} {ls : List Addr} {kvs : List (Key × V)}, GR H0 H d acc ls kvs →
    (hasG k acc = false ∧ valV kvs (Sum.inl k) = none) ∨ (hasG k acc = true ∧ ∃ l ns, l ∈ ls ∧ (∃ p ∈ acc, p.2 = ns) ∧ valV kvs (Sum.inl k) = Option.some (.ref l) ∧ H l = Option.some (.lst (natsV ns)) ∧ ∀ i, GR H0 (upd H l (.lst (natsV (ns ++ [i])))) d (addG k i acc) ls kvs)
  | [], [], [], _ => .inl ⟨rfl, rfl⟩
  | (k1, ns1) :: acc, l1 :: ls, (k', v) :: kvs, h => by
    obtain ⟨h1, h2, h3, h4, h5, h6, h7⟩ := h
    subst h1
    subst h2
    by_cases hk : k1 = k
    · subst hk
      refine .inr ⟨by simp [hasG], l1, ns1, List.mem_cons_self, ⟨_, List.mem_cons_self, rfl⟩, valV_pos rfl, h6, fun i => ?_⟩
      have ea : addG k1 i ((k1, ns1) :: acc) = (k1, ns1 ++ [i]) :: acc := by simp [addG]
      rw [ea]
      exact ⟨rfl, rfl, h3, h4, h5, upd_same, h7.mono fun l hl => (upd_ne fun z => h5 (by rw [← z]; exact hl)).symm⟩
    · have hv : valV ((Sum.inl k1, V.ref l1) :: kvs) (Sum.inl k) = valV kvs (Sum.inl k) := valV_neg (by intro z; exact hk (Sum.inl.inj z))
      have hh : hasG k ((k1, ns1) :: acc) = hasG k acc := by simp [hasG, hk]
      rw [hv, hh]
      rcases GR.val (k := k) h7 with ⟨g1, g2⟩ | ⟨g1, l, ns, g2, ⟨p, gp, gq⟩, g3, g4, g5⟩
      · exact .inl ⟨g1, g2⟩
      · refine .inr ⟨g1, l, ns, List.mem_cons_of_mem _ g2, ⟨p, List.mem_cons_of_mem _ gp, gq⟩, g3, g4, fun i => ?_⟩
        have ea : addG k i ((k1, ns1) :: acc) = (k1, ns1) :: addG k i acc := by simp [addG, hk]
        rw [ea]
        have ne : l1 ≠ l := fun z => h5 (by rw [z]; exact g2)
        exact ⟨rfl, rfl, h3, h4, h5, by rw [upd_ne ne]; exact h6, g5 i⟩
theorem GR.snoc {H0 H : Hp} {d l : Addr} {k : Int} (n0 : H0 l = none) (nd : l ≠ d) (hl : H l = Option.some (.lst [])) : ∀ {acc : List (Int × List Nat)} {ls : List Addr} {kvs : List (Key × V)}, l ∉ ls → GR H0 H d acc ls kvs → GR H0 H d (acc ++ [(k, [])]) (ls ++ [l]) (kvs ++ [(Sum.inl k, .ref l)])
  | [], [], [], _, _ => ⟨rfl, rfl, n0, nd, by simp, hl, trivial⟩
  | (k1, ns) :: acc, l1 :: ls, (k', v) :: kvs, nl, h => by
    obtain ⟨h1, h2, h3, h4, h5, h6, h7⟩ := h
    refine ⟨h1, h2, h3, h4, ?_, h6, GR.snoc n0 nd hl (fun z => nl (List.mem_cons_of_mem _ z)) h7⟩
    intro z
    rcases List.mem_append.mp z with z | z
    · exact h5 z
    · rw [List.mem_singleton] at z
      exact nl (by rw [← z]; exact List.mem_cons_self)
theorem addG_snoc {k : Int} {i : Nat} : ∀ {acc : List (Int × List Nat)}, hasG k acc = false → addG k i (acc ++ [(k, [])]) = addG k i acc
  | [], _ => by simp [addG]
  | (k1, ns) :: acc, h => by
    have h' : ¬ k1 = k ∧ hasG k acc = false := by
      unfold hasG at h
      rw [List.any_cons, Bool.or_eq_false_iff] at h
      exact ⟨of_decide_eq_false h.1, h.2⟩
    show addG k i ((k1, ns) :: (acc ++ [(k, [])])) = _
    have e1 : addG k i ((k1, ns) :: (acc ++ [(k, [])])) = (k1, ns) :: addG k i (acc ++ [(k, [])]) := by simp [addG, h'.1]
    have e2 : addG k i ((k1, ns) :: acc) = (k1, ns) :: addG k i acc := by simp [addG, h'.1]
    rw [e1, e2, addG_snoc h'.2]
theorem hasG_snoc {k : Int} {acc : List (Int × List Nat)} : hasG k (acc ++ [(k, [])]) = true := by simp [hasG]
theorem grpFrom_snoc {k : Int} : ∀ {l : List Int} {s : Nat} {acc : List (Int × List Nat)}, grpFrom s (l ++ [k]) acc = addG k (s + l.length) (grpFrom s l acc)
  | [], s, acc => rfl
  | x :: r, s, acc => by
    show grpFrom (s + 1) (r ++ [k]) (addG x s acc) = addG k (s + (r.length + 1)) (grpFrom (s + 1) r (addG x s acc))
    rw [grpFrom_snoc, Nat.add_assoc, Nat.add_comm 1]
/-- sizes -/
def Bd (n : Nat) (acc : List (Int × List Nat)) : Prop := acc.length ≤ n ∧ ∀ p ∈ acc, p.2.length ≤ n
theorem Bd.add {n : Nat} {k : Int} {i : Nat} : ∀ {acc : List (Int × List Nat)}, Bd n acc → Bd (n + 1) (addG k i acc)
  | [], h => ⟨by simp [addG], by simp [addG]⟩
  | (k1, ns) :: acc, h => by
    obtain ⟨h1, h2⟩ := h
    by_cases hk : k1 = k
    · have ea : addG k i ((k1, ns) :: acc) = (k1, ns ++ [i]) :: acc := by simp [addG, hk]
      rw [ea]
      refine ⟨by simp at h1 ⊢; omega, fun p hp => ?_⟩
      rcases List.mem_cons.mp hp with e | hp
      · subst e
        have := h2 _ List.mem_cons_self
        simp at this ⊢
        omega
      · have := h2 p (List.mem_cons_of_mem _ hp); omega
    · have ea : addG k i ((k1, ns) :: acc) = (k1, ns) :: addG k i acc := by simp [addG, hk]
      rw [ea]
      obtain ⟨n', rfl⟩ : ∃ m, n = m + 1 := ⟨n - 1, by simp at h1; omega⟩
      have key : ∀ {acc : List (Int × List Nat)}, (addG k i acc).length ≤ acc.length + 1 ∧ ∀ p ∈ addG k i acc, (∃ q ∈ acc, p.2.length ≤ q.2.length + 1) ∨ p.2.length ≤ 1 := by
        intro acc
        induction acc with
        | nil => exact ⟨by simp [addG], fun p hp => .inr (by simp [addG] at hp; subst hp; simp)⟩
        | cons x r ih =>
          obtain ⟨kx, nx⟩ := x
          by_cases hx : kx = k
          · have ea : addG k i ((kx, nx) :: r) = (kx, nx ++ [i]) :: r := by simp [addG, hx]
            rw [ea]
            refine ⟨by simp, fun p hp => ?_⟩
            rcases List.mem_cons.mp hp with e | hp
            · subst e; exact .inl ⟨_, List.mem_cons_self, by simp⟩
            · exact .inl ⟨p, List.mem_cons_of_mem _ hp, by omega⟩
          · have ea : addG k i ((kx, nx) :: r) = (kx, nx) :: addG k i r := by simp [addG, hx]
            rw [ea]
            refine ⟨by simp; omega, fun p hp => ?_⟩
            rcases List.mem_cons.mp hp with e | hp
            · subst e; exact .inl ⟨_, List.mem_cons_self, by simp⟩
            · rcases ih.2 p hp with ⟨q, hq, hl⟩ | hl
              · exact .inl ⟨q, List.mem_cons_of_mem _ hq, hl⟩
              · exact .inr hl
      obtain ⟨k1', k2'⟩ := key (acc := acc)
      refine ⟨by simp at h1 ⊢; omega, fun p hp => ?_⟩
      rcases List.mem_cons.mp hp with e | hp
      · subst e
        have := h2 _ List.mem_cons_self
        omega
      · rcases k2' p hp with ⟨q, hq, hl⟩ | hl
        · have := h2 q (List.mem_cons_of_mem _ hq); omega
        · omega
theorem Bd.grp : ∀ {l : List Int} {s n : Nat} {acc : List (Int × List Nat)}, Bd n acc → Bd (n + l.length) (grpFrom s l acc)
  | [], s, n, acc, h => h
  | x :: r, s, n, acc, h => by
    have := Bd.grp (l := r) (s := s + 1) (h.add (k := x) (i := s))
    show Bd (n + (r.length + 1)) (grpFrom (s + 1) r (addG x s acc))
    rw [show n + (r.length + 1) = n + 1 + r.length by omega]
    exact this
/-- new lists, handed over -/
def lsR (H : Hp) (ls : List Addr) : Hp := fun a => if a ∈ ls then H a else none
theorem lsR_some {H : Hp} {ls : List Addr} {a : Addr} {o : HO} (h : lsR H ls a = some o) : a ∈ ls ∧ H a = some o := by
  unfold lsR at h
  split at h
  · exact ⟨by assumption, h⟩
  · cases h
theorem GR.rp {H0 H F : Hp} {d : Addr} : ∀ {acc : List (Int × List Nat)} {ls : List Addr} {kvs : List (Key × V)}, (∀ l ∈ ls, ∀ o, H l = Option.some o → F l = Option.some o) → GR H0 H d acc ls kvs → RpA F (ls.map V.ref) (acc.map fun p => natsD p.2)
  | [], [], [], _, _ => .nil
  | (k, ns) :: acc, l :: ls, (k', v) :: kvs, e, h => by
    obtain ⟨h1, h2, h3, h4, h5, h6, h7⟩ := h
    refine .cons (.lst (.inl (e l List.mem_cons_self _ h6)) ?_) (GR.rp (fun l hl => e l (List.mem_cons_of_mem _ hl)) h7)
    have := RpA.ints F (ns.map fun i => ((i : Nat) : Int))
    rw [List.map_map, List.map_map] at this
    exact this
theorem grp_done {B : Hp} {pn : Nat → Option Addr} {b : Bool} {dd : D} {va : V} {F N G : Hp} {Rg : Nat → Hp} {H0 Hf : Hp} {d q : Addr} {acc : List (Int × List Nat)} {ls : List Addr} {kvs : List (Key × V)} {Q : VK} (I : Ok B pn [.fro b dd] [some va] F N G Rg H0) (s : Same H0 Hf) (g : GR H0 Hf d acc ls kvs) (nq : Hf q = none)
    (k : ∀ v F' N' Rg' H' R, Ok B pn (outEnv [none]) ([va].map some) F' N' G Rg' H' → Same F F' → Same N N' → TokOk B [] F' N' R (.nw true (acc.map fun p => natsD p.2)) v → Apart F' G Rg' H' R → dj H0 R → Q v H') : Q (.ref q) (upd Hf q (.lst (ls.map V.ref))) := by
  have sq : Same Hf (upd Hf q (.lst (ls.map V.ref))) := upd_Same nq
  have ql : q ∉ ls := fun z => by
    obtain ⟨_, _, o, e⟩ := g.some q z
    rw [nq] at e
    cases e
  have n0 : H0 q = none := s.free nq
  have I1 : Ok B pn [.un] [some va] F N G (setR Rg 0 emp) (upd Hf q (.lst (ls.map V.ref))) := (I.off (i := 0) (by simp)).grow (s.trans sq)
  have hR : ∀ a o, lsR Hf ls a = some o → H0 a = none := fun a o e => (g.some a (lsR_some e).1).1
  have hdj : ∀ {Y : Hp}, Same Y H0 → dj Y (lsR Hf ls) := fun {Y} sY a o e => sY.free (hR a o e)
  have A : Apart F G (setR Rg 0 emp) (upd Hf q (.lst (ls.map V.ref))) (lsR Hf ls) := ⟨fun a o e => sq _ _ (lsR_some e).2, hdj I.sF, hdj I.sG, fun i => by
    by_cases hi : i = 0
    · subst hi; rw [setR_same]; exact emp_dj _
    · rw [setR_ne hi]; exact hdj (I.sR i)⟩
  have hN := I1.djN A
  have I2 := I1.frzN A (fun a o e => I.hB a (hR a o e)) (fun a ob u e => by
    obtain ⟨m, e⟩ := lsR_some e
    obtain ⟨_, _, o, e2⟩ := g.some a m
    rw [e] at e2
    cases e2)
  have nR : lsR Hf ls q = none := by unfold lsR; rw [if_neg ql]
  refine k (.ref q) _ _ _ _ (sgl q (.lst (ls.map V.ref))) I2 (jn_left A.dF) (jn_left hN) ⟨q, ls.map V.ref, rfl, rfl, ?_, I.hB q n0⟩ ⟨sgl_same_iff upd_same, dj_sgl (jn_none_of nR (I.sF.free n0)), dj_sgl (I.sG.free n0), fun i => ?_⟩ (dj_sgl n0)
  · exact g.rp fun l hl o e => jn_right _ _ (by unfold lsR; rw [if_pos hl]; exact e)
  · by_cases hi : i = 0
    · subst hi; rw [setR_same]; exact emp_dj _
    · rw [setR_ne hi]; exact dj_sgl ((I.sR i).free n0)
end DL
namespace DL
open PySem PySem.Spec PyProof.Rows L2
theorem fnGrp_inv {cm : String → Addr} {vs : List V} {H : Hp} {Q : VK} {E : XK} (h : spD cm fnGrp vs H Q E) : ∃ (B : Hp) (pn : Nat → Option Addr) (F N G : Hp) (Rg : Nat → Hp) (b : Bool) (ns : List Int) (a : Addr), vs = [.ref a] ∧ ns.length ≤ 1000 ∧
    Ok B pn [.fro b (.list (ns.map PyData.int))] [some (.ref a)] F N G Rg H ∧ (∀ {H' : Hp}, Same H H' → Rd H' a (.lst (ns.map V.int))) ∧
    (∀ v F' N' Rg' H' R, Ok B pn (outEnv [none]) ([V.ref a].map some) F' N' G Rg' H' → Same F F' → Same N N' → TokOk B [] F' N' R (.nw true ((grp ns).map fun p => natsD p.2)) v → Apart F' G Rg' H' R → dj H R → Q v H') := by
  obtain ⟨B, pn, F, N, G, Rg, args, En, h⟩ := h
  unfold fnGrp at h
  have En := En.ok
  match args, En, h with
  | [.v b (.list xs)], En, h =>
    simp only at h
    cases e1 : intsD xs with
    | none => rw [e1] at h; exact h.elim
    | some ns =>
      rw [e1] at h
      simp only at h
      cases e2 : decide (ns.length ≤ 1000) with
      | false => rw [e2] at h; exact h.elim
      | true =>
        rw [e2] at h
        have ex := intsD_some e1
        subst ex
        have hl : vs.length = 1 := by
          have := En.len
          simp [argEnv] at this
          omega
        match vs, hl, En with
        | [va], _, En =>
          obtain ⟨z1, v, z2, z3⟩ := En.sl 0 _ rfl
          cases z2
          cases z3 with
          | @lst a ws _ hr ra =>
            have := RpA.ofInts ra
            subst this
            exact ⟨B, pn, F, N, G, Rg, b, ns, a, rfl, of_decide_eq_true e2, En, fun {H'} s => Rd.same ((bsel_sub En.sN).trans (En.sF.trans s)) hr, h.2⟩
/-! ### by_kind -/
def tByKind (K : PySem.W.Frag) : TS :=
  tSeq (tAsg tDNewK (gName 1)) (tSeq (tFor (iEnum K (tCons (tVar 0) tNil)) (gTup K 2 (gCons (gName 2) (gCons (gName 3) gNil)))
    (tSeq (tIfS (tB (tDNotIn (tVar 3) (tVar 1))) (sDPut (tVar 1) (tVar 3) (tLst tNil)) tNext) (tDrop (tBM K "list" rAppend (tDGet (tVar 1) (tVar 3)) (tCons (tVar 2) tNil)))))
    (tRet (tListVals (tVar 1))))
theorem by_kind_ok {P : Program} {w : World} {K : PySem.W.Frag} {mg : Str → Option Value} {base : Heap} {cm : String → Addr} {x qual : Str} {st : Stmt} {f : Addr} {fd : FuncData} {k : Nat} (F : Fun K x qual st f fd) (S : FnScope ["kinds", "found", "thing", "kind"] ["kinds"] (defScope st))
    (hb : ∀ (cdv : Value) (A : Around) (outer : List PySem.Env) (s0 : Shared) (H : Hp) (E : XK), Room k (A.deeper (envOfC qual (defScope st) s0.heap.objs.size f cdv)) →
      PSs (cxOf (L2.CX P w) P w K mg base ["kinds", "found", "thing", "kind"] qual (defScope st) f cdv A outer s0 H E) (defBody st) (tByKind K)) :
    FnOk P w K mg base (L2.CX P w) (k + 1) f fd ["kinds"] (spD cm fnGrp) := by
  refine F.okX S (fun vs H Q E h => ?_) (fun cdv A outer s0 H vs Q E hr h => ⟨_, hb cdv A outer s0 H E hr, ?_⟩)
  · obtain ⟨B, pn, F, N, G, Rg, b, ns, a, rfl, _⟩ := fnGrp_inv h
    rfl
  · obtain ⟨B, pn, F, N, G, Rg, b, ns, a, rfl, hn, I, hS, q⟩ := fnGrp_inv h
    -- found = {}
    intro d nd
    have s1 : Same H (upd H d (.dK [])) := upd_Same nd
    -- for thing, kind in enumerate(kinds)
    refine ⟨.ref a, rfl, a, ns.map V.int, rfl, .inl (hS s1), ?_⟩
    refine ⟨fun i m σ H3 => ∃ y2 y3 ls kvs, σ = [some (.ref a), some (.ref d), y2, y3] ∧ i + m = ns.length ∧ Same H H3 ∧ H3 d = some (.dK kvs) ∧ GR H H3 d (grpFrom 0 (ns.take i) []) ls kvs,
      ⟨ns.length, none, none, [], [], rfl, by omega, s1, upd_same, trivial⟩, fun i m σ H3 hW => ?_⟩
    obtain ⟨y2, y3, ls, kvs, rfl, em, sm, hd, g⟩ := hW
    have hA : SqL K H3 a (ns.map V.int) := .inl (hS sm)
    have nD : ∀ {T : Addr}, H3 T = none → T ≠ d := fun {T} n z => by subst z; rw [hd] at n; cases n
    by_cases hi : i < ns.length
    · have gi : (ns.map V.int)[i]? = some (.int ns[i]) := by
        rw [List.getElem?_map, List.getElem?_eq_getElem hi]
        rfl
      refine .inr ⟨⟨_, _, hA, gi⟩, fun σ' H' => ∃ y2 y3 ls kvs, σ' = [some (.ref a), some (.ref d), y2, y3] ∧ Same H H' ∧ H' d = some (.dK kvs) ∧ GR H H' d (grpFrom 0 (ns.take (i + 1)) []) ls kvs, fun σ' H' hN => ?_, fun v H' hy => ?_⟩
      · obtain ⟨z2, z3, ls', kvs', e, sm', hd', g'⟩ := hN
        exact ⟨m - 1, by omega, z2, z3, ls', kvs', e, by omega, sm', hd', g'⟩
      · obtain ⟨T, vx, rfl, nT, rfl, fx⟩ := hy
        have ev : vx = .int ns[i] := Option.some.inj ((fx _ hA).symm.trans gi)
        subst ev
        have sT : Same H3 (upd H3 T (.tup [.int (i : Nat), .int ns[i]])) := upd_Same nT
        have smT : Same H (upd H3 T (.tup [.int (i : Nat), .int ns[i]])) := sm.trans sT
        have hdT : (upd H3 T (.tup [.int (i : Nat), .int ns[i]])) d = some (.dK kvs) := sT _ _ hd
        have gT : GR H (upd H3 T (.tup [.int (i : Nat), .int ns[i]])) d (grpFrom 0 (ns.take i) []) ls kvs := g.mono fun l hl => by
          obtain ⟨_, _, o, e⟩ := g.some l hl
          exact (e.trans (sT _ _ e).symm)
        have et : grpFrom 0 (ns.take (i + 1)) [] = addG ns[i] i (grpFrom 0 (ns.take i) []) := by
          rw [List.take_succ_eq_append_getElem hi, grpFrom_snoc, List.length_take, Nat.min_eq_left (Nat.le_of_lt hi), Nat.zero_add]
        have bd : Bd i (grpFrom 0 (ns.take i) []) := by
          have := Bd.grp (l := ns.take i) (s := 0) (n := 0) (acc := []) ⟨Nat.le_refl _, fun p hp => by cases hp⟩
          rw [List.length_take, Nat.min_eq_left (Nat.le_of_lt hi), Nat.zero_add] at this
          exact this
        rw [et]
        generalize grpFrom 0 (ns.take i) [] = acc at gT bd
        have hK : SqT K (upd H3 T (.tup [.int (i : Nat), .int ns[i]])) T [.int (i : Nat), .int ns[i]] := .inl (.inl upd_same)
        generalize (upd H3 T (.tup [.int (i : Nat), .int ns[i]])) = HT at smT hdT gT hK
        refine ⟨T, [.int (i : Nat), .int ns[i]], rfl, hK, rfl, .int (i : Nat), [.int ns[i]], rfl, .int ns[i], [], rfl, rfl, ?_⟩
        -- found[kind].append(thing)
        have step2 : ∀ (H5 : Hp) (acc5 : List (Int × List Nat)) (ls5 : List Addr) (kvs5 : List (Key × V)), Same H H5 → H5 d = some (.dK kvs5) → GR H H5 d acc5 ls5 kvs5 → hasG ns[i] acc5 = true → (∀ p ∈ acc5, p.2.length ≤ i) → addG ns[i] i acc5 = addG ns[i] i acc →
            tDrop (tBM K "list" rAppend (tDGet (tVar 1) (tVar 3)) (tCons (tVar 2) tNil)) { nx := fun σ' H' => ∃ y2 y3 ls kvs, σ' = [some (V.ref a), some (.ref d), y2, y3] ∧ Same H H' ∧ H' d = some (.dK kvs) ∧ GR H H' d (addG ns[i] i acc) ls kvs, rt := Q, bk := fun σ' H' => True, ct := fun σ' H' => True } [some (.ref a), some (.ref d), some (.int (i : Nat)), some (.int ns[i])] H5 := fun H5 acc5 ls5 kvs5 s5 d5 g5 h5 b5 ea => by
          rcases g5.val (k := ns[i]) with ⟨z, _⟩ | ⟨_, l, ms, ml, ⟨p, mp, pe⟩, vl, hl, gg⟩
          · rw [h5] at z; cases z
          · refine ⟨.ref d, rfl, .int ns[i], rfl, d, .ref l, rfl, .inl ⟨kvs5, .inl ns[i], .inl d5, rfl, vl.symm⟩, .inl ⟨rfl, _, .inl (.inl hl)⟩, .int (i : Nat), rfl, l, natsV ms, .int (i : Nat), rfl, rfl, hl, ?_, ?_⟩
            · have := b5 p mp
              rw [pe] at this
              unfold natsV
              rw [List.length_map, sizeLine_eq]
              omega
            · obtain ⟨n0, ld, _⟩ := g5.some l ml
              refine ⟨_, _, ls5, kvs5, rfl, fun b o e => ?_, ?_, ?_⟩
              · rw [upd_ne (fun z => by subst z; rw [n0] at e; cases e)]
                exact s5 _ _ e
              · rw [upd_ne (Ne.symm ld)]
                exact d5
              · have := gg i
                rw [ea] at this
                unfold natsV at this ⊢
                rw [List.map_append] at this
                exact this
        rcases gT.val (k := ns[i]) with ⟨z1, z2⟩ | ⟨z1, _, _, _, _, z2, _⟩
        · -- not there yet
          refine ⟨.int ns[i], rfl, .ref d, rfl, d, _, rfl, .inl ⟨kvs, .inl ns[i], .inl hdT, rfl, rfl⟩, true, by rw [z2]; rfl, iteT ?_⟩
          refine ⟨Nat.zero_le _, fun l nl => ?_⟩
          have ld : l ≠ d := fun z => by subst z; rw [hdT] at nl; cases nl
          have d6 : (upd HT l (.lst [])) d = some (.dK kvs) := by rw [upd_ne (Ne.symm ld)]; exact hdT
          refine ⟨.ref d, rfl, .int ns[i], rfl, d, _, rfl, DPut.k (k := .inl ns[i]) d6 (by rw [(gT.len).1, sizeLine_eq]; have := bd.1; omega), ?_⟩
          rw [putK_new _ z2]
          have l0 : H l = none := smT.free nl
          have lls : l ∉ ls := fun z => by
            obtain ⟨_, _, o, e⟩ := gT.some l z
            rw [nl] at e
            cases e
          have hll : (upd (upd HT l (.lst [])) d (.dK (kvs ++ [(.inl ns[i], .ref l)]))) l = some (.lst []) := by rw [upd_ne ld, upd_same]
          refine step2 _ (acc ++ [(ns[i], [])]) (ls ++ [l]) (kvs ++ [(.inl ns[i], .ref l)]) (fun b o e => ?_) upd_same (GR.snoc l0 ld hll lls (gT.mono fun m hm => ?_)) hasG_snoc (fun p hp => ?_) (addG_snoc z1)
          · have n1 : b ≠ d := fun z => by subst z; rw [nd] at e; cases e
            have n2 : b ≠ l := fun z => by subst z; rw [l0] at e; cases e
            rw [upd_ne n1, upd_ne n2]
            exact smT _ _ e
          · obtain ⟨_, md, _⟩ := gT.some m hm
            rw [upd_ne md, upd_ne (fun z => lls (by rw [← z]; exact hm))]
          · rcases List.mem_append.mp hp with hp | hp
            · exact bd.2 p hp
            · rw [List.mem_singleton] at hp
              subst hp
              exact Nat.zero_le _
        · refine ⟨.int ns[i], rfl, .ref d, rfl, d, _, rfl, .inl ⟨kvs, .inl ns[i], .inl hdT, rfl, rfl⟩, false, by rw [z2]; rfl, iteF ?_⟩
          exact step2 HT acc ls kvs smT hdT gT z1 bd.2 rfl
    · refine .inl ⟨⟨_, hA, ?_⟩, ?_⟩
      · rw [List.length_map]; omega
      · have ei : ns.take i = ns := List.take_of_length_le (by omega)
        rw [ei] at g
        refine ⟨.ref d, rfl, d, kvs, rfl, hd, fun p np => ?_⟩
        rw [(g.len).2]
        exact grp_done I sm g np q
end DL
namespace DL
open PySem PySem.Spec PyProof.Rows L2
/-! ### _law_groups -/
theorem GR.snocN {H0 H : Hp} {d l : Addr} {k : Int} {ms : List Nat} (n0 : H0 l = none) (nd : l ≠ d) (hl : H l = Option.some (.lst (natsV ms))) : ∀ {acc : List (Int × List Nat)} {ls : List Addr} {kvs : List (Key × V)}, l ∉ ls → GR H0 H d acc ls kvs → GR H0 H d (acc ++ [(k, ms)]) (ls ++ [l]) (kvs ++ [(Sum.inl k, .ref l)])
  | [], [], [], _, _ => ⟨rfl, rfl, n0, nd, by simp, hl, trivial⟩
  | (k1, ns) :: acc, l1 :: ls, (k', v) :: kvs, nl, h => by
    obtain ⟨h1, h2, h3, h4, h5, h6, h7⟩ := h
    refine ⟨h1, h2, h3, h4, ?_, h6, GR.snocN n0 nd hl (fun z => nl (List.mem_cons_of_mem _ z)) h7⟩
    intro z
    rcases List.mem_append.mp z with z | z
    · exact h5 z
    · rw [List.mem_singleton] at z
      exact nl (by rw [← z]; exact List.mem_cons_self)
theorem addG_new {k : Int} {i : Nat} : ∀ {acc : List (Int × List Nat)}, hasG k acc = false → addG k i acc = acc ++ [(k, [i])]
  | [], _ => rfl
  | (k1, ns) :: acc, h => by
    have h' : ¬ k1 = k ∧ hasG k acc = false := by
      unfold hasG at h
      rw [List.any_cons, Bool.or_eq_false_iff] at h
      exact ⟨of_decide_eq_false h.1, h.2⟩
    have e2 : addG k i ((k1, ns) :: acc) = (k1, ns) :: addG k i acc := by simp [addG, h'.1]
    rw [e2, addG_new h'.2]
    rfl
def FP (ns : List Int) (acc : List (Int × List Nat)) : Prop := ∀ p ∈ acc, ∃ m r, p.2 = m :: r ∧ ns[m]? = some p.1
theorem FP.add {ns : List Int} {k : Int} {i : Nat} (hk : ns[i]? = some k) : ∀ {acc : List (Int × List Nat)}, FP ns acc → FP ns (addG k i acc)
  | [], _ => fun p hp => by
    simp [addG] at hp
    subst hp
    exact ⟨i, [], rfl, hk⟩
  | (k1, ms) :: acc, h => by
    have h1 := h _ List.mem_cons_self
    by_cases hx : k1 = k
    · have ea : addG k i ((k1, ms) :: acc) = (k1, ms ++ [i]) :: acc := by simp [addG, hx]
      rw [ea]
      intro p hp
      rcases List.mem_cons.mp hp with e | hp
      · subst e
        obtain ⟨m, r, e1, e2⟩ := h1
        exact ⟨m, r ++ [i], by show ms ++ [i] = _; rw [show ms = m :: r from e1]; rfl, e2⟩
      · exact h p (List.mem_cons_of_mem _ hp)
    · have ea : addG k i ((k1, ms) :: acc) = (k1, ms) :: addG k i acc := by simp [addG, hx]
      rw [ea]
      intro p hp
      rcases List.mem_cons.mp hp with e | hp
      · subst e; exact h1
      · exact FP.add hk (fun q hq => h q (List.mem_cons_of_mem _ hq)) p hp
def flt (k : Int) : List (Int × List Nat) → List Addr → List Addr
  | (k', _) :: acc, l :: ls => if k' = k then l :: flt k acc ls else flt k acc ls
  | _, _ => []
def fltD (k : Int) : List (Int × List Nat) → List D
  | [] => []
  | (k', ms) :: acc => if k' = k then natsD ms :: fltD k acc else fltD k acc
theorem flt_len (k : Int) : ∀ (acc : List (Int × List Nat)) (ls : List Addr), (flt k acc ls).length ≤ acc.length
  | [], _ => Nat.le_refl _
  | _ :: _, [] => Nat.zero_le _
  | (k', ms) :: acc, l :: ls => by
    have := flt_len k acc ls
    unfold flt
    split
    · rw [List.length_cons, List.length_cons]; omega
    · rw [List.length_cons]; omega
theorem flt_snoc (k : Int) {p : Int × List Nat} {l : Addr} : ∀ {acc : List (Int × List Nat)} {ls : List Addr}, acc.length = ls.length → flt k (acc ++ [p]) (ls ++ [l]) = flt k acc ls ++ (if p.1 = k then [l] else [])
  | [], [], _ => by
    obtain ⟨a, b⟩ := p
    show (if a = k then l :: [] else []) = _
    rfl
  | (k', ms) :: acc, m :: ls, e => by
    have ih := flt_snoc k (p := p) (l := l) (acc := acc) (ls := ls) (by simpa using e)
    show (if k' = k then m :: flt k (acc ++ [p]) (ls ++ [l]) else flt k (acc ++ [p]) (ls ++ [l])) = (if k' = k then m :: flt k acc ls else flt k acc ls) ++ _
    rw [ih]
    split <;> rfl
theorem GR.at {H0 H : Hp} {d : Addr} : ∀ {acc : List (Int × List Nat)} {ls : List Addr} {kvs : List (Key × V)}, GR H0 H d acc ls kvs → ∀ {j : Nat} {l : Addr}, ls[j]? = Option.some l → ∃ p, acc[j]? = Option.some p ∧ H l = Option.some (.lst (natsV p.2))
  | [], [], [], _, j, l, e => by simp at e
  | (k, ns) :: acc, m :: ls, (k', v) :: kvs, h, 0, l, e => by
    obtain ⟨h1, h2, h3, h4, h5, h6, h7⟩ := h
    simp at e
    subst e
    exact ⟨_, rfl, h6⟩
  | (k, ns) :: acc, m :: ls, (k', v) :: kvs, h, j + 1, l, e => by
    obtain ⟨h1, h2, h3, h4, h5, h6, h7⟩ := h
    obtain ⟨p, e1, e2⟩ := GR.at h7 (j := j) (l := l) (by simpa using e)
    exact ⟨p, by simpa using e1, e2⟩
theorem GR.ls {H0 H : Hp} {d : Addr} : ∀ {acc : List (Int × List Nat)} {ls : List Addr} {kvs : List (Key × V)}, GR H0 H d acc ls kvs → acc.length = ls.length
  | [], [], [], _ => rfl
  | (k, ns) :: acc, l :: ls, (k', v) :: kvs, h => by
    obtain ⟨h1, h2, h3, h4, h5, h6, h7⟩ := h
    rw [List.length_cons, List.length_cons, GR.ls h7]
/-- the first that fits, and its rewriting -/
theorem GR.flt {H0 H : Hp} {d : Addr} {k : Int} : ∀ {acc : List (Int × List Nat)} {ls : List Addr} {kvs : List (Key × V)}, GR H0 H d acc ls kvs →
    (hasG k acc = false ∧ DL.flt k acc ls = []) ∨ (∃ l r ns, DL.flt k acc ls = l :: r ∧ l ∈ ls ∧ (∃ p ∈ acc, p.2 = ns) ∧ H l = Option.some (.lst (natsV ns)) ∧ ∀ i, GR H0 (upd H l (.lst (natsV (ns ++ [i])))) d (addG k i acc) ls kvs)
  | [], [], [], _ => .inl ⟨rfl, rfl⟩
  | (k1, ns1) :: acc, l1 :: ls, (k', v) :: kvs, h => by
    obtain ⟨h1, h2, h3, h4, h5, h6, h7⟩ := h
    by_cases hk : k1 = k
    · refine .inr ⟨l1, DL.flt k acc ls, ns1, by simp [DL.flt, hk], List.mem_cons_self, ⟨_, List.mem_cons_self, rfl⟩, h6, fun i => ?_⟩
      have ea : addG k i ((k1, ns1) :: acc) = (k1, ns1 ++ [i]) :: acc := by simp [addG, hk]
      rw [ea]
      exact ⟨h1, h2, h3, h4, h5, upd_same, h7.mono fun l hl => (upd_ne fun z => h5 (by rw [← z]; exact hl)).symm⟩
    · have hh : hasG k ((k1, ns1) :: acc) = hasG k acc := by simp [hasG, hk]
      have hf : DL.flt k ((k1, ns1) :: acc) (l1 :: ls) = DL.flt k acc ls := by simp [DL.flt, hk]
      rw [hh, hf]
      rcases GR.flt (k := k) h7 with ⟨g1, g2⟩ | ⟨l, r, ns, g1, g2, ⟨p, gp, gq⟩, g4, g5⟩
      · exact .inl ⟨g1, g2⟩
      · refine .inr ⟨l, r, ns, g1, List.mem_cons_of_mem _ g2, ⟨p, List.mem_cons_of_mem _ gp, gq⟩, g4, fun i => ?_⟩
        have ea : addG k i ((k1, ns1) :: acc) = (k1, ns1) :: addG k i acc := by simp [addG, hk]
        rw [ea]
        have ne : l1 ≠ l := fun z => h5 (by rw [z]; exact g2)
        exact ⟨h1, h2, h3, h4, h5, by rw [upd_ne ne]; exact h6, g5 i⟩
theorem GR.fltRp {H0 H : Hp} {d : Addr} {k : Int} : ∀ {acc : List (Int × List Nat)} {ls : List Addr} {kvs : List (Key × V)}, GR H0 H d acc ls kvs → RpA H ((DL.flt k acc ls).map V.ref) (fltD k acc)
  | [], [], [], _ => .nil
  | (k1, ns1) :: acc, l1 :: ls, (k', v) :: kvs, h => by
    obtain ⟨h1, h2, h3, h4, h5, h6, h7⟩ := h
    have ih := GR.fltRp (k := k) h7
    by_cases hk : k1 = k
    · have e1 : DL.flt k ((k1, ns1) :: acc) (l1 :: ls) = l1 :: DL.flt k acc ls := by simp [DL.flt, hk]
      have e2 : fltD k ((k1, ns1) :: acc) = natsD ns1 :: fltD k acc := by simp [fltD, hk]
      rw [e1, e2]
      refine .cons (.lst (.inl h6) ?_) ih
      have := RpA.ints H (ns1.map fun i => ((i : Nat) : Int))
      rw [List.map_map, List.map_map] at this
      exact this
    · have e1 : DL.flt k ((k1, ns1) :: acc) (l1 :: ls) = DL.flt k acc ls := by simp [DL.flt, hk]
      have e2 : fltD k ((k1, ns1) :: acc) = fltD k acc := by simp [fltD, hk]
      rw [e1, e2]
      exact ih
theorem shaped_nats (ms : List Nat) : PyData.canLay0 (natsD ms) = true ∧ PyData.depth (natsD ms) ≤ 2 := by
  have e : natsD ms = .list ((ms.map fun i => ((i : Nat) : Int)).map PyData.int) := by unfold natsD; rw [List.map_map]; rfl
  rw [e]
  have h1 := PySem.W.depthAll_ints (ms.map fun i => ((i : Nat) : Int))
  refine ⟨by simp only [PyData.canLay0]; exact PySem.W.canLayAll0_ints _, by simp only [PyData.depth]; omega⟩
theorem shaped_natsAll : ∀ l : List (List Nat), PyData.canLayAll0 (l.map natsD) = true ∧ PyData.depthAll (l.map natsD) ≤ 2
  | [] => by simp [PyData.canLayAll0, PyData.depthAll]
  | m :: r => by
    obtain ⟨a1, a2⟩ := shaped_nats m
    obtain ⟨b1, b2⟩ := shaped_natsAll r
    simp only [List.map_cons, PyData.canLayAll0, PyData.depthAll, a1, b1, Bool.and_self, true_and]
    omega
theorem shaped_groups (l : List (List Nat)) : SeqAt.shaped (.list (l.map natsD)) = true := by
  obtain ⟨h1, h2⟩ := shaped_natsAll l
  show (PyData.canLay0 (.list (l.map natsD)) && decide (PyData.depth (.list (l.map natsD)) ≤ 64)) = true
  rw [Bool.and_eq_true]
  exact ⟨by simp only [PyData.canLay0]; exact h1, decide_eq_true (by simp only [PyData.depth]; omega)⟩
theorem fltD_map (k : Int) : ∀ acc : List (Int × List Nat), ∃ l : List (List Nat), fltD k acc = l.map natsD
  | [] => ⟨[], rfl⟩
  | (k', ms) :: acc => by
    obtain ⟨l, e⟩ := fltD_map k acc
    by_cases hk : k' = k
    · exact ⟨ms :: l, by simp [fltD, hk, e]⟩
    · exact ⟨l, by simp [fltD, hk, e]⟩
theorem grp_done2 {B : Hp} {pn : Nat → Option Addr} {b : Bool} {dd : D} {va : V} {F N G : Hp} {Rg : Nat → Hp} {H0 Hf : Hp} {d : Addr} {acc : List (Int × List Nat)} {ls : List Addr} {kvs : List (Key × V)} {Q : VK} (I : Ok B pn [.fro b dd] [some va] F N G Rg H0) (s : Same H0 Hf) (g : GR H0 Hf d acc ls kvs) (n0 : H0 d = none) (hd : Hf d = some (.lst (ls.map V.ref)))
    (k : ∀ v F' N' Rg' H' R, Ok B pn (outEnv [none]) ([va].map some) F' N' G Rg' H' → Same F F' → Same N N' → TokOk B [] F' N' R (.nw true (acc.map fun p => natsD p.2)) v → Apart F' G Rg' H' R → dj H0 R → Q v H') : Q (.ref d) Hf := by
  have ql : d ∉ ls := fun z => (g.some d z).2.1 rfl
  have I1 : Ok B pn [.un] [some va] F N G (setR Rg 0 emp) Hf := (I.off (i := 0) (by simp)).grow s
  have hR : ∀ a o, lsR Hf ls a = some o → H0 a = none := fun a o e => (g.some a (lsR_some e).1).1
  have hdj : ∀ {Y : Hp}, Same Y H0 → dj Y (lsR Hf ls) := fun {Y} sY a o e => sY.free (hR a o e)
  have A : Apart F G (setR Rg 0 emp) Hf (lsR Hf ls) := ⟨fun a o e => (lsR_some e).2, hdj I.sF, hdj I.sG, fun i => by
    by_cases hi : i = 0
    · subst hi; rw [setR_same]; exact emp_dj _
    · rw [setR_ne hi]; exact hdj (I.sR i)⟩
  have hN := I1.djN A
  have I2 := I1.frzN A (fun a o e => I.hB a (hR a o e)) (fun a ob u e => by
    obtain ⟨m, e⟩ := lsR_some e
    obtain ⟨_, _, o, e2⟩ := g.some a m
    rw [e] at e2
    cases e2)
  have nR : lsR Hf ls d = none := by unfold lsR; rw [if_neg ql]
  refine k (.ref d) _ _ _ _ (sgl d (.lst (ls.map V.ref))) I2 (jn_left A.dF) (jn_left hN) ⟨d, ls.map V.ref, rfl, rfl, ?_, I.hB d n0⟩ ⟨sgl_same_iff hd, dj_sgl (jn_none_of nR (I.sF.free n0)), dj_sgl (I.sG.free n0), fun i => ?_⟩ (dj_sgl n0)
  · exact g.rp fun l hl o e => jn_right _ _ (by unfold lsR; rw [if_pos hl]; exact e)
  · by_cases hi : i = 0
    · subst hi; rw [setR_same]; exact emp_dj _
    · rw [setR_ne hi]; exact dj_sgl ((I.sR i).free n0)
def tLen0 (K : PySem.W.Frag) : TE := tCB (fun xs H Q => ∃ p ys, xs = [V.ref p] ∧ (SqL K H p ys ∨ SqT K H p ys) ∧ Q (.int ys.length) H) (tCons (tVar 0) tNil)
def tGroups (K : PySem.W.Frag) : TS :=
  tSeq (tAsg (tLst tNil) (gName 1)) (tSeq (tFor (iRng1 (tCons (tLen0 K) tNil)) (gName 2)
    (tSeq (tAsg (tLc (iList K (tVar 1)) (gName 4) (tTest (tOp rEq (tOp (rIxL K) (tVar 0) (tOp (rIxL K) (tVar 4) (tC (.int 0)))) (tOp (rIxL K) (tVar 0) (tVar 2)))) (tVar 4) [4]) (gName 3))
      (tIfS (tTest (tOp (rEqD K) (tVar 3) (tLst tNil)))
        (tDrop (tBM K "list" rAppend (tVar 1) (tCons (tLst (tCons (tVar 2) tNil)) tNil)))
        (tDrop (tBM K "list" rAppend (tOp (rIxL K) (tVar 3) (tC (.int 0))) (tCons (tVar 2) tNil))))))
    (tRet (tVar 1)))
theorem atI_natsV {m : Nat} {r : List Nat} : atI (natsV (m :: r)) 0 = some (V.int (m : Nat)) := atI_nat (j := 0) rfl
theorem groups_ok {P : Program} {w : World} {K : PySem.W.Frag} {mg : Str → Option Value} {base : Heap} {cm : String → Addr} {x qual : Str} {st : Stmt} {f : Addr} {fd : FuncData} {k : Nat} (F : Fun K x qual st f fd) (S : FnScope ["kinds", "found", "thing", "own", "group"] ["kinds"] (defScope st))
    (hb : ∀ (cdv : Value) (A : Around) (outer : List PySem.Env) (s0 : Shared) (H : Hp) (E : XK), Room k (A.deeper (envOfC qual (defScope st) s0.heap.objs.size f cdv)) →
      PSs (cxOf (L2.CX P w) P w K mg base ["kinds", "found", "thing", "own", "group"] qual (defScope st) f cdv A outer s0 H E) (defBody st) (tGroups K)) :
    FnOk P w K mg base (L2.CX P w) (k + 1) f fd ["kinds"] (spD cm fnGrp) := by
  refine F.okX S (fun vs H Q E h => ?_) (fun cdv A outer s0 H vs Q E hr h => ⟨_, hb cdv A outer s0 H E hr, ?_⟩)
  · obtain ⟨B, pn, F, N, G, Rg, b, ns, a, rfl, _⟩ := fnGrp_inv h
    rfl
  · obtain ⟨B, pn, F, N, G, Rg, b, ns, a, rfl, hn, I, hS, q⟩ := fnGrp_inv h
    refine ⟨Nat.zero_le _, fun d nd => ?_⟩
    have s1 : Same H (upd H d (.lst [])) := upd_Same nd
    refine ⟨.ref a, rfl, a, ns.map V.int, rfl, .inl (.inl (hS s1)), ((ns.map V.int).length : Int), rfl, by omega, by rw [List.length_map]; omega, ?_⟩
    refine ⟨fun i m σ H3 => ∃ y2 y3 y4 ls kvs, σ = [some (.ref a), some (.ref d), y2, y3, y4] ∧ i + m = ns.length ∧ Same H H3 ∧ H3 d = some (.lst (ls.map V.ref)) ∧ GR H H3 d (grpFrom 0 (ns.take i) []) ls kvs ∧ FP ns (grpFrom 0 (ns.take i) []),
      ⟨ns.length, none, none, none, [], [], rfl, by omega, s1, upd_same, trivial, fun p hp => by cases hp⟩, fun i m σ H3 hW => ?_⟩
    obtain ⟨y2, y3, y4, ls, kvs, rfl, em, sm, hd, g, fp⟩ := hW
    by_cases hi : i < ns.length
    · refine .inr ⟨by show i < ((ns.map V.int).length : Int).toNat; rw [List.length_map]; omega, fun σ' H' => ∃ y2 y3 y4 ls kvs, σ' = [some (.ref a), some (.ref d), y2, y3, y4] ∧ Same H H' ∧ H' d = some (.lst (ls.map V.ref)) ∧ GR H H' d (grpFrom 0 (ns.take (i + 1)) []) ls kvs ∧ FP ns (grpFrom 0 (ns.take (i + 1)) []), fun σ' H' hN => ?_, fun v H' hy => ?_⟩
      · obtain ⟨z2, z3, z4, ls', kvs', e, sm', hd', g', fp'⟩ := hN
        exact ⟨m - 1, by omega, z2, z3, z4, ls', kvs', e, by omega, sm', hd', g', fp'⟩
      · obtain ⟨rfl, rfl⟩ := hy
        have gi : ns[i]? = some ns[i] := List.getElem?_eq_getElem hi
        have et : grpFrom 0 (ns.take (i + 1)) [] = addG ns[i] i (grpFrom 0 (ns.take i) []) := by
          rw [List.take_succ_eq_append_getElem hi, grpFrom_snoc, List.length_take, Nat.min_eq_left (Nat.le_of_lt hi), Nat.zero_add]
        have bd : Bd i (grpFrom 0 (ns.take i) []) := by
          have := Bd.grp (l := ns.take i) (s := 0) (n := 0) (acc := []) ⟨Nat.le_refl _, fun p hp => by cases hp⟩
          rw [List.length_take, Nat.min_eq_left (Nat.le_of_lt hi), Nat.zero_add] at this
          exact this
        rw [et]
        have fp2 := fp.add gi
        generalize grpFrom 0 (ns.take i) [] = acc at g bd fp fp2
        have e0 : (0 : Int) + (i : Nat) = (i : Nat) := Int.zero_add _
        rw [e0]
        -- own = [..]
        refine ⟨.ref d, rfl, d, rfl, ⟨_, .inl (.inl hd)⟩, fun D nD => ?_⟩
        have Dd : D ≠ d := fun z => by subst z; rw [hd] at nD; cases nD
        have Dl : D ∉ ls := fun z => by
          obtain ⟨_, _, o, e⟩ := g.some D z
          rw [nD] at e
          cases e
        have D0 : H D = none := sm.free nD
        refine lc_list (a := d) (xs := ls.map V.ref) (fun j Hc => Hc D = some (.lst ((DL.flt ns[i] (acc.take j) (ls.take j)).map V.ref)) ∧ ∀ b, b ≠ D → Hc b = H' b) ⟨upd_same, fun b hb => upd_ne hb⟩ (fun j Hc hj hc => .inl (.inl (by rw [hc.2 d (Ne.symm Dd)]; exact hd))) (fun j vx Hc ej hc => ?_) (fun Hc hc => ?_)
        · obtain ⟨c1, c2⟩ := hc
          rw [List.getElem?_map] at ej
          cases el : ls[j]? with
          | none => rw [el] at ej; cases ej
          | some l =>
            rw [el] at ej
            cases ej
            obtain ⟨p, ep, hl⟩ := g.at el
            have lD : l ≠ D := fun z => Dl (by rw [← z]; exact List.mem_of_getElem? el)
            obtain ⟨m0, r0, e1, e2⟩ := fp p (List.mem_of_getElem? ep)
            have hl' : Hc l = some (.lst (natsV (m0 :: r0))) := by rw [c2 l lD, ← e1]; exact hl
            have hA : SqL K Hc a (ns.map V.int) := .inl (hS fun b o e => by
              rw [c2 b (fun z => by subst z; rw [D0] at e; cases e)]
              exact sm _ _ e)
            have sn : DL.flt ns[i] (acc.take (j + 1)) (ls.take (j + 1)) = DL.flt ns[i] (acc.take j) (ls.take j) ++ (if p.1 = ns[i] then [l] else []) := by
              have ha : acc.take (j + 1) = acc.take j ++ [p] := by rw [List.take_add_one, ep]; rfl
              have hl2 : ls.take (j + 1) = ls.take j ++ [l] := by rw [List.take_add_one, el]; rfl
              rw [ha, hl2]
              exact flt_snoc _ (by rw [List.length_take, List.length_take, g.ls])
            refine ⟨rfl, .ref a, rfl, .ref l, rfl, l, _, 0, _, rfl, rfl, .inl (.inl hl'), atI_natsV, a, _, (m0 : Nat), .int p.1, rfl, rfl, hA, atI_nat (by rw [List.getElem?_map, e2]; rfl), .ref a, rfl, .int (i : Nat), rfl, a, _, (i : Nat), .int ns[i], rfl, rfl, hA, atI_nat (by rw [List.getElem?_map, gi]; rfl), rfl, _, rfl, ?_⟩
            by_cases hk : p.1 = ns[i]
            · have : decide (V.int p.1 = V.int ns[i]) = true := by rw [hk]; exact decide_eq_true rfl
              rw [this]
              refine iteT ⟨.ref l, rfl, _, c1, ?_, upd_same.trans ?_, fun b hb => (upd_ne hb).trans (c2 b hb)⟩
              · have f1 := flt_len ns[i] (acc.take j) (ls.take j)
                have f2 := bd.1
                rw [List.length_take] at f1
                rw [List.length_map, sizeLine_eq]
                omega
              · rw [sn, if_pos hk, List.map_append]
                rfl
            · have : decide (V.int p.1 = V.int ns[i]) = false := decide_eq_false fun z => hk (V.int.inj z)
              rw [this]
              exact iteF ⟨by rw [sn, if_neg hk, List.append_nil]; exact c1, c2⟩
        · obtain ⟨c1, c2⟩ := hc
          rw [List.length_map, List.take_of_length_le (Nat.le_refl _), List.take_of_length_le (by rw [g.ls]; exact Nat.le_refl _)] at c1
          have gc : GR H Hc d acc ls kvs := g.mono fun l hl => (c2 l (fun z => Dl (by rw [← z]; exact hl))).symm
          have smc : Same H Hc := fun b o e => by
            rw [c2 b (fun z => by subst z; rw [D0] at e; cases e)]
            exact sm _ _ e
          have hdc : Hc d = some (.lst (ls.map V.ref)) := by rw [c2 d (Ne.symm Dd)]; exact hd
          -- own == []
          refine ⟨.ref D, rfl, Nat.zero_le _, fun e0 ne => ?_⟩
          have se : Same Hc (upd Hc e0 (.lst [])) := upd_Same ne
          have ed : e0 ≠ d := fun z => by subst z; rw [hdc] at ne; cases ne
          have eD : e0 ≠ D := fun z => by subst z; rw [c1] at ne; cases ne
          have ge : GR H (upd Hc e0 (.lst [])) d acc ls kvs := gc.mono fun l hl => by
            obtain ⟨_, _, o, e⟩ := gc.some l hl
            exact e.trans (se _ _ e).symm
          have hde := se _ _ hdc
          have c1e := se _ _ c1
          have sme : Same H (upd Hc e0 (.lst [])) := smc.trans se
          have hee : (upd Hc e0 (.lst [])) e0 = some (.lst []) := upd_same
          generalize (upd Hc e0 (.lst [])) = He at ge hde c1e sme hee
          obtain ⟨fl, efl⟩ := fltD_map ns[i] acc
          have rpd : Rp He (.ref D) (.list (fl.map natsD)) := .lst (.inl c1e) (by rw [← efl]; exact ge.fltRp)
          have rpe : Rp He (.ref e0) (.list []) := .lst (.inl hee) .nil
          refine ⟨_, _, rpd.dp (Same.refl _), rpe.dp (Same.refl _), shaped_groups fl, by decide +kernel, ?_⟩
          rcases ge.flt (k := ns[i]) with ⟨h0, z⟩ | ⟨l, r, ms, z, ml, ⟨p, mp, pe⟩, hl, gg⟩
          · have fz : fl = [] := by
              have := ge.fltRp (k := ns[i])
              rw [z, efl] at this
              cases fl with
              | nil => rfl
              | cons _ _ => cases this
            subst fz
            refine ⟨true, rfl, iteT ?_⟩
            refine ⟨.ref d, rfl, .inl ⟨rfl, _, .inl (.inl hde)⟩, .int (i : Nat), rfl, by show 1 ≤ sizeLine; decide, fun l nl => ?_⟩
            have sl : Same He (upd He l (.lst [V.int (i : Nat)])) := upd_Same nl
            have ld : l ≠ d := fun z => by subst z; rw [hde] at nl; cases nl
            have l0 : H l = none := sme.free nl
            have lls : l ∉ ls := fun z => by
              obtain ⟨_, _, o, e⟩ := ge.some l z
              rw [nl] at e
              cases e
            refine ⟨d, _, .ref l, rfl, rfl, sl _ _ hde, ?_, ?_⟩
            · have f2 := bd.1
              rw [List.length_map, sizeLine_eq, ← ge.ls]
              omega
            · refine ⟨_, _, _, ls ++ [l], kvs ++ [(.inl ns[i], .ref l)], rfl, fun b o e => ?_, ?_, ?_, fp2⟩
              · rw [upd_ne (fun z => by subst z; rw [nd] at e; cases e)]
                exact sl _ _ (sme _ _ e)
              · rw [upd_same, List.map_append]; rfl
              · rw [addG_new h0]
                refine GR.snocN l0 ld (by rw [upd_ne ld, upd_same]; rfl) lls (ge.mono fun m hm => ?_)
                obtain ⟨_, md, o, e⟩ := ge.some m hm
                rw [upd_ne md, e]
                exact (sl _ _ e).symm
          · have fz : ∃ y ys, fl = y :: ys := by
              have := ge.fltRp (k := ns[i])
              rw [z, efl] at this
              cases fl with
              | nil => cases this
              | cons y ys => exact ⟨y, ys, rfl⟩
            obtain ⟨y, ys, rfl⟩ := fz
            refine ⟨false, rfl, iteF ?_⟩
            rw [z] at c1e
            refine ⟨.ref D, rfl, D, _, 0, .ref l, rfl, rfl, .inl (.inl c1e), atI_nat (j := 0) rfl, .inl ⟨rfl, _, .inl (.inl hl)⟩, .int (i : Nat), rfl, l, natsV ms, .int (i : Nat), rfl, rfl, hl, ?_, ?_⟩
            · have := bd.2 p mp
              rw [pe] at this
              unfold natsV
              rw [List.length_map, sizeLine_eq]
              omega
            · obtain ⟨n0, ld, _⟩ := ge.some l ml
              refine ⟨_, _, _, ls, kvs, rfl, fun b o e => ?_, ?_, ?_, fp2⟩
              · rw [upd_ne (fun z => by subst z; rw [n0] at e; cases e)]
                exact sme _ _ e
              · rw [upd_ne (Ne.symm ld)]
                exact hde
              · have := gg i
                unfold natsV at this ⊢
                rw [List.map_append] at this
                exact this
    · refine .inl ⟨by show ((ns.map V.int).length : Int).toNat ≤ i; rw [List.length_map]; omega, ?_⟩
      have ei : ns.take i = ns := List.take_of_length_le (by omega)
      rw [ei] at g
      exact ⟨.ref d, rfl, grp_done2 I sm g nd hd q⟩
end DL
namespace DL
open PySem PySem.Spec PyProof.Rows L2
/-! ### running the semantics, plain -/
theorem seq_nx {a b : DS} {env e : Env} (h : a env = .nx e) : sSeq a b env = b e := by unfold sSeq; rw [h]
theorem seq_rt {a b : DS} {env e : Env} {t : Tok} (h : a env = .rt t e) : sSeq a b env = .rt t e := by unfold sSeq; rw [h]
theorem if_t {c : DT} {a b : DS} {env e : Env} (h : c env = .ok true e) : sIf c a b env = a e := by unfold sIf; rw [h]
theorem if_f {c : DT} {a b : DS} {env e : Env} (h : c env = .ok false e) : sIf c a b env = b e := by unfold sIf; rw [h]
/-- a comprehension whose turns leave the names as they are -/
theorem compL_map {own : List Nat} {t : Tg} {tt : DT} {el : DE} {b : Bool} {env : Env} {h : D → Option (Bool × D)} : ∀ {ds : List D} {acc : List (Bool × D)},
    (∀ d ∈ ds, ∃ e1 e2 c, bind1 t b d env = some e1 ∧ tt e1 = .ok c e2 ∧ ((c = false ∧ h d = none ∧ wipeE e2 own = env) ∨ (c = true ∧ ∃ tk e3 q e4, el e2 = .ok tk e3 ∧ take e3 tk = some (q.1, q.2, e4) ∧ h d = some q ∧ wipeE e4 own = env))) →
    compL own t tt el b ds acc env = .ok (acc ++ ds.filterMap h) env
  | [], acc, _ => by simp [compL]
  | d :: ds, acc, H => by
    obtain ⟨e1, e2, c, h1, h2, h3⟩ := H d List.mem_cons_self
    have ih := fun acc => compL_map (acc := acc) fun d hd => H d (List.mem_cons_of_mem _ hd)
    rcases h3 with ⟨rfl, h4, h5⟩ | ⟨rfl, tk, e3, q, e4, h4, h5, h6, h7⟩
    · simp only [compL, h1, h2, h5, ih]
      rw [List.filterMap_cons_none h4]
    · simp only [compL, h1, h2, h4, h5, h7, ih]
      rw [List.filterMap_cons_some h6, List.append_assoc]
      rfl
/-- a comprehension whose turns keep an invariant (it knows how many turns are left) -/
theorem compL_inv {own : List Nat} {t : Tg} {tt : DT} {el : DE} {b : Bool} {I : Nat → Env → Prop} {P : Bool × D → Prop} : ∀ {ds : List D} {acc : List (Bool × D)} {env : Env}, I ds.length env →
    (∀ d ∈ ds, ∀ k env, I (k + 1) env → ∃ e1 e2 tk e3 q e4, bind1 t b d env = some e1 ∧ tt e1 = .ok true e2 ∧ el e2 = .ok tk e3 ∧ take e3 tk = some (q.1, q.2, e4) ∧ P q ∧ I k (wipeE e4 own)) →
    ∃ ps e', compL own t tt el b ds acc env = .ok (acc ++ ps) e' ∧ (∀ p ∈ ps, P p) ∧ ps.length = ds.length ∧ I 0 e'
  | [], acc, env, i, _ => ⟨[], env, by simp [compL], (fun p hp => by cases hp), rfl, i⟩
  | d :: ds, acc, env, i, H => by
    obtain ⟨e1, e2, tk, e3, q, e4, h1, h2, h4, h5, h6, h7⟩ := H d List.mem_cons_self ds.length env i
    obtain ⟨ps, e', g1, g2, g3, g4⟩ := compL_inv (acc := acc ++ [q]) h7 fun d hd => H d (List.mem_cons_of_mem _ hd)
    refine ⟨q :: ps, e', ?_, fun p hp => ?_, by rw [List.length_cons, List.length_cons, g3], g4⟩
    · simp only [compL, h1, h2, h4, h5]
      rw [show ((q.1, q.2) : Bool × D) = q from rfl, g1, List.append_assoc]
      rfl
    · rcases List.mem_cons.mp hp with e | hp
      · subst e; exact h6
      · exact g2 p hp
/-- a loop that keeps an invariant, through its end -/
theorem forL_inv {t : Tg} {body : DS} {b : Bool} {I : Env → Prop} : ∀ {ds : List D} {env : Env}, I env →
    (∀ d ∈ ds, ∀ env, I env → ∃ e1, bind1 t b d env = some e1 ∧ ((∃ e2, body e1 = .nx e2 ∧ I e2) ∨ (∃ e2, body e1 = .ct e2 ∧ I e2))) →
    ∃ e', forL t body b ds env = .nx e' ∧ I e'
  | [], env, i, _ => ⟨env, by simp [forL], i⟩
  | d :: ds, env, i, H => by
    obtain ⟨e1, h1, h2⟩ := H d List.mem_cons_self env i
    rcases h2 with ⟨e2, h2, i2⟩ | ⟨e2, h2, i2⟩
    · obtain ⟨e', g1, g2⟩ := forL_inv i2 fun d hd => H d (List.mem_cons_of_mem _ hd)
      exact ⟨e', by simp only [forL, h1, h2, g1], g2⟩
    · obtain ⟨e', g1, g2⟩ := forL_inv i2 fun d hd => H d (List.mem_cons_of_mem _ hd)
      exact ⟨e', by simp only [forL, h1, h2, g1], g2⟩
theorem tagAll_true {ps : List (Bool × D)} (h : ∀ p ∈ ps, p.1 = true) : tagAll ps = true := by
  induction ps with
  | nil => rfl
  | cons p r ih =>
    obtain ⟨b, d⟩ := p
    have : b = true := h (b, d) List.mem_cons_self
    subst this
    exact ih fun p hp => h p (List.mem_cons_of_mem _ hp)
def isInt : D → Bool
  | .int _ => true
  | _ => false
theorem ints_of {ds : List D} (h : ∀ d ∈ ds, isInt d = true) : ∃ ns : List Int, ds = ns.map PyData.int := by
  induction ds with
  | nil => exact ⟨[], rfl⟩
  | cons d r ih =>
    obtain ⟨ns, e⟩ := ih fun d hd => h d (List.mem_cons_of_mem _ hd)
    have hd := h d List.mem_cons_self
    cases d with
    | int i => exact ⟨i :: ns, by rw [e]; rfl⟩
    | _ => cases hd
theorem runFn_rt {np n : Nat} {s : DS} {args : List Arg} {t t' : Tok} {e : Env} {l : List (Option (Bool × List D))} (hl : args.length = np) (hs : s (argEnv args ++ List.replicate (n - np) .un) = .rt t e) (ht : resTok e t = some t') (ho : outsOf e args 0 = some l) : runFn np n s args = .ok t' l := by
  unfold runFn
  rw [decide_eq_true hl]
  simp only [hs, ht, ho]
theorem runFn_nx {np n : Nat} {s : DS} {args : List Arg} {e : Env} {l : List (Option (Bool × List D))} (hl : args.length = np) (hs : s (argEnv args ++ List.replicate (n - np) .un) = .nx e) (ho : outsOf e args 0 = some l) : runFn np n s args = .ok (.fz true .none) l := by
  unfold runFn
  rw [decide_eq_true hl]
  simp only [hs, ho]
theorem runFn_exc {np n : Nat} {s : DS} {args : List Arg} {e : Env} {c : String} (hl : args.length = np) (hs : s (argEnv args ++ List.replicate (n - np) .un) = .exc c e) : runFn np n s args = .exc c := by
  unfold runFn
  rw [decide_eq_true hl]
  simp only [hs]
theorem fits_of {n : Nat} (h : n ≤ 16777216) : fits n = true := decide_eq_true h
theorem smallI_of {i : Int} (h1 : -(2 ^ 62) ≤ i) (h2 : i < 2 ^ 62) : smallI i = true := by
  unfold smallI
  rw [Bool.and_eq_true]
  exact ⟨decide_eq_true h1, decide_eq_true h2⟩
theorem scal_ints (ns : List Int) : (ns.map PyData.int).all scal = true := by
  induction ns with
  | nil => rfl
  | cons n r ih => rw [List.map_cons, List.all_cons, ih]; rfl
theorem atI_ints {ns : List Int} {i : Int} (h0 : 0 ≤ i) (h1 : i < ns.length) : ∃ n, atI (ns.map PyData.int) i = some (.int n) := by
  obtain ⟨k, rfl⟩ := Int.eq_ofNat_of_zero_le h0
  have hk : k < ns.length := by omega
  exact ⟨ns[k], atI_nat (by rw [List.getElem?_map, List.getElem?_eq_getElem hk]; rfl)⟩
theorem eqv_refl_ints (ns : List Int) : PyData.eqvAll (ns.map PyData.int) (ns.map PyData.int) = true := by
  induction ns with
  | nil => rfl
  | cons n r ih => simp [PyData.eqvAll, PyData.eqv, ih]
end DL
namespace Lb
open PySem PySem.Spec PyProof.Rows L2 DL
def fn_by_kind : Fn := fnGrp
def d_more_than_half : DS :=
  sSeq (sFor (.nm 1) (iSeq (dAp (opCallX [false] fn_by_kind) [eVar 0])) (sIf (dVal (dAp (opSc dGt) [dAp (opEl dMul) [eC (.int 2), dAp (opSc dLen) [eVar 1]], dAp (opSc dLen) [eVar 0]])) (sRet (eVar 1)) (sNop))) (sRet (dAp (opTk dList) []))
def fn_more_than_half : Fn := runFn 1 2 d_more_than_half
def d_law_pot : DS :=
  sRet (dAp (opTk dList) [dAp (opSc dMax2) [eC (.int 0), dAp (opSc dSub) [eVar 0, dAp (opSc dPow) [eC (.int 10), eC (.int 18)]]], dAp (opSc dMod) [eVar 0, eC (.int 99999999977)], eC (.int 0)])
def fn_law_pot : Fn := runFn 1 1 d_law_pot
def d_law_take : DS :=
  sSeq (sIf (dVal (dAp (opSc dGt) [dAp (opEl dIdx) [eVar 0, eC (.int 0)], eC (.int 0)])) (sSeq (sSet 2 (dAp (opSc dMod) [dAp (opEl dIdx) [eVar 0, eC (.int 0)], eVar 1])) (sSeq (sSetIx 0 (dAp (opSc dDiv) [dAp (opEl dIdx) [eVar 0, eC (.int 0)], eVar 1]) (eC (.int 0))) (sRet (eVar 2)))) (sNop)) (sSeq (sSetIx 0 (dAp (opEl dAdd) [dAp (opEl dIdx) [eVar 0, eC (.int 2)], eC (.int 1)]) (eC (.int 2))) (sSeq (sSet 3 (dAp (opSc dMod) [dAp (opEl dAdd) [dAp (opEl dIdx) [eVar 0, eC (.int 1)], dAp (opEl dMul) [eC (.int 700001), dAp (opEl dIdx) [eVar 0, eC (.int 2)]]], eC (.int 99999999947)])) (sSeq (sSet 3 (dAp (opSc dMod) [dAp (opEl dMul) [eVar 3, eVar 3], eC (.int 99999999821)])) (sSeq (sSet 3 (dAp (opSc dMod) [dAp (opEl dMul) [eVar 3, dAp (opEl dAdd) [eVar 3, eC (.int 19)]], eC (.int 9999999967)])) (sRet (dAp (opSc dMod) [dAp (opSc dDiv) [eVar 3, eC (.int 13)], eVar 1]))))))
def fn_law_take : Fn := runFn 2 4 d_law_take
def d_law_mixed : DS :=
  sSeq (sSet 2 (dAp (opEl dListOf) [eVar 1])) (sRet (eComp [3] (.nm 3) (iRange [dAp (opSc dLen) [eVar 1]]) (dYes) (eMut 2 mPopAt [dAp (opCallX [true, false] fn_law_take) [eVar 0, dAp (opSc dLen) [eVar 2]]])))
def fn_law_mixed : Fn := runFn 2 4 d_law_mixed
def d_law_kinds : DS :=
  sSeq (sSet 2 (dAp (opCallX [true, false] fn_law_take) [eVar 0, dAp (opEl dIdx) [dAp (opTk dList) [dAp (opSc dMin2) [eC (.int 8), dAp (opEl dAdd) [eVar 1, eC (.int 1)]], dAp (opSc dMin2) [eC (.int 40), dAp (opEl dAdd) [eVar 1, eC (.int 1)]], dAp (opEl dAdd) [eVar 1, eC (.int 1)]], dAp (opCallX [true, false] fn_law_take) [eVar 0, eC (.int 3)]]])) (sSeq (sSet 3 (dAp (opEl dIdx) [dAp (opTk dList) [eC (.int 1), eC (.int 1), dAp (opEl dAdd) [eC (.int 1), dAp (opCallX [true, false] fn_law_take) [eVar 0, eC (.int 1000)]]], dAp (opCallX [true, false] fn_law_take) [eVar 0, eC (.int 3)]])) (sSeq (sSet 4 (dAp (opEl dIdx) [dAp (opTk dList) [eC (.int 0), dAp (opSc dNeg) [eC (.int 3)], dAp (opSc dPow) [eC (.int 10), eC (.int 29)], dAp (opSc dSub) [eC (.int 0), dAp (opSc dPow) [eC (.int 10), eC (.int 29)]]], dAp (opCallX [true, false] fn_law_take) [eVar 0, eC (.int 4)]])) (sSeq (sSet 5 (eComp [10] (.nm 10) (iRange [dAp (opEl dAdd) [eC (.int 1), dAp (opCallX [true, false] fn_law_take) [eVar 0, dAp (opEl dIdx) [dAp (opTk dList) [eC (.int 2), eC (.int 3), eC (.int 9), eC (.int 200)], dAp (opCallX [true, false] fn_law_take) [eVar 0, eC (.int 4)]]]]]) (dYes) (dAp (opEl dAdd) [eVar 4, dAp (opEl dMul) [eVar 3, eVar 10]]))) (sSeq (sSet 6 (eComp [10] (.nm 10) (iRange [eVar 2]) (dYes) (dAp (opEl dIdx) [eVar 5, dAp (opCallX [true, false] fn_law_take) [eVar 0, dAp (opSc dLen) [eVar 5]]]))) (sSeq (sSet 7 (dAp (opCallX [true, false] fn_law_take) [eVar 0, eC (.int 6)])) (sSeq (sIf (dVal (dAp (opSc dEq) [eVar 7, eC (.int 1)])) (sSet 6 (dAp (opEl dSorted) [eVar 6])) (sNop)) (sSeq (sIf (dVal (dAp (opSc dEq) [eVar 7, eC (.int 2)])) (sSet 6 (eComp [10] (.nm 10) (iRange [eVar 2]) (dYes) (dAp (opEl dIdx) [eVar 5, dAp (opSc dMod) [eVar 10, dAp (opSc dLen) [eVar 5]]]))) (sNop)) (sSeq (sIf (dVal (dAp (opSc dGt) [eVar 7, eC (.int 2)])) (sSeq (sSet 8 (dAp (opSc dMin2) [eVar 2, dAp (opEl dAdd) [dAp (opSc dDiv) [eVar 2, eC (.int 2)], dAp (opCallX [true, false] fn_law_take) [eVar 0, eC (.int 3)]]])) (sSeq (sSet 9 (dAp (opEl dAdd) [dAp (opEl dCut10) [eVar 5, eC (.int 1)], dAp (opTk dList) [dAp (opSc dSub) [eVar 4, eVar 3]]])) (sSet 6 (dAp (opEl dAdd) [dAp (opEl dMul) [dAp (opTk dList) [dAp (opEl dIdx) [eVar 5, eC (.int 0)]], eVar 8], eComp [10] (.nm 10) (iRange [dAp (opSc dSub) [eVar 2, eVar 8]]) (dYes) (dAp (opEl dIdx) [eVar 9, dAp (opCallX [true, false] fn_law_take) [eVar 0, dAp (opSc dLen) [eVar 9]]])])))) (sNop)) (sSeq (sIf (dVal (dAp (opSc dEq) [eVar 7, eC (.int 4)])) (sSet 6 (dAp (opEl dRev) [eVar 6])) (sNop)) (sSeq (sIf (dVal (dAp (opSc dEq) [eVar 7, eC (.int 5)])) (sSet 6 (dAp (opCallX [true, false] fn_law_mixed) [eVar 0, eVar 6])) (sNop)) (sRet (eVar 6))))))))))))
def fn_law_kinds : Fn := runFn 2 11 d_law_kinds
def fn_law_groups : Fn := fnGrp
def d_law_half : DS :=
  sSeq (sSet 1 (eComp [2] (.nm 2) (iSeq (dAp (opCallX [false] fn_law_groups) [eVar 0])) (dVal (dAp (opSc dGt) [dAp (opEl dMul) [eC (.int 2), dAp (opSc dLen) [eVar 2]], dAp (opSc dLen) [eVar 0]])) (eVar 2))) (sRet (dAp (opEl dIdx) [dAp (opEl dAdd) [eVar 1, dAp (opTk dList) [dAp (opTk dList) []]], eC (.int 0)]))
def fn_law_half : Fn := runFn 1 3 d_law_half
def fuel_law_same : Nat := 8
def d_law_same (g : Fn) : DS :=
  sSeq (sIf (dVal (eIsi2 "list" "tuple" (eVar 1))) (sSeq (sIf (dOr (dVal (dAp (opSc dNe) [eIsi "list" (eVar 0), eIsi "list" (eVar 1)])) (dNot (dVal (eIsi2 "list" "tuple" (eVar 0))))) (sRet (eC (.bool false))) (sNop)) (sSeq (sIf (dVal (dAp (opSc dNe) [dAp (opSc dLen) [eVar 0], dAp (opSc dLen) [eVar 1]])) (sRet (eC (.bool false))) (sNop)) (sRet (dAp (opSc dEq) [eComp [2, 3] (.tp (.cons (.nm 2) (.cons (.nm 3) (.nil)))) (iTk dZip [eVar 0, eVar 1]) (dNot (dVal (dAp (opCallX [false, false] g) [eVar 2, eVar 3]))) (eC (.int 1)), dAp (opTk dList) []])))) (sNop)) (sSeq (sIf (dOr (dVal (dAp (opSc dIsN) [eVar 1, eC .none])) (dVal (eIsi "str" (eVar 1)))) (sRet (dAp (opSc dEq) [eVar 0, eVar 1])) (sNop)) (sRet (eAnd (eIsi "int" (eVar 0)) (eAnd (eNot (eIsi "bool" (eVar 0))) (dAp (opSc dEq) [eVar 0, eVar 1])))))
def fn_law_same : Nat → Fn
  | 0 => fun _ => .bad
  | k + 1 => runFn 2 4 (d_law_same (fn_law_same k))

theorem take_spec (a b c m : Int) (t : Bool) (hm : 0 < m) (hm2 : m < 2 ^ 100) : ∃ r a' c', fn_law_take [.o true [.int a, .int b, .int c], .v t (.int m)] = .ok (.fz true (.int r)) [some (true, [.int a', .int b, .int c']), none] ∧ 0 ≤ r ∧ r < m := by
  have h0 : m ≠ 0 := by omega
  have h1 : m < 340282366920938463463374607431768211456 := by omega
  have e0 : ∀ x y z : D, atI [x, y, z] 0 = some x := fun _ _ _ => rfl
  have e1 : ∀ x y z : D, atI [x, y, z] 1 = some y := fun _ _ _ => rfl
  have e2 : ∀ x y z : D, atI [x, y, z] 2 = some z := fun _ _ _ => rfl
  have i0 : ixN 3 0 = some 0 := rfl
  have i2 : ixN 3 2 = some 2 := rfl
  have sm : ∀ x q : Int, 0 < q → q < 2 ^ 62 → DL.small64 (x % q) = true := fun x q h1 h2 => by
    have := Int.emod_nonneg x (Int.ne_of_gt h1)
    have := Int.emod_lt_of_pos x h1
    unfold DL.small64
    simp only [Bool.and_eq_true, decide_eq_true_eq]
    omega
  have s1 : ∀ x : Int, DL.small64 (x % 99999999947) = true := fun x => sm x _ (by decide) (by decide)
  have s2 : ∀ x : Int, DL.small64 (x % 99999999821) = true := fun x => sm x _ (by decide) (by decide)
  have s0 : DL.small64 700001 = true := by decide
  by_cases ha : 0 < a
  · refine ⟨a % m, a / m, c, ?_, Int.emod_nonneg _ h0, Int.emod_lt_of_pos _ hm⟩
    simp [fn_law_take, runFn, argEnv, argSlot, sSeq, sIf, sRet, sSet, sSetIx, sDrop, sNop, dVal, dNot, dAnd, dOr, dAp, dArgs, opSc, opEl, opTk, rds, rd, views, view, takes, take, asOwn, eVar, eC, store, setSlot, resTok, outsOf, dInt2, eAnd, eOr, eNot, eIf, eInt, d_law_take, dGt, dIdx, e0, e1, e2, ha, dMod, dDiv, hm, h1, i0]
  · have h : ∀ x : Int, 0 ≤ x / 13 % m ∧ x / 13 % m < m := fun x => ⟨Int.emod_nonneg _ h0, Int.emod_lt_of_pos _ hm⟩
    refine ⟨_, a, c + 1, ?_, h ((((b + 700001 * (c + 1)) % 99999999947) * ((b + 700001 * (c + 1)) % 99999999947) % 99999999821) * ((((b + 700001 * (c + 1)) % 99999999947) * ((b + 700001 * (c + 1)) % 99999999947) % 99999999821) + 19) % 9999999967)⟩
    simp [fn_law_take, runFn, argEnv, argSlot, sSeq, sIf, sRet, sSet, sSetIx, sDrop, sNop, dVal, dNot, dAnd, dOr, dAp, dArgs, opSc, opEl, opTk, rds, rd, views, view, takes, take, asOwn, eVar, eC, store, setSlot, resTok, outsOf, dInt2, eAnd, eOr, eNot, eIf, eInt, d_law_take, dGt, dIdx, e0, e1, e2, ha, dMod, dDiv, hm, h1, i2, dAdd, dMul, s0, s1, s2]
--REST
/-! ### alike -/
def gd : Nat → D → Bool
  | _, .none => true
  | _, .int _ => true
  | _, .str z => PyData.strOk z
  | k + 1, .list xs => fits xs.length && xs.all (gd k)
  | k + 1, .tuple xs => fits xs.length && xs.all (gd k)
  | _, _ => false
theorem same_step {k : Nat} (ih : ∀ d, gd k d = true → ∀ a b, fn_law_same (k + 1) [.v a d, .v b d] = .ok (.fz true (.bool true)) [none, none]) {xs : List D} (h : xs.all (gd k) = true) (hl : xs.length ≤ 16777216) (a b c : Bool) (x y : D) :
    compL [2, 3] (.tp (.cons (.nm 2) (.cons (.nm 3) .nil))) (dNot (dVal (dAp (opCallX [false, false] (fn_law_same (k + 1))) [eVar 2, eVar 3]))) (eC (.int 1)) c (xs.map fun d => .tuple [d, d]) [] [.fro a x, .fro b y, .un, .un] = .ok [] [.fro a x, .fro b y, .un, .un] := by
  have := compL_map (own := [2, 3]) (t := .tp (.cons (.nm 2) (.cons (.nm 3) .nil))) (tt := dNot (dVal (dAp (opCallX [false, false] (fn_law_same (k + 1))) [eVar 2, eVar 3]))) (el := eC (.int 1)) (b := c) (env := [.fro a x, .fro b y, .un, .un]) (h := fun _ => none)
    (ds := xs.map fun d => .tuple [d, d]) (acc := []) (fun d hd => by
      obtain ⟨z, hz, rfl⟩ := List.mem_map.mp hd
      have hg := List.all_eq_true.mp h z hz
      refine ⟨[.fro a x, .fro b y, .fro c z, .fro c z], [.fro a x, .fro b y, .fro c z, .fro c z], false, by simp [bind1, bindN, setSlot], ?_, .inl ⟨rfl, rfl, by simp [wipeE]⟩⟩
      simp [runFn, argEnv, argSlot, sSeq, sIf, sRet, sSet, sSetIx, sDrop, sNop, dVal, dNot, dAnd, dOr, dAp, dArgs, opSc, opEl, opTk, rds, rd, views, view, takes, take, asOwn, eVar, eC, store, setSlot, resTok, outsOf, dInt2, eAnd, eOr, eNot, eIf, eInt, opCallX, detach, argsX, ih z hg, unX, DL.scal, finishX])
  rw [this]
  simp
theorem same_refl : ∀ (k : Nat) (d : D), gd k d = true → ∀ a b, fn_law_same (k + 1) [.v a d, .v b d] = .ok (.fz true (.bool true)) [none, none] := by
  have base : ∀ (k : Nat) (d : D), (d = .none ∨ (∃ i, d = .int i) ∨ ∃ z, PyData.strOk z = true ∧ d = .str z) → ∀ a b, fn_law_same (k + 1) [.v a d, .v b d] = .ok (.fz true (.bool true)) [none, none] := by
    intro k d hd a b
    rcases hd with rfl | ⟨i, rfl⟩ | ⟨z, hz, rfl⟩
    · simp [fn_law_same, d_law_same, runFn, argEnv, argSlot, sSeq, sIf, sRet, sSet, sSetIx, sDrop, sNop, dVal, dNot, dAnd, dOr, dAp, dArgs, opSc, opEl, opTk, rds, rd, views, view, takes, take, asOwn, eVar, eC, store, setSlot, resTok, outsOf, dInt2, eAnd, eOr, eNot, eIf, eInt, eIsi, eIsi2, tyN, isTy, dIsN, dEq, SeqAt.shaped, PyData.canLay0, PyData.depth, PyData.eqv]
    · simp [fn_law_same, d_law_same, runFn, argEnv, argSlot, sSeq, sIf, sRet, sSet, sSetIx, sDrop, sNop, dVal, dNot, dAnd, dOr, dAp, dArgs, opSc, opEl, opTk, rds, rd, views, view, takes, take, asOwn, eVar, eC, store, setSlot, resTok, outsOf, dInt2, eAnd, eOr, eNot, eIf, eInt, eIsi, eIsi2, tyN, isTy, dIsN, dEq, SeqAt.shaped, PyData.canLay0, PyData.depth, PyData.eqv]
    · simp [fn_law_same, d_law_same, runFn, argEnv, argSlot, sSeq, sIf, sRet, sSet, sSetIx, sDrop, sNop, dVal, dNot, dAnd, dOr, dAp, dArgs, opSc, opEl, opTk, rds, rd, views, view, takes, take, asOwn, eVar, eC, store, setSlot, resTok, outsOf, dInt2, eAnd, eOr, eNot, eIf, eInt, eIsi, eIsi2, tyN, isTy, dIsN, dEq, SeqAt.shaped, PyData.canLay0, PyData.depth, PyData.eqv, hz]
  intro k
  induction k with
  | zero =>
    intro d hd
    refine base 0 d ?_
    cases d with
    | none => exact .inl rfl
    | int i => exact .inr (.inl ⟨i, rfl⟩)
    | str z => exact .inr (.inr ⟨z, by simpa [gd] using hd, rfl⟩)
    | _ => simp [gd] at hd
  | succ k ih =>
    intro d hd a b
    cases d with
    | none => exact base _ _ (.inl rfl) a b
    | int i => exact base _ _ (.inr (.inl ⟨i, rfl⟩)) a b
    | str z => exact base _ _ (.inr (.inr ⟨z, by simpa [gd] using hd, rfl⟩)) a b
    | list xs =>
      simp only [gd, Bool.and_eq_true] at hd
      have hl : xs.length ≤ 16777216 := of_decide_eq_true hd.1
      have st := same_step ih hd.2 hl
      have e : fn_law_same (k + 1 + 1) = runFn 2 4 (d_law_same (fn_law_same (k + 1))) := rfl
      rw [e]
      simp [d_law_same, runFn, argEnv, argSlot, sSeq, sIf, sRet, sSet, sSetIx, sDrop, sNop, dVal, dNot, dAnd, dOr, dAp, dArgs, opSc, opEl, opTk, rds, rd, views, view, takes, take, asOwn, eVar, eC, store, setSlot, resTok, outsOf, dInt2, eAnd, eOr, eNot, eIf, eInt, eIsi, eIsi2, tyN, isTy, dIsN, dEq, dNe, dLen, lenD, SeqAt.shaped, PyData.canLay0, PyData.depth, PyData.eqv, eComp, iTk, dZip, plainAt, wipeE, unwipeE, st, hl, tagAll, dList, fits, PyData.canLayAll0, PyData.depthAll, PyData.eqvAll]
    | tuple xs =>
      simp only [gd, Bool.and_eq_true] at hd
      have hl : xs.length ≤ 16777216 := of_decide_eq_true hd.1
      have st := same_step ih hd.2 hl
      have e : fn_law_same (k + 1 + 1) = runFn 2 4 (d_law_same (fn_law_same (k + 1))) := rfl
      rw [e]
      simp [d_law_same, runFn, argEnv, argSlot, sSeq, sIf, sRet, sSet, sSetIx, sDrop, sNop, dVal, dNot, dAnd, dOr, dAp, dArgs, opSc, opEl, opTk, rds, rd, views, view, takes, take, asOwn, eVar, eC, store, setSlot, resTok, outsOf, dInt2, eAnd, eOr, eNot, eIf, eInt, eIsi, eIsi2, tyN, isTy, dIsN, dEq, dNe, dLen, lenD, SeqAt.shaped, PyData.canLay0, PyData.depth, PyData.eqv, eComp, iTk, dZip, plainAt, wipeE, unwipeE, st, hl, tagAll, dList, fits, PyData.canLayAll0, PyData.depthAll, PyData.eqvAll]
    | _ => simp [gd] at hd
end Lb
namespace Lb
open PySem hiding Env Tok
open L2 (atI ixN)
open DL
/-- a call of _law_take in an expression, the pot in the names' first place -/
theorem take_call {env env' : Env} {f : DE} {tk : Tok} {p : Bool} {a b c m : Int} (h0 : env[0]? = some (.own p true [.int a, .int b, .int c])) (hf : f env = .ok tk env') (h1 : env'[0]? = some (.own p true [.int a, .int b, .int c])) (hr : rd env' tk = some (.int m)) (hm : 0 < m) (hm2 : m < 2 ^ 100) :
    ∃ r a' c', dAp (opCallX [true, false] fn_law_take) [eVar 0, f] env = .ok (.fz true (.int r)) (env'.set 0 (.own p true [.int a', .int b, .int c'])) ∧ 0 ≤ r ∧ r < m := by
  obtain ⟨r, a', c', e, h2, h3⟩ := take_spec a b c m false hm hm2
  refine ⟨r, a', c', ?_, h2, h3⟩
  have r2 : rd (env'.set 0 .un) tk = some (.int m) := by
    cases tk with
    | sl j =>
      cases j with
      | zero =>
        simp only [rd, h1] at hr
        cases hr
      | succ j => simpa [rd, List.getElem?_set] using hr
    | _ => exact hr
  have r3 : ∀ s, rd (env'.set 0 s) tk = some (.int m) := fun s => by
    cases tk with
    | sl j =>
      cases j with
      | zero =>
        simp only [rd, h1] at hr
        cases hr
      | succ j => simpa [rd, List.getElem?_set] using hr
    | _ => exact hr
  have hl : 0 < env'.length := by
    cases env' with
    | nil => cases h1
    | cons _ _ => simp
  simp [dAp, dArgs, eVar, h0, hf, opCallX, detach, h1, argsX, r2, r3, e, unX, DL.scal, finishX, getOut, List.set_set]
/-! ### forward steps -/
def WR (r : ER) (Q : Tok → Env → Prop) : Prop := ∃ t e, r = .ok t e ∧ Q t e
def WE (f : DE) (env : Env) (Q : Tok → Env → Prop) : Prop := WR (f env) Q
def WA (fs : List DE) (env : Env) (K : List Tok → Env → Prop) : Prop := ∃ ts e, dArgs fs env = .ok ts e ∧ K ts e
def WT (c : DT) (env : Env) (K : Bool → Env → Prop) : Prop := ∃ b e, c env = .ok b e ∧ K b e
def WS (s : DS) (env : Env) (Q : Out → Prop) : Prop := Q (s env)
theorem wr {t : Tok} {e : Env} {Q : Tok → Env → Prop} (h : Q t e) : WR (.ok t e) Q := ⟨t, e, rfl, h⟩
theorem wr_of {r : ER} {t : Tok} {e : Env} {Q : Tok → Env → Prop} (h : r = .ok t e) (q : Q t e) : WR r Q := ⟨t, e, h, q⟩
theorem we_var {i : Nat} {env : Env} {s : Slot} {Q : Tok → Env → Prop} (h : env[i]? = some s) (hs : s ≠ .un) (q : Q (.sl i) env) : WE (eVar i) env Q := by
  refine wr_of (t := .sl i) (e := env) ?_ q
  unfold eVar
  rw [h]
  cases s with
  | un => exact absurd rfl hs
  | _ => rfl
theorem we_c {d : D} {env : Env} {Q : Tok → Env → Prop} (q : Q (.fz true d) env) : WE (eC d) env Q := wr q
theorem wa_nil {env : Env} {K : List Tok → Env → Prop} (q : K [] env) : WA [] env K := ⟨_, _, rfl, q⟩
theorem wa_cons {f : DE} {fs : List DE} {env : Env} {K : List Tok → Env → Prop} (h : WE f env fun t e => WA fs e fun ts e2 => K (t :: ts) e2) : WA (f :: fs) env K := by
  obtain ⟨t, e, h1, ts, e2, h2, q⟩ := h
  exact ⟨t :: ts, e2, by simp only [dArgs, h1, h2], q⟩
theorem we_ap {op : List Tok → Env → ER} {fs : List DE} {env : Env} {Q : Tok → Env → Prop} (h : WA fs env fun ts e => WR (op ts e) Q) : WE (dAp op fs) env Q := by
  obtain ⟨ts, e, h1, t, e2, h2, q⟩ := h
  exact ⟨t, e2, by simp only [dAp, h1, h2], q⟩
theorem we_take {f : DE} {env : Env} {Q : Tok → Env → Prop} {p : Bool} {a b c : Int} (h0 : env[0]? = some (.own p true [.int a, .int b, .int c]))
    (h : WE f env fun tk env' => ∃ (a2 b2 c2 m : Int), env'[0]? = some (.own p true [.int a2, .int b2, .int c2]) ∧ rd env' tk = some (.int m) ∧ 0 < m ∧ m < 2 ^ 100 ∧ (a2 = a ∧ b2 = b ∧ c2 = c ∨ True) ∧ ∀ r a' c', 0 ≤ r → r < m → Q (.fz true (.int r)) (env'.set 0 (.own p true [.int a', .int b2, .int c']))) : WE (dAp (opCallX [true, false] fn_law_take) [eVar 0, f]) env Q := by
  obtain ⟨tk, env', hf, a2, b2, c2, m, h1, h2, h3, h4, _, q⟩ := h
  have ev : eVar 0 env = .ok (.sl 0) env := by unfold eVar; rw [h0]
  obtain ⟨r, a', c', e, g2, g3⟩ := take_spec a2 b2 c2 m false h3 h4
  have key : dAp (opCallX [true, false] fn_law_take) [eVar 0, f] env = dAp (opCallX [true, false] fn_law_take) [eVar 0, fun _ => .ok tk env'] env' := by
    have ev2 : eVar 0 env' = .ok (.sl 0) env' := by unfold eVar; rw [h1]
    simp only [dAp, dArgs, ev, ev2, hf]
  obtain ⟨r, a', c', e, g2, g3⟩ := take_call (env := env') (env' := env') (f := fun _ => .ok tk env') (tk := tk) h1 rfl h1 h2 h3 h4
  exact ⟨_, _, key.trans e, q r a' c' g2 g3⟩
theorem ws_set {i : Nat} {f : DE} {env : Env} {Q : Out → Prop} (h : WE f env fun t e => ∃ e2, store e i t = some e2 ∧ Q (.nx e2)) : WS (sSet i f) env Q := by
  obtain ⟨t, e, h1, e2, h2, q⟩ := h
  show Q (sSet i f env)
  simp only [sSet, h1, h2]
  exact q
theorem ws_seq {a b : DS} {env : Env} {Q : Out → Prop} (h : WS a env fun o => ∃ e, o = .nx e ∧ WS b e Q) : WS (sSeq a b) env Q := by
  obtain ⟨e, h1, q⟩ := h
  show Q (sSeq a b env)
  rw [seq_nx h1]
  exact q
theorem ws_ret {f : DE} {env : Env} {Q : Out → Prop} (h : WE f env fun t e => Q (.rt t e)) : WS (sRet f) env Q := by
  obtain ⟨t, e, h1, q⟩ := h
  show Q (sRet f env)
  simp only [sRet, h1]
  exact q
theorem ws_if {c : DT} {a b : DS} {env : Env} {Q : Out → Prop} (h : WT c env fun k e => (k = true → WS a e Q) ∧ (k = false → WS b e Q)) : WS (sIf c a b) env Q := by
  obtain ⟨k, e, h1, q1, q2⟩ := h
  show Q (sIf c a b env)
  cases k with
  | true => rw [if_t h1]; exact q1 rfl
  | false => rw [if_f h1]; exact q2 rfl
theorem ws_nop {env : Env} {Q : Out → Prop} (h : Q (.nx env)) : WS sNop env Q := h
theorem wt_val {f : DE} {env : Env} {K : Bool → Env → Prop} (h : WE f env fun t e => ∃ b, rd e t = some (.bool b) ∧ K b e) : WT (dVal f) env K := by
  obtain ⟨t, e, h1, b, h2, q⟩ := h
  exact ⟨b, e, by simp only [dVal, h1, h2], q⟩
/-- a comprehension: what its items are, what stays -/
theorem we_comp {own : List Nat} {t : Tg} {src : DI} {el : DE} {env e1 : Env} {b : Bool} {ds : List D} {I : Nat → Env → Prop} {P : Bool × D → Prop} {Q : Tok → Env → Prop} (hs : src env = .ok b ds none e1) (hl : ds.length ≤ 16777216) (hp : plainAt e1 own = true) (i : I ds.length (wipeE e1 own))
    (ht : ∀ d ∈ ds, ∀ k env, I (k + 1) env → ∃ e1, bind1 t b d env = some e1 ∧ WE el e1 fun tk e3 => ∃ q e4, take e3 tk = some (q.1, q.2, e4) ∧ P q ∧ I k (wipeE e4 own))
    (q : ∀ ps e', (∀ p ∈ ps, P p) → ps.length = ds.length → I 0 e' → Q (.nw (tagAll ps) (ps.map (·.2))) (unwipeE e' e1 own)) : WE (eComp own t src dYes el) env Q := by
  obtain ⟨ps, e', g1, g2, g3, g4⟩ := compL_inv (own := own) (t := t) (tt := dYes) (el := el) (b := b) (I := I) (P := P) (ds := ds) (acc := []) i fun d hd k env ie => by
    obtain ⟨e1, h1, tk, e3, h2, q, e4, h3, h4, h5⟩ := ht d hd k env ie
    exact ⟨e1, e1, tk, e3, q, e4, h1, rfl, h2, h3, h4, h5⟩
  refine ⟨_, _, ?_, q ps e' g2 g3 g4⟩
  simp only [eComp, hs, hp, decide_eq_true hl, Bool.and_self, g1, List.nil_append]
/-- items that are ints -/
theorem ints_ps {ps : List (Bool × D)} (h : ∀ p ∈ ps, p.1 = true ∧ isInt p.2 = true) : tagAll ps = true ∧ ∃ ns : List Int, ps.map (·.2) = ns.map PyData.int ∧ ns.length = ps.length := by
  refine ⟨tagAll_true fun p hp => (h p hp).1, ?_⟩
  obtain ⟨ns, e⟩ := ints_of (ds := ps.map (·.2)) fun d hd => by
    obtain ⟨p, hp, rfl⟩ := List.mem_map.mp hd
    exact (h p hp).2
  refine ⟨ns, e, ?_⟩
  have := congrArg List.length e
  rw [List.length_map, List.length_map] at this
  exact this.symm
/-! ### the draws -/
theorem take_ex {x : Int} (h : 0 ≤ x) {n : Nat} (h2 : x < n) : ∃ k : Nat, k < n ∧ x = k := ⟨x.toNat, by omega, by omega⟩
theorem we_mut {i : Nat} {op : MOp} {fs : List DE} {env : Env} {Q : Tok → Env → Prop} {q0 : Bool × Bool × List D} (h0 : asOwn env i = some q0)
    (h : WA fs env fun ts e1 => ∃ ps e2 p b xs b' xs' c d, takes e1 ts = some (ps, e2) ∧ asOwn e2 i = some (p, b, xs) ∧ op b xs ps = some (b', xs', c, d) ∧ Q (.fz c d) (e2.set i (.own p b' xs'))) : WE (eMut i op fs) env Q := by
  obtain ⟨ts, e1, h1, ps, e2, p, b, xs, b', xs', c, d, h2, h3, h4, q⟩ := h
  exact ⟨_, _, by simp only [eMut, h0, h1, h2, h3, h4], q⟩
theorem eraseIdx_mapI (f : Int → D) : ∀ (l : List Int) (k : Nat), (l.map f).eraseIdx k = (l.eraseIdx k).map f
  | [], _ => rfl
  | _ :: _, 0 => rfl
  | x :: r, k + 1 => by
    show f x :: (r.map f).eraseIdx k = f x :: (r.eraseIdx k).map f
    rw [eraseIdx_mapI f r k]
theorem smallIx_nat {k : Nat} (h : k ≤ 16777216) : smallIx (k : Int) = true := by
  unfold smallIx
  rw [Bool.and_eq_true]
  exact ⟨decide_eq_true (by omega), decide_eq_true (by omega)⟩
theorem popAt_gen {xs : List D} {i : Int} {k : Nat} {u t : Bool} {d : D} (h1 : smallIx i = true) (h2 : seqIndex? i xs.length = some k) (h3 : xs[k]? = some d) : mPopAt u xs [(t, .int i)] = some (u, xs.eraseIdx k, u, d) := by
  simp only [mPopAt, h1, h2, h3]
theorem seqIx_nat {k n : Nat} (h : k < n) : seqIndex? (k : Int) n = some k := by
  unfold seqIndex?
  simp
  omega
theorem popAt_ints {rs : List Int} {k : Nat} {u t : Bool} (hk : k < rs.length) (hl : rs.length ≤ 16777216) : mPopAt u (rs.map PyData.int) [(t, .int (k : Nat))] = some (u, (rs.eraseIdx k).map PyData.int, u, .int rs[k]) := by
  have h3 : (rs.map PyData.int)[k]? = some (.int rs[k]) := by rw [List.getElem?_map, List.getElem?_eq_getElem hk]; rfl
  rw [popAt_gen (smallIx_nat (by omega)) (by rw [List.length_map]; exact seqIx_nat hk) h3, eraseIdx_mapI]
theorem iRange_of {f : DE} {env e1 : Env} {tk : Tok} {j : Int} (h : f env = .ok tk e1) (hr : rd e1 tk = some (.int j)) (hs : smallI j = true) : iRange [f] env = .ok true (intsOf 0 j.toNat) none e1 := by
  simp only [iRange, dArgs, h, rds, hr, hs]
theorem mixed_turn (a' b' c' : Int) (u t : Bool) (K : D) (rs : List Int) (k : Nat) (hk : rs.length = k + 1) (hk2 : k + 1 ≤ 1000) (d : D) : ∃ e1, bind1 (.nm 3) true d [.own true true [.int a', .int b', .int c'], .fro t K, .own false u (rs.map PyData.int), .un] = some e1 ∧
   WE (eMut 2 mPopAt [dAp (opCallX [true, false] fn_law_take) [eVar 0, dAp (opSc dLen) [eVar 2]]]) e1 fun tk e3 => ∃ (q : Bool × D) (e4 : Env), take e3 tk = some (q.1, q.2, e4) ∧ isInt q.2 = true ∧ ∃ (rs' : List Int) (a2 b2 c2 : Int) (u2 : Bool), rs'.length = k ∧ wipeE e4 [3] = [.own true true [.int a2, .int b2, .int c2], .fro t K, .own false u2 (rs'.map PyData.int), .un] := by
      refine ⟨_, rfl, ?_⟩
      refine we_mut (q0 := (false, u, rs.map PyData.int)) rfl (wa_cons (we_take (p := true) (a := a') (b := b') (c := c') rfl (we_ap (wa_cons (we_var rfl (fun z => by cases z) (wa_nil (wr_of rfl ⟨a', b', c', ((rs.map PyData.int).length : Nat), rfl, rfl, by rw [List.length_map]; omega, by rw [List.length_map]; omega, .inr trivial, fun r a2 c2 h1 h2 => wa_nil ?_⟩)))))))
      rw [List.length_map] at h2
      obtain ⟨j, hj, rfl⟩ := take_ex h1 h2
      refine ⟨[(true, .int (j : Nat))], _, false, u, rs.map PyData.int, _, _, _, _, rfl, rfl, popAt_ints (t := true) hj (by omega), (u, .int rs[j]), _, rfl, rfl, rs.eraseIdx j, a2, b', c2, u, by rw [List.length_eraseIdx, if_pos hj]; omega, rfl⟩

theorem mixed_src (e0 e1 e2 : Slot) (n : Nat) (ns : List D) (t : Bool) (hn : ns.length ≤ 1000) : iRange [dAp (opSc dLen) [eVar 1]] [e0, .fro t (.list ns), e1, e2] = .ok true (intsOf 0 ns.length) none [e0, .fro t (.list ns), e1, e2] :=
  iRange_of (j := (ns.length : Nat)) (tk := .fz true (.int (ns.length : Nat))) (by simp [runFn, argEnv, argSlot, sSeq, sIf, sRet, sSet, sSetIx, sDrop, sNop, dVal, dNot, dAnd, dOr, dAp, dArgs, opSc, opEl, opTk, rds, rd, views, view, takes, take, asOwn, eVar, eC, store, setSlot, resTok, outsOf, dInt2, eAnd, eOr, eNot, eIf, eInt, dLen, lenD]) rfl (smallI_of (by omega) (by omega))
theorem mixed_key (a b c : Int) (ns : List Int) (t : Bool) (hn : ns.length ≤ 1000) : WS d_law_mixed [.own true true [.int a, .int b, .int c], .fro t (.list (ns.map PyData.int)), .un, .un] fun o => ∃ (ms : List Int) (a' b' c' : Int) (u : Bool) (s : Slot), o = .rt (.nw u (ms.map PyData.int)) [.own true true [.int a', .int b', .int c'], .fro t (.list (ns.map PyData.int)), s, .un] ∧ ms.length = ns.length := by
    refine ws_seq (ws_set (we_ap (wa_cons (we_var rfl (fun z => by cases z) (wa_nil (wr_of rfl ⟨_, rfl, _, rfl, ?_⟩))))))
    refine ws_ret (we_comp (e1 := [.own true true [.int a, .int b, .int c], .fro t (.list (ns.map PyData.int)), .own false t (ns.map PyData.int), .un]) (b := true) (ds := intsOf 0 ns.length) (I := fun k e => ∃ (rs : List Int) (a' b' c' : Int) (u : Bool), rs.length = k ∧ k ≤ 1000 ∧ e = [.own true true [.int a', .int b', .int c'], .fro t (.list (ns.map PyData.int)), .own false u (rs.map PyData.int), .un]) (P := fun p => isInt p.2 = true) ?_ (by rw [intsOf_len]; omega) rfl ⟨ns, a, b, c, t, by rw [intsOf_len], by rw [intsOf_len]; exact hn, rfl⟩ (fun d hd k env i => ?_) (fun ps e' hp hl i => ?_))
    · have := mixed_src (.own true true [.int a, .int b, .int c]) (.own false t (ns.map PyData.int)) .un 0 (ns.map PyData.int) t (by rw [List.length_map]; exact hn)
      rw [List.length_map] at this
      exact this
    · obtain ⟨rs, a', b', c', u, hk, hk2, rfl⟩ := i
      obtain ⟨e1, h1, tk, e3, h2, q, e4, h3, h4, rs', a2, b2, c2, u2, h5, h6⟩ := mixed_turn a' b' c' u t (.list (ns.map PyData.int)) rs k hk hk2 d
      exact ⟨e1, h1, tk, e3, h2, q, e4, h3, h4, rs', a2, b2, c2, u2, h5, by omega, h6⟩
    · obtain ⟨rs, a', b', c', u, hk, hk2, rfl⟩ := i
      obtain ⟨ms, h2⟩ := ints_of (ds := ps.map (·.2)) fun d hd => by
        obtain ⟨p, hp', rfl⟩ := List.mem_map.mp hd
        exact hp p hp'
      rw [h2]
      refine ⟨ms, a', b', c', _, _, rfl, ?_⟩
      have := congrArg List.length h2
      rw [List.length_map, List.length_map, hl, intsOf_len] at this
      exact this.symm
theorem mixed_spec (a b c : Int) (ns : List Int) (t : Bool) (hn : ns.length ≤ 1000) : ∃ (ms : List Int) (a' b' c' : Int) (u : Bool), fn_law_mixed [.o true [.int a, .int b, .int c], .v t (.list (ns.map PyData.int))] = .ok (.nw u (ms.map PyData.int)) [some (true, [.int a', .int b', .int c']), none] ∧ ms.length = ns.length := by
  obtain ⟨ms, a', b', c', u, s, e, hl⟩ := mixed_key a b c ns t hn
  refine ⟨ms, a', b', c', u, ?_, hl⟩
  exact runFn_rt rfl e rfl rfl
end Lb
namespace Lb
open PySem hiding Env Tok
open L2 (atI ixN)
open DL
theorem atI_mem {xs : List D} {i : Int} (h0 : 0 ≤ i) (h1 : i < xs.length) : ∃ v, v ∈ xs ∧ atI xs i = some v := by
  obtain ⟨k, hk, rfl⟩ := take_ex h0 h1
  exact ⟨xs[k], List.getElem_mem hk, L2.atI_nat (List.getElem?_eq_getElem hk)⟩
theorem idx_nw {xs : List D} {i : Int} {b c : Bool} {d : D} {env : Env} (h : atI xs i = some d) : opEl dIdx [.nw b xs, .fz c (.int i)] env = .ok (.fz b d) env := by
  simp only [opEl, views, view, dIdx, h, Option.map_some]
theorem wr_take {env : Env} {tk : Tok} {Q : Tok → Env → Prop} {p : Bool} {a b c m : Int} (h0 : env[0]? = some (.own p true [.int a, .int b, .int c])) (hr : rd env tk = some (.int m)) (hm : 0 < m) (hm2 : m < 2 ^ 100)
    (h : ∀ r a' c', 0 ≤ r → r < m → Q (.fz true (.int r)) (env.set 0 (.own p true [.int a', .int b, .int c']))) : WR (opCallX [true, false] fn_law_take [.sl 0, tk] env) Q := by
  obtain ⟨r, a', c', e, g2, g3⟩ := take_call (env := env) (env' := env) (f := fun _ => .ok tk env) (tk := tk) h0 rfl h0 hr hm hm2
  have ev : eVar 0 env = .ok (.sl 0) env := by unfold eVar; rw [h0]
  simp only [dAp, dArgs, ev] at e
  exact ⟨_, _, e, h r a' c' g2 g3⟩
theorem cutL_map (f : Int → D) (xs : List Int) (lo hi : Option Int) : cutL (xs.map f) lo hi = (cutL xs lo hi).map f := by
  unfold cutL
  rw [List.length_map, List.map_take, List.map_drop]
theorem cutL_from {α : Type} (xs : List α) (k : Nat) : cutL xs (some (k : Int)) none = xs.drop k := by
  unfold cutL
  rw [HT.sIx_nat, HT.sIx_none]
  by_cases h : k ≤ xs.length
  · rw [Nat.min_eq_left h]
    exact List.take_of_length_le (by rw [List.length_drop]; exact Nat.le_refl _)
  · have h := Nat.le_of_not_le h
    rw [Nat.min_eq_right h, List.drop_eq_nil_of_le (Nat.le_refl _), List.drop_eq_nil_of_le h, List.take_nil]
theorem cutL_to {α : Type} (xs : List α) (k : Nat) : cutL xs none (some (k : Int)) = xs.take k := by
  unfold cutL
  rw [HT.sIx_nat, HT.sIx_none]
  show List.take (min k xs.length - 0) xs = _
  rw [Nat.sub_zero]
  by_cases h : k ≤ xs.length
  · rw [Nat.min_eq_left h]
  · have h := Nat.le_of_not_le h
    rw [Nat.min_eq_right h, List.take_of_length_le (Nat.le_refl _), List.take_of_length_le h]
theorem wr_el {op : List (Bool × D) → Option Tok} {ts : List Tok} {env e' : Env} {ps : List (Bool × D)} {t : Tok} {Q : Tok → Env → Prop} (h1 : views env ts = some (ps, e')) (h2 : op ps = some t) (q : Q t e') : WR (opEl op ts env) Q := wr_of (by simp only [opEl, h1, h2]) q
theorem wr_sc {op : List D → Option D} {ts : List Tok} {env : Env} {ds : List D} {d : D} {Q : Tok → Env → Prop} (h1 : rds env ts = some ds) (h2 : op ds = some d) (q : Q (.fz true d) env) : WR (opSc op ts env) Q := wr_of (by simp only [opSc, h1, h2]) q
theorem mul_int {i j : Int} {b c : Bool} (h : DL.small64 i = true) : dMul [(b, .int i), (c, .int j)] = some (.fz true (.int (i * j))) := by
  simp only [dMul, h, Bool.true_or]
theorem mul_list {xs : List D} {k : Int} {b c : Bool} (h : smallI k = true) (h2 : xs.length * k.toNat ≤ 16777216) : dMul [(b, .list xs), (c, .int k)] = some (.nw b (List.replicate k.toNat xs).flatten) := by
  simp only [dMul, h, fits_of h2, Bool.and_self]
theorem add_list {xs ys : List D} {b c : Bool} (h : xs.length + ys.length ≤ 16777216) : dAdd [(b, .list xs), (c, .list ys)] = some (.nw (b && c) (xs ++ ys)) := by
  simp only [dAdd, fits_of h]
theorem small64_of {i : Int} (h1 : -(2 ^ 62) ≤ i) (h2 : i < 2 ^ 62) : DL.small64 i = true := by
  unfold DL.small64
  rw [Bool.and_eq_true]
  exact ⟨decide_eq_true (by omega), decide_eq_true (by omega)⟩
theorem idx_of {xs : List D} {i : Int} {b c : Bool} {d : D} (h : atI xs i = some d) : dIdx [(b, .list xs), (c, .int i)] = some (.fz b d) := by
  simp only [dIdx, h, Option.map_some]
theorem sorted_ints (ns : List Int) (b : Bool) : dSorted [(b, .list (ns.map PyData.int))] = some (.nw true ((sortI ns).map PyData.int)) := by
  simp only [dSorted, intsD_map, Option.map_some]
theorem mod_int {i j : Int} (h : 0 < j) : dMod [.int i, .int j] = some (.int (i % j)) := by
  simp only [dMod, dInt2, decide_eq_true h]
theorem callX_ok {mask : List Bool} {fn : Fn} {ts : List Tok} {env e1 e2 : Env} {q : Option (Bool × List D)} {w : Back} {args : List DL.Arg} {t t' : Tok} {outs : List (Option (Bool × List D))} (hd : detach env mask ts = some (q, w, e1)) (ha : argsX e1 q mask ts = some args) (hf : fn args = .ok t outs) (hu : unX t = some t') (he : finishX e1 w outs = some e2) : opCallX mask fn ts env = .ok t' e2 := by
  simp only [opCallX, hd, ha, hf, hu, he]
theorem wr_mixed {env : Env} {tk : Tok} {Q : Tok → Env → Prop} {p : Bool} {a b c : Int} {ns : List Int} (h0 : env[0]? = some (.own p true [.int a, .int b, .int c])) (hr : ∀ s, rd (env.set 0 s) tk = some (.list (ns.map PyData.int))) (hn : ns.length ≤ 1000)
    (h : ∀ (ms : List Int) (a' b' c' : Int), ms.length = ns.length → Q (.nw true (ms.map PyData.int)) (env.set 0 (.own p true [.int a', .int b', .int c']))) : WR (opCallX [true, false] fn_law_mixed [.sl 0, tk] env) Q := by
  obtain ⟨ms, a', b', c', u, e, hl⟩ := mixed_spec a b c ns false hn
  have hl0 : 0 < env.length := by
    cases env with
    | nil => cases h0
    | cons _ _ => simp
  refine wr_of ?_ (h ms a' b' c' hl)
  have hu : unX (.nw u (ms.map PyData.int)) = some (.nw true (ms.map PyData.int)) := by simp only [unX, scal_ints]
  have hd : detach env [true, false] [.sl 0, tk] = some (some (true, [.int a, .int b, .int c]), some (some (0, p)), env.set 0 .un) := by simp only [detach, h0]
  have ha : argsX (env.set 0 .un) (some (true, [.int a, .int b, .int c])) [true, false] [.sl 0, tk] = some [.o true [.int a, .int b, .int c], .v false (.list (ns.map PyData.int))] := by
    simp only [argsX, hr, Bool.true_or, List.all_cons, List.all_nil, DL.scal, Bool.and_self]
  exact callX_ok hd ha e hu (by simp [finishX, getOut, DL.scal, List.set_set])
/-- what is walked -/
def WI (s : DI) (env : Env) (Q : Bool → List D → Env → Prop) : Prop := ∃ b ds e1, s env = .ok b ds none e1 ∧ Q b ds e1
theorem wi_range1 {f : DE} {env : Env} {Q : Bool → List D → Env → Prop} (h : WE f env fun tk e => ∃ j, rd e tk = some (.int j) ∧ -(2 ^ 62) ≤ j ∧ j < 2 ^ 62 ∧ Q true (intsOf 0 j.toNat) e) : WI (iRange [f]) env Q := by
  obtain ⟨tk, e, h1, j, h2, h3, h4, q⟩ := h
  exact ⟨_, _, _, iRange_of h1 h2 (smallI_of h3 h4), q⟩
theorem we_lc {own : List Nat} {t : Tg} {src : DI} {el : DE} {env : Env} {Q : Tok → Env → Prop} (h : WI src env fun b ds e1 => ∃ (I : Nat → Env → Prop) (P : Bool × D → Prop), ds.length ≤ 16777216 ∧ plainAt e1 own = true ∧ I ds.length (wipeE e1 own) ∧
    (∀ d ∈ ds, ∀ k env, I (k + 1) env → ∃ e1, bind1 t b d env = some e1 ∧ WE el e1 fun tk e3 => ∃ (q : Bool × D) (e4 : Env), take e3 tk = some (q.1, q.2, e4) ∧ P q ∧ I k (wipeE e4 own)) ∧
    (∀ ps e', (∀ p ∈ ps, P p) → ps.length = ds.length → I 0 e' → Q (.nw (tagAll ps) (ps.map (·.2))) (unwipeE e' e1 own))) : WE (eComp own t src dYes el) env Q := by
  obtain ⟨b, ds, e1, h1, I, P, h2, h3, h4, h5, h6⟩ := h
  exact we_comp h1 h2 h3 h4 h5 h6
theorem ws_mid {a b : DS} {env : Env} {Q : Out → Prop} (M : Env → Prop) (h : WS a env fun o => ∃ e, o = .nx e ∧ M e) (h2 : ∀ e, M e → WS b e Q) : WS (sSeq a b) env Q := by
  obtain ⟨e, h1, m⟩ := h
  refine ws_seq ?_
  exact ⟨e, h1, h2 e m⟩
theorem intsOf_mem {lo : Int} {n : Nat} {d : D} (h : d ∈ intsOf lo n) : ∃ k : Nat, k < n ∧ d = .int (lo + (k : Nat)) := by
  unfold intsOf at h
  obtain ⟨k, hk, rfl⟩ := List.mem_map.mp h
  exact ⟨k, List.mem_range.mp hk, rfl⟩
theorem kinds_key (a b c most : Int) (t : Bool) (h0 : 0 ≤ most) (h1 : most ≤ 1000) : WS d_law_kinds [.own true true [.int a, .int b, .int c], .fro t (.int most), .un, .un, .un, .un, .un, .un, .un, .un, .un] fun o => ∃ (ms : List Int) (a' b' c' : Int) (e : Env), o = .rt (.sl 6) e ∧ e[0]? = some (.own true true [.int a', .int b', .int c']) ∧ e[6]? = some (.own false true (ms.map PyData.int)) ∧ ms.length ≤ most.toNat := by
  unfold d_law_kinds
  -- many
  repeat (first | with_reducible refine ws_seq ?_ | with_reducible refine ws_set ?_ | with_reducible refine ws_ret ?_ | with_reducible refine we_ap ?_ | with_reducible refine wa_cons ?_ | with_reducible refine wa_nil ?_ | with_reducible refine we_c ?_ | refine we_var rfl (fun z => by cases z) ?_ | refine wr_of (r := opSc _ _ _) rfl ?_ | refine wr_of (r := opEl _ _ _) rfl ?_ | refine wr_of (r := opTk _ _ _) rfl ?_)
  refine wr_take rfl rfl (by decide) (by decide) fun r1 a1 c1 p1 q1 => ?_
  repeat (first | with_reducible refine ws_seq ?_ | with_reducible refine ws_set ?_ | with_reducible refine ws_ret ?_ | with_reducible refine we_ap ?_ | with_reducible refine wa_cons ?_ | with_reducible refine wa_nil ?_ | with_reducible refine we_c ?_ | refine we_var rfl (fun z => by cases z) ?_ | refine wr_of (r := opSc _ _ _) rfl ?_ | refine wr_of (r := opEl _ _ _) rfl ?_ | refine wr_of (r := opTk _ _ _) rfl ?_)
  obtain ⟨v1, m1, e1⟩ := atI_mem (xs := [PyData.int (if most + 1 < 8 then most + 1 else 8), .int (if most + 1 < 40 then most + 1 else 40), .int (most + 1)]) p1 q1
  obtain ⟨k1, rfl, g1, g2⟩ : ∃ k1 : Int, v1 = .int k1 ∧ 0 < k1 ∧ k1 ≤ most + 1 := by
    simp only [List.mem_cons, List.not_mem_nil, or_false] at m1
    rcases m1 with rfl | rfl | rfl
    · exact ⟨_, rfl, by split <;> omega, by split <;> omega⟩
    · exact ⟨_, rfl, by split <;> omega, by split <;> omega⟩
    · exact ⟨_, rfl, by omega, by omega⟩
  refine wr_of (idx_nw e1) ?_
  repeat (first | with_reducible refine ws_seq ?_ | with_reducible refine ws_set ?_ | with_reducible refine ws_ret ?_ | with_reducible refine we_ap ?_ | with_reducible refine wa_cons ?_ | with_reducible refine wa_nil ?_ | with_reducible refine we_c ?_ | refine we_var rfl (fun z => by cases z) ?_ | refine wr_of (r := opSc _ _ _) rfl ?_ | refine wr_of (r := opEl _ _ _) rfl ?_ | refine wr_of (r := opTk _ _ _) rfl ?_)
  refine wr_take rfl rfl g1 (by omega) fun many a2 c2 p2 q2 => ?_
  refine ⟨_, rfl, _, rfl, ?_⟩
  -- step
  repeat (first | with_reducible refine ws_seq ?_ | with_reducible refine ws_set ?_ | with_reducible refine ws_ret ?_ | with_reducible refine we_ap ?_ | with_reducible refine wa_cons ?_ | with_reducible refine wa_nil ?_ | with_reducible refine we_c ?_ | refine we_var rfl (fun z => by cases z) ?_ | refine wr_of (r := opSc _ _ _) rfl ?_ | refine wr_of (r := opEl _ _ _) rfl ?_ | refine wr_of (r := opTk _ _ _) rfl ?_)
  refine wr_take rfl rfl (by decide) (by decide) fun r2 a3 c3 p3 q3 => ?_
  repeat (first | with_reducible refine ws_seq ?_ | with_reducible refine ws_set ?_ | with_reducible refine ws_ret ?_ | with_reducible refine we_ap ?_ | with_reducible refine wa_cons ?_ | with_reducible refine wa_nil ?_ | with_reducible refine we_c ?_ | refine we_var rfl (fun z => by cases z) ?_ | refine wr_of (r := opSc _ _ _) rfl ?_ | refine wr_of (r := opEl _ _ _) rfl ?_ | refine wr_of (r := opTk _ _ _) rfl ?_)
  refine wr_take rfl rfl (by decide) (by decide) fun r3 a4 c4 p4 q4 => ?_
  repeat (first | with_reducible refine ws_seq ?_ | with_reducible refine ws_set ?_ | with_reducible refine ws_ret ?_ | with_reducible refine we_ap ?_ | with_reducible refine wa_cons ?_ | with_reducible refine wa_nil ?_ | with_reducible refine we_c ?_ | refine we_var rfl (fun z => by cases z) ?_ | refine wr_of (r := opSc _ _ _) rfl ?_ | refine wr_of (r := opEl _ _ _) rfl ?_ | refine wr_of (r := opTk _ _ _) rfl ?_)
  obtain ⟨v2, m2, e2⟩ := atI_mem (xs := [PyData.int 1, .int 1, .int (1 + r2)]) p4 q4
  obtain ⟨step, rfl, g3, g4⟩ : ∃ k1 : Int, v2 = .int k1 ∧ 0 < k1 ∧ k1 ≤ 1000 := by
    simp only [List.mem_cons, List.not_mem_nil, or_false] at m2
    rcases m2 with rfl | rfl | rfl
    · exact ⟨_, rfl, by omega, by omega⟩
    · exact ⟨_, rfl, by omega, by omega⟩
    · exact ⟨_, rfl, by omega, by omega⟩
  refine wr_of (idx_nw e2) ?_
  refine ⟨_, rfl, _, rfl, ?_⟩
  -- base
  repeat (first | with_reducible refine ws_seq ?_ | with_reducible refine ws_set ?_ | with_reducible refine ws_ret ?_ | with_reducible refine we_ap ?_ | with_reducible refine wa_cons ?_ | with_reducible refine wa_nil ?_ | with_reducible refine we_c ?_ | refine we_var rfl (fun z => by cases z) ?_ | refine wr_of (r := opSc _ _ _) rfl ?_ | refine wr_of (r := opEl _ _ _) rfl ?_ | refine wr_of (r := opTk _ _ _) rfl ?_)
  refine wr_take rfl rfl (by decide) (by decide) fun r4 a5 c5 p5 q5 => ?_
  repeat (first | with_reducible refine ws_seq ?_ | with_reducible refine ws_set ?_ | with_reducible refine ws_ret ?_ | with_reducible refine we_ap ?_ | with_reducible refine wa_cons ?_ | with_reducible refine wa_nil ?_ | with_reducible refine we_c ?_ | refine we_var rfl (fun z => by cases z) ?_ | refine wr_of (r := opSc _ _ _) rfl ?_ | refine wr_of (r := opEl _ _ _) rfl ?_ | refine wr_of (r := opTk _ _ _) rfl ?_)
  obtain ⟨v3, m3, e3⟩ := atI_mem (xs := [PyData.int 0, .int (-3), .int (10 ^ Int.toNat 29), .int (0 - 10 ^ Int.toNat 29)]) p5 q5
  obtain ⟨base, rfl⟩ : ∃ k1 : Int, v3 = .int k1 := by
    simp only [List.mem_cons, List.not_mem_nil, or_false] at m3
    rcases m3 with rfl | rfl | rfl | rfl <;> exact ⟨_, rfl⟩
  refine wr_of (idx_nw e3) ?_
  refine ⟨_, rfl, _, rfl, ?_⟩
  -- values
  refine ws_mid (fun e => ∃ (vs : List Int) (a' c' : Int), 0 < vs.length ∧ vs.length ≤ 201 ∧ e = [.own true true [.int a', .int b, .int c'], .fro t (.int most), .fro true (.int many), .fro true (.int step), .fro true (.int base), .own false true (vs.map PyData.int), .un, .un, .un, .un, .un]) ?_ ?_
  · refine ws_set (we_lc (wi_range1 ?_))
    repeat (first | with_reducible refine ws_seq ?_ | with_reducible refine ws_set ?_ | with_reducible refine ws_ret ?_ | with_reducible refine we_ap ?_ | with_reducible refine wa_cons ?_ | with_reducible refine wa_nil ?_ | with_reducible refine we_c ?_ | refine we_var rfl (fun z => by cases z) ?_ | refine wr_of (r := opSc _ _ _) rfl ?_ | refine wr_of (r := opEl _ _ _) rfl ?_ | refine wr_of (r := opTk _ _ _) rfl ?_)
    refine wr_take rfl rfl (by decide) (by decide) fun r5 a6 c6 p6 q6 => ?_
    repeat (first | with_reducible refine ws_seq ?_ | with_reducible refine ws_set ?_ | with_reducible refine ws_ret ?_ | with_reducible refine we_ap ?_ | with_reducible refine wa_cons ?_ | with_reducible refine wa_nil ?_ | with_reducible refine we_c ?_ | refine we_var rfl (fun z => by cases z) ?_ | refine wr_of (r := opSc _ _ _) rfl ?_ | refine wr_of (r := opEl _ _ _) rfl ?_ | refine wr_of (r := opTk _ _ _) rfl ?_)
    obtain ⟨v4, m4, e4⟩ := atI_mem (xs := [PyData.int 2, .int 3, .int 9, .int 200]) p6 q6
    obtain ⟨k4, rfl, g5, g6⟩ : ∃ k1 : Int, v4 = .int k1 ∧ 0 < k1 ∧ k1 ≤ 200 := by
      simp only [List.mem_cons, List.not_mem_nil, or_false] at m4
      rcases m4 with rfl | rfl | rfl | rfl <;> exact ⟨_, rfl, by omega, by omega⟩
    refine wr_of (idx_nw e4) ?_
    repeat (first | with_reducible refine ws_seq ?_ | with_reducible refine ws_set ?_ | with_reducible refine ws_ret ?_ | with_reducible refine we_ap ?_ | with_reducible refine wa_cons ?_ | with_reducible refine wa_nil ?_ | with_reducible refine we_c ?_ | refine we_var rfl (fun z => by cases z) ?_ | refine wr_of (r := opSc _ _ _) rfl ?_ | refine wr_of (r := opEl _ _ _) rfl ?_ | refine wr_of (r := opTk _ _ _) rfl ?_)
    refine wr_take rfl rfl g5 (by omega) fun r6 a7 c7 p7 q7 => ?_
    repeat (first | with_reducible refine ws_seq ?_ | with_reducible refine ws_set ?_ | with_reducible refine ws_ret ?_ | with_reducible refine we_ap ?_ | with_reducible refine wa_cons ?_ | with_reducible refine wa_nil ?_ | with_reducible refine we_c ?_ | refine we_var rfl (fun z => by cases z) ?_ | refine wr_of (r := opSc _ _ _) rfl ?_ | refine wr_of (r := opEl _ _ _) rfl ?_ | refine wr_of (r := opTk _ _ _) rfl ?_)
    refine ⟨1 + r6, rfl, by omega, by omega, fun k e => e = [.own true true [.int a7, .int b, .int c7], .fro t (.int most), .fro true (.int many), .fro true (.int step), .fro true (.int base), .un, .un, .un, .un, .un, .un], fun p => p.1 = true ∧ isInt p.2 = true, by rw [intsOf_len]; omega, rfl, rfl, fun d hd k e he => ?_, fun ps e' hp hl he => ?_⟩
    · subst he
      obtain ⟨j, hj, rfl⟩ := intsOf_mem hd
      refine ⟨_, rfl, ?_⟩
      repeat (first | with_reducible refine ws_seq ?_ | with_reducible refine ws_set ?_ | with_reducible refine ws_ret ?_ | with_reducible refine we_ap ?_ | with_reducible refine wa_cons ?_ | with_reducible refine wa_nil ?_ | with_reducible refine we_c ?_ | refine we_var rfl (fun z => by cases z) ?_ | refine wr_of (r := opSc _ _ _) rfl ?_ | refine wr_of (r := opEl _ _ _) rfl ?_ | refine wr_of (r := opTk _ _ _) rfl ?_)
      refine wr_el rfl (mul_int (small64_of (by omega) (by omega))) ?_
      repeat (first | with_reducible refine ws_seq ?_ | with_reducible refine ws_set ?_ | with_reducible refine ws_ret ?_ | with_reducible refine we_ap ?_ | with_reducible refine wa_cons ?_ | with_reducible refine wa_nil ?_ | with_reducible refine we_c ?_ | refine we_var rfl (fun z => by cases z) ?_ | refine wr_of (r := opSc _ _ _) rfl ?_ | refine wr_of (r := opEl _ _ _) rfl ?_ | refine wr_of (r := opTk _ _ _) rfl ?_)
      exact ⟨(true, _), _, rfl, ⟨rfl, rfl⟩, rfl⟩
    · subst he
      obtain ⟨h5, vs, h6, h7⟩ := ints_ps hp
      rw [h5, h6]
      rw [hl, intsOf_len] at h7
      exact ⟨_, rfl, _, rfl, vs, a7, c7, by omega, by omega, rfl⟩
  rintro e ⟨vs, a8, c8, l1, l2, rfl⟩
  have lm : (vs.map PyData.int).length = vs.length := List.length_map _
  -- kinds
  refine ws_mid (fun e => ∃ (ks : List Int) (a' c' : Int), ks.length = many.toNat ∧ e = [.own true true [.int a', .int b, .int c'], .fro t (.int most), .fro true (.int many), .fro true (.int step), .fro true (.int base), .own false true (vs.map PyData.int), .own false true (ks.map PyData.int), .un, .un, .un, .un]) ?_ ?_
  · refine ws_set (we_lc (wi_range1 ?_))
    repeat (first | with_reducible refine ws_seq ?_ | with_reducible refine ws_set ?_ | with_reducible refine ws_ret ?_ | with_reducible refine we_ap ?_ | with_reducible refine wa_cons ?_ | with_reducible refine wa_nil ?_ | with_reducible refine we_c ?_ | refine we_var rfl (fun z => by cases z) ?_ | refine wr_of (r := opSc _ _ _) rfl ?_ | refine wr_of (r := opEl _ _ _) rfl ?_ | refine wr_of (r := opTk _ _ _) rfl ?_)
    refine ⟨many, rfl, by omega, by omega, fun k e => ∃ (a' c' : Int), e = [.own true true [.int a', .int b, .int c'], .fro t (.int most), .fro true (.int many), .fro true (.int step), .fro true (.int base), .own false true (vs.map PyData.int), .un, .un, .un, .un, .un], fun p => p.1 = true ∧ isInt p.2 = true, by rw [intsOf_len]; omega, rfl, ⟨a8, c8, rfl⟩, fun d hd k e he => ?_, fun ps e' hp hl he => ?_⟩
    · obtain ⟨a', c', rfl⟩ := he
      refine ⟨_, rfl, ?_⟩
      repeat (first | with_reducible refine ws_seq ?_ | with_reducible refine ws_set ?_ | with_reducible refine ws_ret ?_ | with_reducible refine we_ap ?_ | with_reducible refine wa_cons ?_ | with_reducible refine wa_nil ?_ | with_reducible refine we_c ?_ | refine we_var rfl (fun z => by cases z) ?_ | refine wr_of (r := opSc _ _ _) rfl ?_ | refine wr_of (r := opEl _ _ _) rfl ?_ | refine wr_of (r := opTk _ _ _) rfl ?_)
      refine wr_take rfl rfl (by rw [lm]; omega) (by rw [lm]; omega) fun r a c p q => ?_
      repeat (first | with_reducible refine ws_seq ?_ | with_reducible refine ws_set ?_ | with_reducible refine ws_ret ?_ | with_reducible refine we_ap ?_ | with_reducible refine wa_cons ?_ | with_reducible refine wa_nil ?_ | with_reducible refine we_c ?_ | refine we_var rfl (fun z => by cases z) ?_ | refine wr_of (r := opSc _ _ _) rfl ?_ | refine wr_of (r := opEl _ _ _) rfl ?_ | refine wr_of (r := opTk _ _ _) rfl ?_)
      rw [lm] at q
      obtain ⟨n, en⟩ := atI_ints p q
      refine wr_el rfl (idx_of en) ?_
      exact ⟨(true, _), _, rfl, ⟨rfl, rfl⟩, _, _, rfl⟩
    · obtain ⟨a', c', rfl⟩ := he
      obtain ⟨h5, ks, h6, h7⟩ := ints_ps hp
      rw [h5, h6]
      rw [hl, intsOf_len] at h7
      exact ⟨_, rfl, _, rfl, ks, a', c', h7, rfl⟩
  rintro e ⟨ks0, a9, c9, l3, rfl⟩
  -- way
  repeat (first | with_reducible refine ws_seq ?_ | with_reducible refine ws_set ?_ | with_reducible refine ws_ret ?_ | with_reducible refine we_ap ?_ | with_reducible refine wa_cons ?_ | with_reducible refine wa_nil ?_ | with_reducible refine we_c ?_ | refine we_var rfl (fun z => by cases z) ?_ | refine wr_of (r := opSc _ _ _) rfl ?_ | refine wr_of (r := opEl _ _ _) rfl ?_ | refine wr_of (r := opTk _ _ _) rfl ?_)
  refine wr_take rfl rfl (by decide) (by decide) fun way a10 c10 p8 q8 => ?_
  refine ⟨_, rfl, _, rfl, ?_⟩
  -- way == 1
  refine ws_mid (fun e => ∃ (ks : List Int), ks.length = many.toNat ∧ e = [.own true true [.int a10, .int b, .int c10], .fro t (.int most), .fro true (.int many), .fro true (.int step), .fro true (.int base), .own false true (vs.map PyData.int), .own false true (ks.map PyData.int), .fro true (.int way), .un, .un, .un]) ?_ ?_
  · refine ws_if (wt_val ?_)
    repeat (first | with_reducible refine ws_seq ?_ | with_reducible refine ws_set ?_ | with_reducible refine ws_ret ?_ | with_reducible refine we_ap ?_ | with_reducible refine wa_cons ?_ | with_reducible refine wa_nil ?_ | with_reducible refine we_c ?_ | refine we_var rfl (fun z => by cases z) ?_ | refine wr_of (r := opSc _ _ _) rfl ?_ | refine wr_of (r := opEl _ _ _) rfl ?_ | refine wr_of (r := opTk _ _ _) rfl ?_)
    refine ⟨_, rfl, fun _ => ?_, fun _ => ?_⟩
    · repeat (first | with_reducible refine ws_seq ?_ | with_reducible refine ws_set ?_ | with_reducible refine ws_ret ?_ | with_reducible refine we_ap ?_ | with_reducible refine wa_cons ?_ | with_reducible refine wa_nil ?_ | with_reducible refine we_c ?_ | refine we_var rfl (fun z => by cases z) ?_ | refine wr_of (r := opSc _ _ _) rfl ?_ | refine wr_of (r := opEl _ _ _) rfl ?_ | refine wr_of (r := opTk _ _ _) rfl ?_)
      refine wr_el rfl (sorted_ints ks0 true) ?_
      exact ⟨_, rfl, _, rfl, sortI ks0, by rw [(sortI_perm ks0).length_eq, l3], rfl⟩
    · exact ⟨_, rfl, ks0, l3, rfl⟩
  rintro e ⟨ks1, l4, rfl⟩
  -- way == 2
  refine ws_mid (fun e => ∃ (ks : List Int), ks.length = many.toNat ∧ e = [.own true true [.int a10, .int b, .int c10], .fro t (.int most), .fro true (.int many), .fro true (.int step), .fro true (.int base), .own false true (vs.map PyData.int), .own false true (ks.map PyData.int), .fro true (.int way), .un, .un, .un]) ?_ ?_
  · refine ws_if (wt_val ?_)
    repeat (first | with_reducible refine ws_seq ?_ | with_reducible refine ws_set ?_ | with_reducible refine ws_ret ?_ | with_reducible refine we_ap ?_ | with_reducible refine wa_cons ?_ | with_reducible refine wa_nil ?_ | with_reducible refine we_c ?_ | refine we_var rfl (fun z => by cases z) ?_ | refine wr_of (r := opSc _ _ _) rfl ?_ | refine wr_of (r := opEl _ _ _) rfl ?_ | refine wr_of (r := opTk _ _ _) rfl ?_)
    refine ⟨_, rfl, fun _ => ?_, fun _ => ?_⟩
    · refine ws_set (we_lc (wi_range1 ?_))
      repeat (first | with_reducible refine ws_seq ?_ | with_reducible refine ws_set ?_ | with_reducible refine ws_ret ?_ | with_reducible refine we_ap ?_ | with_reducible refine wa_cons ?_ | with_reducible refine wa_nil ?_ | with_reducible refine we_c ?_ | refine we_var rfl (fun z => by cases z) ?_ | refine wr_of (r := opSc _ _ _) rfl ?_ | refine wr_of (r := opEl _ _ _) rfl ?_ | refine wr_of (r := opTk _ _ _) rfl ?_)
      refine ⟨many, rfl, by omega, by omega, fun k e => e = [.own true true [.int a10, .int b, .int c10], .fro t (.int most), .fro true (.int many), .fro true (.int step), .fro true (.int base), .own false true (vs.map PyData.int), .own false true (ks1.map PyData.int), .fro true (.int way), .un, .un, .un], fun p => p.1 = true ∧ isInt p.2 = true, by rw [intsOf_len]; omega, rfl, rfl, fun d hd k e he => ?_, fun ps e' hp hl he => ?_⟩
      · subst he
        obtain ⟨j, hj, rfl⟩ := intsOf_mem hd
        refine ⟨_, rfl, ?_⟩
        repeat (first | with_reducible refine ws_seq ?_ | with_reducible refine ws_set ?_ | with_reducible refine ws_ret ?_ | with_reducible refine we_ap ?_ | with_reducible refine wa_cons ?_ | with_reducible refine wa_nil ?_ | with_reducible refine we_c ?_ | refine we_var rfl (fun z => by cases z) ?_ | refine wr_of (r := opSc _ _ _) rfl ?_ | refine wr_of (r := opEl _ _ _) rfl ?_ | refine wr_of (r := opTk _ _ _) rfl ?_)
        have hv : (0 : Int) < ((vs.map PyData.int).length : Nat) := by rw [lm]; omega
        refine wr_sc rfl (mod_int hv) ?_
        repeat (first | with_reducible refine ws_seq ?_ | with_reducible refine ws_set ?_ | with_reducible refine ws_ret ?_ | with_reducible refine we_ap ?_ | with_reducible refine wa_cons ?_ | with_reducible refine wa_nil ?_ | with_reducible refine we_c ?_ | refine we_var rfl (fun z => by cases z) ?_ | refine wr_of (r := opSc _ _ _) rfl ?_ | refine wr_of (r := opEl _ _ _) rfl ?_ | refine wr_of (r := opTk _ _ _) rfl ?_)
        have q := Int.emod_lt_of_pos (0 + (j : Nat)) hv
        have p := Int.emod_nonneg (0 + (j : Nat)) (Int.ne_of_gt hv)
        obtain ⟨v, mv, ev⟩ := atI_mem p q
        obtain ⟨n, _, rfl⟩ := List.mem_map.mp mv
        refine wr_el rfl (idx_of ev) ?_
        exact ⟨(true, _), _, rfl, ⟨rfl, rfl⟩, rfl⟩
      · subst he
        obtain ⟨h5, ks, h6, h7⟩ := ints_ps hp
        rw [h5, h6]
        rw [hl, intsOf_len] at h7
        exact ⟨_, rfl, _, rfl, ks, h7, rfl⟩
    · exact ⟨_, rfl, ks1, l4, rfl⟩
  rintro e ⟨ks2, l5, rfl⟩
  -- way > 2
  refine ws_mid (fun e => ∃ (ks : List Int) (a' c' : Int) (s8 s9 : Slot), ks.length = many.toNat ∧ e = [.own true true [.int a', .int b, .int c'], .fro t (.int most), .fro true (.int many), .fro true (.int step), .fro true (.int base), .own false true (vs.map PyData.int), .own false true (ks.map PyData.int), .fro true (.int way), s8, s9, .un]) ?_ ?_
  · refine ws_if (wt_val ?_)
    repeat (first | with_reducible refine ws_seq ?_ | with_reducible refine ws_set ?_ | with_reducible refine ws_ret ?_ | with_reducible refine we_ap ?_ | with_reducible refine wa_cons ?_ | with_reducible refine wa_nil ?_ | with_reducible refine we_c ?_ | refine we_var rfl (fun z => by cases z) ?_ | refine wr_of (r := opSc _ _ _) rfl ?_ | refine wr_of (r := opEl _ _ _) rfl ?_ | refine wr_of (r := opTk _ _ _) rfl ?_)
    refine ⟨_, rfl, fun _ => ?_, fun _ => ?_⟩
    · repeat (first | with_reducible refine ws_seq ?_ | with_reducible refine ws_set ?_ | with_reducible refine ws_ret ?_ | with_reducible refine we_ap ?_ | with_reducible refine wa_cons ?_ | with_reducible refine wa_nil ?_ | with_reducible refine we_c ?_ | refine we_var rfl (fun z => by cases z) ?_ | refine wr_of (r := opSc _ _ _) rfl ?_ | refine wr_of (r := opEl _ _ _) rfl ?_ | refine wr_of (r := opTk _ _ _) rfl ?_)
      refine wr_take rfl rfl (by decide) (by decide) fun r7 a11 c11 p9 q9 => ?_
      repeat (first | with_reducible refine ws_seq ?_ | with_reducible refine ws_set ?_ | with_reducible refine ws_ret ?_ | with_reducible refine we_ap ?_ | with_reducible refine wa_cons ?_ | with_reducible refine wa_nil ?_ | with_reducible refine we_c ?_ | refine we_var rfl (fun z => by cases z) ?_ | refine wr_of (r := opSc _ _ _) rfl ?_ | refine wr_of (r := opEl _ _ _) rfl ?_ | refine wr_of (r := opTk _ _ _) rfl ?_)
      refine ⟨_, rfl, _, rfl, ?_⟩
      have hh : 0 ≤ (if many / 2 + r7 < many then many / 2 + r7 else many) ∧ (if many / 2 + r7 < many then many / 2 + r7 else many) ≤ many := by
        have : 0 ≤ many / 2 := Int.ediv_nonneg p2 (by decide)
        split <;> omega
      generalize (if many / 2 + r7 < many then many / 2 + r7 else many) = heavy at hh
      repeat (first | with_reducible refine ws_seq ?_ | with_reducible refine ws_set ?_ | with_reducible refine ws_ret ?_ | with_reducible refine we_ap ?_ | with_reducible refine wa_cons ?_ | with_reducible refine wa_nil ?_ | with_reducible refine we_c ?_ | refine we_var rfl (fun z => by cases z) ?_ | refine wr_of (r := opSc _ _ _) rfl ?_ | refine wr_of (r := opEl _ _ _) rfl ?_ | refine wr_of (r := opTk _ _ _) rfl ?_)
      refine wr_el rfl (add_list (by rw [cutL_map, show (1 : Int) = ((1 : Nat) : Int) from rfl, cutL_from, List.length_map, List.length_drop]; show _ + 1 ≤ _; omega)) ?_
      refine ⟨_, rfl, _, rfl, ?_⟩
      have hb : ∃ bs : List Int, (cutL (vs.map PyData.int) (some 1) none ++ [PyData.int (base - step)]) = bs.map PyData.int ∧ bs.length = vs.length := ⟨vs.drop 1 ++ [base - step], by rw [cutL_map, show (1 : Int) = ((1 : Nat) : Int) from rfl, cutL_from, List.map_append]; rfl, by rw [List.length_append, List.length_drop, List.length_singleton]; omega⟩
      obtain ⟨bs, hb1, hb2⟩ := hb
      have lb : (bs.map PyData.int).length = bs.length := List.length_map _
      refine ws_set ?_
      show WE _ [.own true true [.int a11, .int b, .int c11], .fro t (.int most), .fro true (.int many), .fro true (.int step), .fro true (.int base), .own false true (vs.map PyData.int), .own false true (ks2.map PyData.int), .fro true (.int way), .fro true (.int heavy), .own false true (cutL (vs.map PyData.int) (some 1) none ++ [PyData.int (base - step)]), .un] _
      rw [hb1]
      refine we_ap (wa_cons ?_)
      repeat (first | with_reducible refine ws_seq ?_ | with_reducible refine ws_set ?_ | with_reducible refine ws_ret ?_ | with_reducible refine we_ap ?_ | with_reducible refine wa_cons ?_ | with_reducible refine wa_nil ?_ | with_reducible refine we_c ?_ | refine we_var rfl (fun z => by cases z) ?_ | refine wr_of (r := opSc _ _ _) rfl ?_ | refine wr_of (r := opEl _ _ _) rfl ?_ | refine wr_of (r := opTk _ _ _) rfl ?_)
      obtain ⟨v0, ev0⟩ := atI_ints (ns := vs) (i := 0) (by decide) (by omega)
      refine wr_el rfl (idx_of ev0) ?_
      repeat (first | with_reducible refine ws_seq ?_ | with_reducible refine ws_set ?_ | with_reducible refine ws_ret ?_ | with_reducible refine we_ap ?_ | with_reducible refine wa_cons ?_ | with_reducible refine wa_nil ?_ | with_reducible refine we_c ?_ | refine we_var rfl (fun z => by cases z) ?_ | refine wr_of (r := opSc _ _ _) rfl ?_ | refine wr_of (r := opEl _ _ _) rfl ?_ | refine wr_of (r := opTk _ _ _) rfl ?_)
      refine wr_el rfl (mul_list (xs := [.int v0]) (smallI_of (by omega) (by omega)) (by simp; omega)) ?_
      refine wa_cons (we_lc (wi_range1 ?_))
      repeat (first | with_reducible refine ws_seq ?_ | with_reducible refine ws_set ?_ | with_reducible refine ws_ret ?_ | with_reducible refine we_ap ?_ | with_reducible refine wa_cons ?_ | with_reducible refine wa_nil ?_ | with_reducible refine we_c ?_ | refine we_var rfl (fun z => by cases z) ?_ | refine wr_of (r := opSc _ _ _) rfl ?_ | refine wr_of (r := opEl _ _ _) rfl ?_ | refine wr_of (r := opTk _ _ _) rfl ?_)
      refine ⟨many - heavy, rfl, by omega, by omega, fun k e => ∃ (a' c' : Int), e = [.own true true [.int a', .int b, .int c'], .fro t (.int most), .fro true (.int many), .fro true (.int step), .fro true (.int base), .own false true (vs.map PyData.int), .own false true (ks2.map PyData.int), .fro true (.int way), .fro true (.int heavy), .own false true (bs.map PyData.int), .un], fun p => p.1 = true ∧ isInt p.2 = true, by rw [intsOf_len]; omega, rfl, ⟨a11, c11, rfl⟩, fun d hd k e he => ?_, fun ps e' hp hl he => ?_⟩
      · obtain ⟨a', c', rfl⟩ := he
        refine ⟨_, rfl, ?_⟩
        repeat (first | with_reducible refine ws_seq ?_ | with_reducible refine ws_set ?_ | with_reducible refine ws_ret ?_ | with_reducible refine we_ap ?_ | with_reducible refine wa_cons ?_ | with_reducible refine wa_nil ?_ | with_reducible refine we_c ?_ | refine we_var rfl (fun z => by cases z) ?_ | refine wr_of (r := opSc _ _ _) rfl ?_ | refine wr_of (r := opEl _ _ _) rfl ?_ | refine wr_of (r := opTk _ _ _) rfl ?_)
        refine wr_take rfl rfl (by rw [lb]; omega) (by rw [lb]; omega) fun r a c p q => ?_
        repeat (first | with_reducible refine ws_seq ?_ | with_reducible refine ws_set ?_ | with_reducible refine ws_ret ?_ | with_reducible refine we_ap ?_ | with_reducible refine wa_cons ?_ | with_reducible refine wa_nil ?_ | with_reducible refine we_c ?_ | refine we_var rfl (fun z => by cases z) ?_ | refine wr_of (r := opSc _ _ _) rfl ?_ | refine wr_of (r := opEl _ _ _) rfl ?_ | refine wr_of (r := opTk _ _ _) rfl ?_)
        rw [lb] at q
        obtain ⟨n, en⟩ := atI_ints p q
        refine wr_el rfl (idx_of en) ?_
        exact ⟨(true, _), _, rfl, ⟨rfl, rfl⟩, _, _, rfl⟩
      · obtain ⟨a', c', rfl⟩ := he
        obtain ⟨h5, ks, h6, h7⟩ := ints_ps hp
        rw [h5, h6]
        rw [hl, intsOf_len] at h7
        refine wa_nil ?_
        have hrep : (List.replicate heavy.toNat [PyData.int v0]).flatten = (List.replicate heavy.toNat v0).map PyData.int := by
          rw [List.map_replicate]
          exact List.flatten_replicate_singleton
        rw [hrep]
        refine wr_el rfl (add_list (by rw [List.length_map, List.length_map, List.length_replicate]; omega)) ?_
        refine ⟨_, rfl, _, rfl, List.replicate heavy.toNat v0 ++ ks, a', c', _, _, by rw [List.length_append, List.length_replicate]; omega, by rw [List.map_append]; rfl⟩
    · exact ⟨_, rfl, ks2, _, _, _, _, l5, rfl⟩
  rintro e ⟨ks3, a12, c12, s8, s9, l6, rfl⟩
  -- way == 4
  refine ws_mid (fun e => ∃ (ks : List Int), ks.length = many.toNat ∧ e = [.own true true [.int a12, .int b, .int c12], .fro t (.int most), .fro true (.int many), .fro true (.int step), .fro true (.int base), .own false true (vs.map PyData.int), .own false true (ks.map PyData.int), .fro true (.int way), s8, s9, .un]) ?_ ?_
  · refine ws_if (wt_val ?_)
    repeat (first | with_reducible refine ws_seq ?_ | with_reducible refine ws_set ?_ | with_reducible refine ws_ret ?_ | with_reducible refine we_ap ?_ | with_reducible refine wa_cons ?_ | with_reducible refine wa_nil ?_ | with_reducible refine we_c ?_ | refine we_var rfl (fun z => by cases z) ?_ | refine wr_of (r := opSc _ _ _) rfl ?_ | refine wr_of (r := opEl _ _ _) rfl ?_ | refine wr_of (r := opTk _ _ _) rfl ?_)
    refine ⟨_, rfl, fun _ => ?_, fun _ => ?_⟩
    · repeat (first | with_reducible refine ws_seq ?_ | with_reducible refine ws_set ?_ | with_reducible refine ws_ret ?_ | with_reducible refine we_ap ?_ | with_reducible refine wa_cons ?_ | with_reducible refine wa_nil ?_ | with_reducible refine we_c ?_ | refine we_var rfl (fun z => by cases z) ?_ | refine wr_of (r := opSc _ _ _) rfl ?_ | refine wr_of (r := opEl _ _ _) rfl ?_ | refine wr_of (r := opTk _ _ _) rfl ?_)
      exact ⟨_, rfl, _, rfl, ks3.reverse, by rw [List.length_reverse, l6], by rw [List.map_reverse]; rfl⟩
    · exact ⟨_, rfl, ks3, l6, rfl⟩
  rintro e ⟨ks4, l7, rfl⟩
  -- way == 5
  refine ws_mid (fun e => ∃ (ks : List Int) (a' b' c' : Int), ks.length = many.toNat ∧ e = [.own true true [.int a', .int b', .int c'], .fro t (.int most), .fro true (.int many), .fro true (.int step), .fro true (.int base), .own false true (vs.map PyData.int), .own false true (ks.map PyData.int), .fro true (.int way), s8, s9, .un]) ?_ ?_
  · refine ws_if (wt_val ?_)
    repeat (first | with_reducible refine ws_seq ?_ | with_reducible refine ws_set ?_ | with_reducible refine ws_ret ?_ | with_reducible refine we_ap ?_ | with_reducible refine wa_cons ?_ | with_reducible refine wa_nil ?_ | with_reducible refine we_c ?_ | refine we_var rfl (fun z => by cases z) ?_ | refine wr_of (r := opSc _ _ _) rfl ?_ | refine wr_of (r := opEl _ _ _) rfl ?_ | refine wr_of (r := opTk _ _ _) rfl ?_)
    refine ⟨_, rfl, fun _ => ?_, fun _ => ?_⟩
    · refine ws_set (we_ap (wa_cons (we_var rfl (fun z => by cases z) (wa_cons (we_var rfl (fun z => by cases z) (wa_nil ?_))))))
      refine wr_mixed rfl (fun _ => rfl) (by omega) fun ms a b c hl => ?_
      exact ⟨_, rfl, _, rfl, ms, a, b, c, by omega, rfl⟩
    · exact ⟨_, rfl, ks4, _, _, _, l7, rfl⟩
  rintro e ⟨ks5, a13, b13, c13, l8, rfl⟩
  refine ws_ret (we_var rfl (fun z => by cases z) ?_)
  exact ⟨ks5, a13, b13, c13, _, rfl, rfl, rfl, by omega⟩
theorem kinds_spec (a b c most : Int) (t : Bool) (h0 : 0 ≤ most) (h1 : most ≤ 1000) : ∃ (ms : List Int) (a' b' c' : Int), fn_law_kinds [.o true [.int a, .int b, .int c], .v t (.int most)] = .ok (.nw true (ms.map PyData.int)) [some (true, [.int a', .int b', .int c']), none] ∧ ms.length ≤ most.toNat := by
  obtain ⟨ms, a', b', c', e, h, h2, h3, hl⟩ := kinds_key a b c most t h0 h1
  exact ⟨ms, a', b', c', runFn_rt rfl h (by simp only [resTok, h3]) (by simp only [outsOf, h2]), hl⟩
theorem pot_spec (x : Int) (t : Bool) : fn_law_pot [.v t (.int x)] = .ok (.nw true [.int (if x - 10 ^ 18 > 0 then x - 10 ^ 18 else 0), .int (x % 99999999977), .int 0]) [none] := by
  have key : WS d_law_pot [.fro t (.int x)] fun o => o = .rt (.nw true [.int (if x - 10 ^ 18 > 0 then x - 10 ^ 18 else 0), .int (x % 99999999977), .int 0]) [.fro t (.int x)] := by
    unfold d_law_pot
    refine ws_ret ?_
    repeat (first | with_reducible refine ws_seq ?_ | with_reducible refine ws_set ?_ | with_reducible refine ws_ret ?_ | with_reducible refine we_ap ?_ | with_reducible refine wa_cons ?_ | with_reducible refine wa_nil ?_ | with_reducible refine we_c ?_ | refine we_var rfl (fun z => by cases z) ?_ | refine wr_of (r := opSc _ _ _) rfl ?_ | refine wr_of (r := opEl _ _ _) rfl ?_ | refine wr_of (r := opTk _ _ _) rfl ?_)
    rfl
  exact runFn_rt rfl key rfl rfl
end Lb
namespace Lb
open PySem hiding Env Tok
open L2 (atI ixN)
open DL
/-! ### groups -/
def grpN (ns : List Int) : List (List Nat) := (grp ns).map (·.2)
theorem grpD_eq (ns : List Int) : grpD ns = (grpN ns).map natsD := by
  unfold grpD grpN
  rw [List.map_map]
  rfl
theorem grpN_len (ns : List Int) : (grpN ns).length ≤ ns.length := by
  unfold grpN grp
  have := Bd.grp (l := ns) (s := 0) (n := 0) (acc := []) ⟨Nat.le_refl _, fun p hp => by cases hp⟩
  rw [List.length_map]
  have := this.1
  omega
theorem grpN_sizes (ns : List Int) : ∀ g ∈ grpN ns, g.length ≤ ns.length := by
  intro g hg
  unfold grpN grp at hg
  obtain ⟨p, hp, rfl⟩ := List.mem_map.mp hg
  have := Bd.grp (l := ns) (s := 0) (n := 0) (acc := []) ⟨Nat.le_refl _, fun p hp => by cases hp⟩
  have := this.2 p hp
  omega
def big (n : Nat) (g : List Nat) : Bool := decide (n < 2 * g.length)
def mthF (ns : List Int) : List Nat := ((grpN ns).filter (big ns.length)).head?.getD []
theorem unX_nwT (xs : List D) : unX (.nw true xs) = some (.nw true xs) := by
  cases h : xs.all DL.scal <;> simp only [unX, h]
theorem fnGrp_at (ns : List Int) (t : Bool) (hn : ns.length ≤ 1000) : fnGrp [.v t (.list (ns.map PyData.int))] = .ok (.nw true (grpD ns)) [none] := by
  simp only [fnGrp, intsD_map, decide_eq_true hn]
theorem grp_call {fn : Fn} (hf : fn = fnGrp) (ns : List Int) (t : Bool) (hn : ns.length ≤ 1000) {env : Env} (h0 : env[0]? = some (.fro t (.list (ns.map PyData.int)))) : dAp (opCallX [false] fn) [eVar 0] env = .ok (.nw true (grpD ns)) env := by
  subst hf
  have ev : eVar 0 env = .ok (.sl 0) env := by unfold eVar; rw [h0]
  have := callX_ok (mask := [false]) (fn := fnGrp) (ts := [.sl 0]) (env := env) (e1 := env) (e2 := env) (q := none) (w := none) (args := [.v false (.list (ns.map PyData.int))]) rfl (by simp only [argsX, rd, h0]) (fnGrp_at ns false hn) (unX_nwT _) rfl
  simp only [dAp, dArgs, ev, this]
theorem dap1 {op : List Tok → Env → ER} {f : DE} {env e1 : Env} {t1 : Tok} (h1 : f env = .ok t1 e1) : dAp op [f] env = op [t1] e1 := by simp only [dAp, dArgs, h1]
theorem dap2 {op : List Tok → Env → ER} {f g : DE} {env e1 e2 : Env} {t1 t2 : Tok} (h1 : f env = .ok t1 e1) (h2 : g e1 = .ok t2 e2) : dAp op [f, g] env = op [t1, t2] e2 := by simp only [dAp, dArgs, h1, h2]
theorem two64 : DL.small64 2 = true := by decide
theorem big_eval {i j : Nat} {xs : List D} {ys : List D} {b c : Bool} {env : Env} (hi : env[i]? = some (.fro b (.list xs))) (hj : env[j]? = some (.fro c (.list ys))) : dVal (dAp (opSc dGt) [dAp (opEl dMul) [eC (.int 2), dAp (opSc dLen) [eVar i]], dAp (opSc dLen) [eVar j]]) env = .ok (decide (ys.length < 2 * xs.length)) env := by
  have e1 : eVar i env = .ok (.sl i) env := by unfold eVar; rw [hi]
  have e2 : eVar j env = .ok (.sl j) env := by unfold eVar; rw [hj]
  have m : ∀ k : Int, dMul [(true, .int 2), (true, .int k)] = some (.fz true (.int (2 * k))) := fun k => mul_int two64
  have l1 : dAp (opSc dLen) [eVar i] env = .ok (.fz true (.int (xs.length : Nat))) env := by simp only [dAp, dArgs, e1, opSc, rds, rd, hi, dLen, lenD, Option.map_some]
  have l2 : dAp (opSc dLen) [eVar j] env = .ok (.fz true (.int (ys.length : Nat))) env := by simp only [dAp, dArgs, e2, opSc, rds, rd, hj, dLen, lenD, Option.map_some]
  have l3 : dAp (opEl dMul) [eC (.int 2), dAp (opSc dLen) [eVar i]] env = .ok (.fz true (.int (2 * (xs.length : Nat)))) env := by
    rw [dap2 (f := eC (.int 2)) rfl l1]
    simp only [opEl, views, view, m]
  have l4 := dap2 (op := opSc dGt) l3 l2
  have l5 : opSc dGt [.fz true (.int (2 * (xs.length : Nat))), .fz true (.int (ys.length : Nat))] env = .ok (.fz true (.bool (decide (((ys.length : Nat) : Int) < 2 * (xs.length : Nat))))) env := rfl
  simp only [dVal, l4, l5, rd]
  congr 1
  exact decide_eq_decide.mpr (by omega)
theorem natsD_list (g : List Nat) : natsD g = .list (g.map fun i => .int (i : Nat)) := rfl
theorem filt (n : Nat) : ∀ gs : List (List Nat), (gs.map natsD).filterMap (fun d => match d with | .list xs => if n < 2 * xs.length then some (true, d) else none | _ => none) = (gs.filter (big n)).map fun g => (true, natsD g)
  | [] => rfl
  | g :: r => by
    have ih := filt n r
    rw [List.map_cons, natsD_list]
    by_cases h : n < 2 * g.length
    · rw [List.filterMap_cons_some (b := (true, natsD g)) (by simp [h, natsD_list]), ih, List.filter_cons_of_pos (by simp [big, h])]
      rfl
    · rw [List.filterMap_cons_none (by simp [h]), ih, List.filter_cons_of_neg (by simp [big, h])]
theorem half_key (ns : List Int) (t : Bool) (hn : ns.length ≤ 1000) : WS d_law_half [.fro t (.list (ns.map PyData.int)), .un, .un] fun o => ∃ s1 s2, o = .rt (.fz true (natsD (mthF ns))) [.fro t (.list (ns.map PyData.int)), s1, s2] := by
  unfold d_law_half
  have hcall := grp_call (fn := fn_law_groups) rfl ns t hn (env := [.fro t (.list (ns.map PyData.int)), .un, .un]) rfl
  have hs : iSeq (dAp (opCallX [false] fn_law_groups) [eVar 0]) [.fro t (.list (ns.map PyData.int)), .un, .un] = .ok true (grpD ns) none [.fro t (.list (ns.map PyData.int)), .un, .un] := by
    simp only [iSeq, hcall, take]
  have hc := compL_map (own := [2]) (t := .nm 2) (tt := dVal (dAp (opSc dGt) [dAp (opEl dMul) [eC (.int 2), dAp (opSc dLen) [eVar 2]], dAp (opSc dLen) [eVar 0]])) (el := eVar 2) (b := true) (env := [.fro t (.list (ns.map PyData.int)), .un, .un])
    (h := fun d => match d with | .list xs => if ns.length < 2 * xs.length then some (true, d) else none | _ => none) (ds := grpD ns) (acc := []) (fun d hd => by
      rw [grpD_eq] at hd
      obtain ⟨g, hg, rfl⟩ := List.mem_map.mp hd
      refine ⟨[.fro t (.list (ns.map PyData.int)), .un, .fro true (natsD g)], [.fro t (.list (ns.map PyData.int)), .un, .fro true (natsD g)], _, rfl, big_eval (i := 2) (j := 0) rfl rfl, ?_⟩
      rw [List.length_map, List.length_map]
      by_cases hb : ns.length < 2 * g.length
      · exact .inr ⟨decide_eq_true hb, .sl 2, _, (true, natsD g), _, rfl, rfl, by simp [natsD_list, hb], rfl⟩
      · exact .inl ⟨decide_eq_false hb, by simp [natsD_list, hb], rfl⟩)
  have hlen : (grpD ns).length ≤ 16777216 := by
    rw [grpD_eq, List.length_map]
    have := grpN_len ns
    omega
  rw [grpD_eq, filt] at hc
  have hcomp : eComp [2] (.nm 2) (iSeq (dAp (opCallX [false] fn_law_groups) [eVar 0])) (dVal (dAp (opSc dGt) [dAp (opEl dMul) [eC (.int 2), dAp (opSc dLen) [eVar 2]], dAp (opSc dLen) [eVar 0]])) (eVar 2) [.fro t (.list (ns.map PyData.int)), .un, .un] = .ok (.nw true (((grpN ns).filter (big ns.length)).map natsD)) [.fro t (.list (ns.map PyData.int)), .un, .un] := by
    have hp : plainAt [.fro t (.list (ns.map PyData.int)), .un, .un] [2] = true := rfl
    have hw : wipeE [.fro t (.list (ns.map PyData.int)), .un, .un] [2] = [.fro t (.list (ns.map PyData.int)), .un, .un] := rfl
    have hu : unwipeE [.fro t (.list (ns.map PyData.int)), .un, .un] [.fro t (.list (ns.map PyData.int)), .un, .un] [2] = [.fro t (.list (ns.map PyData.int)), .un, .un] := rfl
    have ht : tagAll (((grpN ns).filter (big ns.length)).map fun g => (true, natsD g)) = true := tagAll_true fun p hp => by
      obtain ⟨g, _, rfl⟩ := List.mem_map.mp hp
      rfl
    rw [← grpD_eq] at hc
    simp only [eComp, hs, decide_eq_true hlen, hp, Bool.and_self, hw, hc, hu, List.nil_append, ht, List.map_map]
    rfl
  have hgl : ((grpN ns).filter (big ns.length)).length ≤ 1000 := by
    have := List.length_filter_le (big ns.length) (grpN ns)
    have := grpN_len ns
    omega
  refine ws_seq (ws_set (wr_of hcomp ⟨_, rfl, _, rfl, ?_⟩))
  refine ws_ret ?_
  repeat (first | with_reducible refine ws_seq ?_ | with_reducible refine ws_set ?_ | with_reducible refine ws_ret ?_ | with_reducible refine we_ap ?_ | with_reducible refine wa_cons ?_ | with_reducible refine wa_nil ?_ | with_reducible refine we_c ?_ | refine we_var rfl (fun z => by cases z) ?_ | refine wr_of (r := opSc _ _ _) rfl ?_ | refine wr_of (r := opEl _ _ _) rfl ?_ | refine wr_of (r := opTk _ _ _) rfl ?_)
  refine wr_el (ps := [(true, .list (((grpN ns).filter (big ns.length)).map natsD)), (true, .list [.list []])]) rfl (add_list (by rw [List.length_map]; show _ + 1 ≤ _; omega)) ?_
  repeat (first | with_reducible refine ws_seq ?_ | with_reducible refine ws_set ?_ | with_reducible refine ws_ret ?_ | with_reducible refine we_ap ?_ | with_reducible refine wa_cons ?_ | with_reducible refine wa_nil ?_ | with_reducible refine we_c ?_ | refine we_var rfl (fun z => by cases z) ?_ | refine wr_of (r := opSc _ _ _) rfl ?_ | refine wr_of (r := opEl _ _ _) rfl ?_ | refine wr_of (r := opTk _ _ _) rfl ?_)
  have hz : atI (((grpN ns).filter (big ns.length)).map natsD ++ [.list []]) 0 = some (natsD (mthF ns)) := by
    unfold mthF
    cases (grpN ns).filter (big ns.length) with
    | nil => rfl
    | cons g r => exact L2.atI_nat (j := 0) rfl
  refine wr_el rfl (idx_of hz) ?_
  exact ⟨_, _, rfl⟩
theorem half_spec (ns : List Int) (t : Bool) (hn : ns.length ≤ 1000) : fn_law_half [.v t (.list (ns.map PyData.int))] = .ok (.fz true (natsD (mthF ns))) [none] := by
  obtain ⟨s1, s2, h⟩ := half_key ns t hn
  exact runFn_rt rfl h rfl rfl
theorem mth_loop (K : List D) (t : Bool) : ∀ (gs : List (List Nat)) (s : Slot), (s = .un ∨ ∃ g, s = .fro true (natsD g)) →
    (∃ s', forL (.nm 1) (sIf (dVal (dAp (opSc dGt) [dAp (opEl dMul) [eC (.int 2), dAp (opSc dLen) [eVar 1]], dAp (opSc dLen) [eVar 0]])) (sRet (eVar 1)) sNop) true (gs.map natsD) [.fro t (.list K), s] = .nx [.fro t (.list K), s'] ∧ gs.filter (big K.length) = []) ∨
    (∃ g r, forL (.nm 1) (sIf (dVal (dAp (opSc dGt) [dAp (opEl dMul) [eC (.int 2), dAp (opSc dLen) [eVar 1]], dAp (opSc dLen) [eVar 0]])) (sRet (eVar 1)) sNop) true (gs.map natsD) [.fro t (.list K), s] = .rt (.sl 1) [.fro t (.list K), .fro true (natsD g)] ∧ gs.filter (big K.length) = g :: r)
  | [], s, _ => .inl ⟨s, rfl, rfl⟩
  | g :: gs, s, hs => by
    have hb : bind1 (.nm 1) true (natsD g) [.fro t (.list K), s] = some [.fro t (.list K), .fro true (natsD g)] := by
      rcases hs with rfl | ⟨g', rfl⟩ <;> rfl
    have he := big_eval (i := 1) (j := 0) (env := [.fro t (.list K), .fro true (natsD g)]) rfl rfl
    rw [List.length_map] at he
    by_cases h : K.length < 2 * g.length
    · refine .inr ⟨g, gs.filter (big K.length), ?_, by rw [List.filter_cons_of_pos (by simp [big, h])]⟩
      rw [decide_eq_true h] at he
      rw [List.map_cons]
      simp only [forL, hb, if_t he]
      rfl
    · rw [decide_eq_false h] at he
      have hf : (g :: gs).filter (big K.length) = gs.filter (big K.length) := List.filter_cons_of_neg (by simp [big, h])
      rw [List.map_cons, hf]
      simp only [forL, hb, if_f he, sNop]
      exact mth_loop K t gs _ (.inr ⟨g, rfl⟩)
theorem mth_spec (ns : List Int) (t : Bool) (hn : ns.length ≤ 1000) : fn_more_than_half [.v t (.list (ns.map PyData.int))] = .ok (.fz true (natsD (mthF ns))) [none] ∨ (fn_more_than_half [.v t (.list (ns.map PyData.int))] = .ok (.nw true []) [none] ∧ mthF ns = []) := by
  have hcall := grp_call (fn := fn_by_kind) rfl ns t hn (env := [.fro t (.list (ns.map PyData.int)), .un]) rfl
  have hs : iSeq (dAp (opCallX [false] fn_by_kind) [eVar 0]) [.fro t (.list (ns.map PyData.int)), .un] = .ok true (grpD ns) none [.fro t (.list (ns.map PyData.int)), .un] := by
    simp only [iSeq, hcall, take]
  have hl := mth_loop (ns.map PyData.int) t (grpN ns) .un (.inl rfl)
  rw [← grpD_eq, List.length_map] at hl
  rcases hl with ⟨s', h1, h2⟩ | ⟨g, r, h1, h2⟩
  · refine .inr ⟨?_, by unfold mthF; rw [h2]; rfl⟩
    have key : d_more_than_half [.fro t (.list (ns.map PyData.int)), .un] = .rt (.nw true []) [.fro t (.list (ns.map PyData.int)), s'] := by
      unfold d_more_than_half
      rw [seq_nx (e := [.fro t (.list (ns.map PyData.int)), s']) (by simp only [sFor, hs, h1])]
      rfl
    exact runFn_rt rfl key rfl rfl
  · refine .inl ?_
    have key : d_more_than_half [.fro t (.list (ns.map PyData.int)), .un] = .rt (.sl 1) [.fro t (.list (ns.map PyData.int)), .fro true (natsD g)] := by
      unfold d_more_than_half
      rw [seq_rt (t := .sl 1) (e := [.fro t (.list (ns.map PyData.int)), .fro true (natsD g)]) (by simp only [sFor, hs, h1])]
    have hm : mthF ns = g := by unfold mthF; rw [h2]; rfl
    rw [hm]
    exact runFn_rt rfl key rfl rfl
end Lb
namespace Mk01
open PySem PySem.Spec PyProof.Rows L2 DL Lb
def topS (i : Nat) : Stmt := PySem.Challenge.pw_morethanhalf_k01_more_than_half.main.body.getD i (.Pass ⟨0, 0, 0, 0⟩)
abbrev s_law_take : Stmt := topS 5
theorem sc_law_take : FnScope ["pot", "many", "found", "number"] ["pot", "many"] (defScope s_law_take) := ⟨rfl, rfl, rfl, by decide +kernel, rfl, by decide +kernel, by decide +kernel⟩
abbrev s_law_mixed : Stmt := topS 6
theorem sc_law_mixed : FnScope ["pot", "row", "left", "k"] ["pot", "row"] (defScope s_law_mixed) := ⟨rfl, rfl, rfl, by decide +kernel, rfl, by decide +kernel, by decide +kernel⟩
abbrev s_law_kinds : Stmt := topS 7
theorem sc_law_kinds : FnScope ["pot", "most", "many", "step", "base", "values", "kinds", "way", "heavy", "beside", "k"] ["pot", "most"] (defScope s_law_kinds) := ⟨rfl, rfl, rfl, by decide +kernel, rfl, by decide +kernel, by decide +kernel⟩
abbrev s_law_pot : Stmt := topS 4
theorem sc_law_pot : FnScope ["cell"] ["cell"] (defScope s_law_pot) := ⟨rfl, rfl, rfl, by decide +kernel, rfl, by decide +kernel, by decide +kernel⟩
abbrev s_by_kind : Stmt := topS 1
theorem sc_by_kind : FnScope ["kinds", "found", "thing", "kind"] ["kinds"] (defScope s_by_kind) := ⟨rfl, rfl, rfl, by decide +kernel, rfl, by decide +kernel, by decide +kernel⟩
abbrev s_more_than_half : Stmt := topS 2
theorem sc_more_than_half : FnScope ["kinds", "things"] ["kinds"] (defScope s_more_than_half) := ⟨rfl, rfl, rfl, by decide +kernel, rfl, by decide +kernel, by decide +kernel⟩
abbrev s_law_same : Stmt := topS 10
theorem sc_law_same : FnScope ["found", "due", "one", "other"] ["found", "due"] (defScope s_law_same) := ⟨rfl, rfl, rfl, by decide +kernel, rfl, by decide +kernel, by decide +kernel⟩
abbrev s_law_groups : Stmt := topS 8
theorem sc_law_groups : FnScope ["kinds", "found", "thing", "own", "group"] ["kinds"] (defScope s_law_groups) := ⟨rfl, rfl, rfl, by decide +kernel, rfl, by decide +kernel, by decide +kernel⟩
abbrev s_law_half : Stmt := topS 9
theorem sc_law_half : FnScope ["kinds", "found", "group"] ["kinds"] (defScope s_law_half) := ⟨rfl, rfl, rfl, by decide +kernel, rfl, by decide +kernel, by decide +kernel⟩
abbrev s_law : Stmt := topS 11
theorem sc_law : FnScope ["script", "cell", "kinds", "handed", "again", "told"] ["script"] (defScope s_law) := ⟨rfl, rfl, rfl, by decide +kernel, rfl, by decide +kernel, by decide +kernel⟩
def d_law : DS :=
  sSeq (sFor (.nm 1) (iSeq (dAp (opEl dAdd) [dAp (opTk dList) [eC (.int 0)], dAp (opEl dCut01) [eVar 0, eC (.int 8)]])) (sSeq (sSet 2 (dAp (opCallX [true, false] fn_law_kinds) [dAp (opCallX [false] fn_law_pot) [eVar 1], eC (.int 200)])) (sSeq (sSet 3 (dAp (opEl dListOf) [eVar 2])) (sFor (.nm 4) (iRange [eC (.int 2)]) (sSeq (sSet 5 (dAp (opCallX [false] fn_more_than_half) [eVar 3])) (sSeq (sIf (dOr (dNot (dVal (dAp (opCallX [false, false] (fn_law_same fuel_law_same)) [eVar 5, dAp (opCallX [false] fn_law_half) [eVar 2]]))) (dVal (dAp (opSc dNe) [eVar 3, eVar 2]))) (sRet (eC (.bool false))) (sNop)) (sDrop (eMut 5 mAppend [eC (.int 0)])))))))) (sRet (eC (.bool true)))
def fn_law : Fn := runFn 1 6 d_law
structure Top (K : PySem.W.Frag) (mg : Str → Option Value) (cm : String → Addr) where
  a_law_take : Addr
  fd_law_take : FuncData
  F_law_take : Fun K "_law_take" "_law_take" s_law_take a_law_take fd_law_take
  g_law_take : mg "_law_take" = some (.ref a_law_take)
  b_law_take : Binds K fd_law_take ["pot", "many"] []
  a_law_mixed : Addr
  fd_law_mixed : FuncData
  F_law_mixed : Fun K "_law_mixed" "_law_mixed" s_law_mixed a_law_mixed fd_law_mixed
  g_law_mixed : mg "_law_mixed" = some (.ref a_law_mixed)
  b_law_mixed : Binds K fd_law_mixed ["pot", "row"] []
  a_law_kinds : Addr
  fd_law_kinds : FuncData
  F_law_kinds : Fun K "_law_kinds" "_law_kinds" s_law_kinds a_law_kinds fd_law_kinds
  g_law_kinds : mg "_law_kinds" = some (.ref a_law_kinds)
  b_law_kinds : Binds K fd_law_kinds ["pot", "most"] []
  a_law_pot : Addr
  fd_law_pot : FuncData
  F_law_pot : Fun K "_law_pot" "_law_pot" s_law_pot a_law_pot fd_law_pot
  g_law_pot : mg "_law_pot" = some (.ref a_law_pot)
  b_law_pot : Binds K fd_law_pot ["cell"] []
  a_by_kind : Addr
  fd_by_kind : FuncData
  F_by_kind : Fun K "by_kind" "by_kind" s_by_kind a_by_kind fd_by_kind
  g_by_kind : mg "by_kind" = some (.ref a_by_kind)
  b_by_kind : Binds K fd_by_kind ["kinds"] []
  a_more_than_half : Addr
  fd_more_than_half : FuncData
  F_more_than_half : Fun K "more_than_half" "more_than_half" s_more_than_half a_more_than_half fd_more_than_half
  g_more_than_half : mg "more_than_half" = some (.ref a_more_than_half)
  b_more_than_half : Binds K fd_more_than_half ["kinds"] []
  a_law_same : Addr
  fd_law_same : FuncData
  F_law_same : Fun K "_law_same" "_law_same" s_law_same a_law_same fd_law_same
  g_law_same : mg "_law_same" = some (.ref a_law_same)
  b_law_same : Binds K fd_law_same ["found", "due"] []
  a_law_groups : Addr
  fd_law_groups : FuncData
  F_law_groups : Fun K "_law_groups" "_law_groups" s_law_groups a_law_groups fd_law_groups
  g_law_groups : mg "_law_groups" = some (.ref a_law_groups)
  b_law_groups : Binds K fd_law_groups ["kinds"] []
  a_law_half : Addr
  fd_law_half : FuncData
  F_law_half : Fun K "_law_half" "_law_half" s_law_half a_law_half fd_law_half
  g_law_half : mg "_law_half" = some (.ref a_law_half)
  b_law_half : Binds K fd_law_half ["kinds"] []
  a_law : Addr
  fd_law : FuncData
  F_law : Fun K "law" "law" s_law a_law fd_law
  g_law : mg "law" = some (.ref a_law)
  b_law : Binds K fd_law ["script"] []
  z_bool : mg "bool" = none
  z_enumerate : mg "enumerate" = none
  z_int : mg "int" = none
  z_isinstance : mg "isinstance" = none
  z_len : mg "len" = none
  z_list : mg "list" = none
  z_max : mg "max" = none
  z_min : mg "min" = none
  z_range : mg "range" = none
  z_sorted : mg "sorted" = none
  z_str : mg "str" = none
  z_tuple : mg "tuple" = none
  z_zip : mg "zip" = none
section
variable {P : Program} {w : World} {K : PySem.W.Frag} {mg : Str → Option Value} {base : Heap} {cm : String → Addr}
theorem ok_law_take (T : Top K mg cm) : FnOk P w K mg base (L2.CX P w) 1 T.a_law_take T.fd_law_take ["pot", "many"] (spD cm fn_law_take) :=
  fn_ok T.F_law_take sc_law_take fun cdv A outer s0 H E hr =>
    g_cons (gs_if (gt_gt (ge_idx (fun _ _ => rfl) (gv 0) (ge_int)) (ge_int)) (g_cons (gs_set (i := 2) sc_law_take.nd rfl (by first | exact Or.inl rfl | exact Or.inr rfl) (ge_mod (ge_idx (fun _ _ => rfl) (gv 0) (ge_int)) (gv 1))) (g_cons (gs_setIx 0 (ge_div (ge_idx (fun _ _ => rfl) (gv 0) (ge_int)) (gv 1)) (gv 0) (ge_int)) (g_one (gs_ret (gv 2))))) (g_nil)) (g_cons (gs_setIx 0 (ge_add (ge_idx (fun _ _ => rfl) (gv 0) (ge_int)) (ge_int)) (gv 0) (ge_int)) (g_cons (gs_set (i := 3) sc_law_take.nd rfl (by first | exact Or.inl rfl | exact Or.inr rfl) (ge_mod (ge_add (ge_idx (fun _ _ => rfl) (gv 0) (ge_int)) (ge_mul (ge_int) (ge_idx (fun _ _ => rfl) (gv 0) (ge_int)))) (ge_int))) (g_cons (gs_set (i := 3) sc_law_take.nd rfl (by first | exact Or.inl rfl | exact Or.inr rfl) (ge_mod (ge_mul (gv 3) (gv 3)) (ge_int))) (g_cons (gs_set (i := 3) sc_law_take.nd rfl (by first | exact Or.inl rfl | exact Or.inr rfl) (ge_mod (ge_mul (gv 3) (ge_add (gv 3) (ge_int))) (ge_int))) (g_one (gs_ret (ge_mod (ge_div (gv 3) (ge_int)) (gv 1))))))))
theorem ok_law_mixed (T : Top K mg cm) : FnOk P w K mg base (L2.CX P w) 2 T.a_law_mixed T.fd_law_mixed ["pot", "row"] (spD cm fn_law_mixed) :=
  fn_ok T.F_law_mixed sc_law_mixed fun cdv A outer s0 H E hr =>
    g_cons (gs_set (i := 2) sc_law_mixed.nd rfl (by first | exact Or.inl rfl | exact Or.inr rfl) (ge_ctE call_list_of el_listOf (by rfl) T.z_list (by decide +kernel) (ga_cons (gv 1) ga_nil))) (g_one (gs_ret (ge_comp (own := [("k", 3)]) (t := .nm 3) (by rfl) sc_law_mixed.nd (gi_range1 (by rfl) T.z_range (ga_cons (ge_cbS call_len sc_len (by rfl) T.z_len PySem.boot_len (ga_cons (gv 1) ga_nil)) ga_nil)) (blkOk_by (own := [("k", 3)]) (N := ["pot", "row", "left", "k"]) (sc := defScope s_law_mixed) (by decide +kernel)) (fun _ _ _ _ _ => gg_name (i := 3) sc_law_mixed.nd rfl (by first | exact Or.inl rfl | exact Or.inr rfl)) (fun _ _ _ _ _ => gts_nil) (fun _ _ _ _ _ => ge_popAt 2 (gv 2) (ga_cons (ge_callX (ok_law_take T) (hr.mono (by decide)) (by rfl) T.g_law_take T.F_law_take.kp T.b_law_take takes0 (ga_cons (gv 0) (ga_cons (ge_cbS call_len sc_len (by rfl) T.z_len PySem.boot_len (ga_cons (gv 2) ga_nil)) ga_nil))) ga_nil)))))
theorem ok_law_kinds (T : Top K mg cm) : FnOk P w K mg base (L2.CX P w) 3 T.a_law_kinds T.fd_law_kinds ["pot", "most"] (spD cm fn_law_kinds) :=
  fn_ok T.F_law_kinds sc_law_kinds fun cdv A outer s0 H E hr =>
    g_cons (gs_set (i := 2) sc_law_kinds.nd rfl (by first | exact Or.inl rfl | exact Or.inr rfl) (ge_callX (ok_law_take T) (hr.mono (by decide)) (by rfl) T.g_law_take T.F_law_take.kp T.b_law_take (takes_of rfl rfl rfl rfl) (ga_cons (gv 0) (ga_cons (ge_idx (fun _ _ => rfl) (ge_list (ga_cons (ge_cbS (call_min2 (by rfl)) sc_min2 (by rfl) T.z_min (by decide +kernel) (ga_cons (ge_int) (ga_cons (ge_add (gv 1) (ge_int)) ga_nil))) (ga_cons (ge_cbS (call_min2 (by rfl)) sc_min2 (by rfl) T.z_min (by decide +kernel) (ga_cons (ge_int) (ga_cons (ge_add (gv 1) (ge_int)) ga_nil))) (ga_cons (ge_add (gv 1) (ge_int)) ga_nil)))) (ge_callX (ok_law_take T) (hr.mono (by decide)) (by rfl) T.g_law_take T.F_law_take.kp T.b_law_take (takes_of rfl rfl rfl rfl) (ga_cons (gv 0) (ga_cons (ge_int) ga_nil)))) ga_nil)))) (g_cons (gs_set (i := 3) sc_law_kinds.nd rfl (by first | exact Or.inl rfl | exact Or.inr rfl) (ge_idx (fun _ _ => rfl) (ge_list (ga_cons (ge_int) (ga_cons (ge_int) (ga_cons (ge_add (ge_int) (ge_callX (ok_law_take T) (hr.mono (by decide)) (by rfl) T.g_law_take T.F_law_take.kp T.b_law_take (takes_of rfl rfl rfl rfl) (ga_cons (gv 0) (ga_cons (ge_int) ga_nil)))) ga_nil)))) (ge_callX (ok_law_take T) (hr.mono (by decide)) (by rfl) T.g_law_take T.F_law_take.kp T.b_law_take (takes_of rfl rfl rfl rfl) (ga_cons (gv 0) (ga_cons (ge_int) ga_nil))))) (g_cons (gs_set (i := 4) sc_law_kinds.nd rfl (by first | exact Or.inl rfl | exact Or.inr rfl) (ge_idx (fun _ _ => rfl) (ge_list (ga_cons (ge_int) (ga_cons (ge_neg (ge_int)) (ga_cons (ge_pow (ge_int) (ge_int)) (ga_cons (ge_sub (ge_int) (ge_pow (ge_int) (ge_int))) ga_nil))))) (ge_callX (ok_law_take T) (hr.mono (by decide)) (by rfl) T.g_law_take T.F_law_take.kp T.b_law_take (takes_of rfl rfl rfl rfl) (ga_cons (gv 0) (ga_cons (ge_int) ga_nil))))) (g_cons (gs_set (i := 5) sc_law_kinds.nd rfl (by first | exact Or.inl rfl | exact Or.inr rfl) (ge_comp (own := [("k", 10)]) (t := .nm 10) (by rfl) sc_law_kinds.nd (gi_range1 (by rfl) T.z_range (ga_cons (ge_add (ge_int) (ge_callX (ok_law_take T) (hr.mono (by decide)) (by rfl) T.g_law_take T.F_law_take.kp T.b_law_take (takes_of rfl rfl rfl rfl) (ga_cons (gv 0) (ga_cons (ge_idx (fun _ _ => rfl) (ge_list (ga_cons (ge_int) (ga_cons (ge_int) (ga_cons (ge_int) (ga_cons (ge_int) ga_nil))))) (ge_callX (ok_law_take T) (hr.mono (by decide)) (by rfl) T.g_law_take T.F_law_take.kp T.b_law_take (takes_of rfl rfl rfl rfl) (ga_cons (gv 0) (ga_cons (ge_int) ga_nil)))) ga_nil)))) ga_nil)) (blkOk_by (own := [("k", 10)]) (N := ["pot", "most", "many", "step", "base", "values", "kinds", "way", "heavy", "beside", "k"]) (sc := defScope s_law_kinds) (by decide +kernel)) (fun _ _ _ _ _ => gg_name (i := 10) sc_law_kinds.nd rfl (by first | exact Or.inl rfl | exact Or.inr rfl)) (fun _ _ _ _ _ => gts_nil) (fun _ _ _ _ _ => ge_add (gv 4) (ge_mul (gv 3) (gv 10))))) (g_cons (gs_setLc (i := 6) (own := [("k", 10)]) (t := .nm 10) (by rfl) sc_law_kinds.nd rfl rfl (sw_true rfl rfl rfl (by decide +kernel)) (gi_range1 (by rfl) T.z_range (ga_cons (gv 2) ga_nil)) (blkOk_by (own := [("k", 10)]) (N := ["pot", "most", "many", "step", "base", "values", "kinds", "way", "heavy", "beside", "k"]) (sc := defScope s_law_kinds) (by decide +kernel)) (fun _ _ _ _ _ => gg_name (i := 10) sc_law_kinds.nd rfl (by first | exact Or.inl rfl | exact Or.inr rfl)) (fun _ _ _ _ _ => gts_nil) (fun _ _ _ _ _ => ge_idx (fun _ _ => rfl) (gv 5) (ge_callX (ok_law_take T) (hr.mono (by decide)) (by rfl) T.g_law_take T.F_law_take.kp T.b_law_take takes0 (ga_cons (gv 0) (ga_cons (ge_cbS call_len sc_len (by rfl) T.z_len PySem.boot_len (ga_cons (gv 5) ga_nil)) ga_nil))))) (g_cons (gs_set (i := 7) sc_law_kinds.nd rfl (by first | exact Or.inl rfl | exact Or.inr rfl) (ge_callX (ok_law_take T) (hr.mono (by decide)) (by rfl) T.g_law_take T.F_law_take.kp T.b_law_take (takes_of rfl rfl rfl rfl) (ga_cons (gv 0) (ga_cons (ge_int) ga_nil)))) (g_cons (gs_if (gt_eq hr.units (gv 7) (ge_int)) (g_one (gs_set (i := 6) sc_law_kinds.nd rfl (by first | exact Or.inl rfl | exact Or.inr rfl) (ge_cbE cr_sortedI el_sorted (by rfl) T.z_sorted (by decide +kernel) (ga_cons (gv 6) ga_nil)))) (g_nil)) (g_cons (gs_if (gt_eq hr.units (gv 7) (ge_int)) (g_one (gs_setLc (i := 6) (own := [("k", 10)]) (t := .nm 10) (by rfl) sc_law_kinds.nd rfl rfl (sw_true rfl rfl rfl (by decide +kernel)) (gi_range1 (by rfl) T.z_range (ga_cons (gv 2) ga_nil)) (blkOk_by (own := [("k", 10)]) (N := ["pot", "most", "many", "step", "base", "values", "kinds", "way", "heavy", "beside", "k"]) (sc := defScope s_law_kinds) (by decide +kernel)) (fun _ _ _ _ _ => gg_name (i := 10) sc_law_kinds.nd rfl (by first | exact Or.inl rfl | exact Or.inr rfl)) (fun _ _ _ _ _ => gts_nil) (fun _ _ _ _ _ => ge_idx (fun _ _ => rfl) (gv 5) (ge_mod (gv 10) (ge_cbS call_len sc_len (by rfl) T.z_len PySem.boot_len (ga_cons (gv 5) ga_nil)))))) (g_nil)) (g_cons (gs_if (gt_gt (gv 7) (ge_int)) (g_cons (gs_set (i := 8) sc_law_kinds.nd rfl (by first | exact Or.inl rfl | exact Or.inr rfl) (ge_cbS (call_min2 (by rfl)) sc_min2 (by rfl) T.z_min (by decide +kernel) (ga_cons (gv 2) (ga_cons (ge_add (ge_div (gv 2) (ge_int)) (ge_callX (ok_law_take T) (hr.mono (by decide)) (by rfl) T.g_law_take T.F_law_take.kp T.b_law_take (takes_of rfl rfl rfl rfl) (ga_cons (gv 0) (ga_cons (ge_int) ga_nil)))) ga_nil)))) (g_cons (gs_set (i := 9) sc_law_kinds.nd rfl (by first | exact Or.inl rfl | exact Or.inr rfl) (ge_add (ge_cut10 (gv 5) (ge_int)) (ge_list (ga_cons (ge_sub (gv 4) (gv 3)) ga_nil)))) (g_one (gs_set (i := 6) sc_law_kinds.nd rfl (by first | exact Or.inl rfl | exact Or.inr rfl) (ge_add (ge_mul (ge_list (ga_cons (ge_idx (fun _ _ => rfl) (gv 5) (ge_int)) ga_nil)) (gv 8)) (ge_comp (own := [("k", 10)]) (t := .nm 10) (by rfl) sc_law_kinds.nd (gi_range1 (by rfl) T.z_range (ga_cons (ge_sub (gv 2) (gv 8)) ga_nil)) (blkOk_by (own := [("k", 10)]) (N := ["pot", "most", "many", "step", "base", "values", "kinds", "way", "heavy", "beside", "k"]) (sc := defScope s_law_kinds) (by decide +kernel)) (fun _ _ _ _ _ => gg_name (i := 10) sc_law_kinds.nd rfl (by first | exact Or.inl rfl | exact Or.inr rfl)) (fun _ _ _ _ _ => gts_nil) (fun _ _ _ _ _ => ge_idx (fun _ _ => rfl) (gv 9) (ge_callX (ok_law_take T) (hr.mono (by decide)) (by rfl) T.g_law_take T.F_law_take.kp T.b_law_take takes0 (ga_cons (gv 0) (ga_cons (ge_cbS call_len sc_len (by rfl) T.z_len PySem.boot_len (ga_cons (gv 9) ga_nil)) ga_nil)))))))))) (g_nil)) (g_cons (gs_if (gt_eq hr.units (gv 7) (ge_int)) (g_one (gs_set (i := 6) sc_law_kinds.nd rfl (by first | exact Or.inl rfl | exact Or.inr rfl) (ge_rev (gv 6)))) (g_nil)) (g_cons (gs_if (gt_eq hr.units (gv 7) (ge_int)) (g_one (gs_set (i := 6) sc_law_kinds.nd rfl (by first | exact Or.inl rfl | exact Or.inr rfl) (ge_callX (ok_law_mixed T) (hr.mono (by decide)) (by rfl) T.g_law_mixed T.F_law_mixed.kp T.b_law_mixed (takes_of rfl rfl rfl rfl) (ga_cons (gv 0) (ga_cons (gv 6) ga_nil))))) (g_nil)) (g_one (gs_ret (gv 6)))))))))))))
theorem ok_law_pot (T : Top K mg cm) : FnOk P w K mg base (L2.CX P w) 1 T.a_law_pot T.fd_law_pot ["cell"] (spD cm fn_law_pot) :=
  fn_ok T.F_law_pot sc_law_pot fun cdv A outer s0 H E hr =>
    g_one (gs_ret (ge_list (ga_cons (ge_cbS (call_max2 (by rfl)) sc_max2 (by rfl) T.z_max (by decide +kernel) (ga_cons (ge_int) (ga_cons (ge_sub (gv 0) (ge_pow (ge_int) (ge_int))) ga_nil))) (ga_cons (ge_mod (gv 0) (ge_int)) (ga_cons (ge_int) ga_nil)))))
theorem ok_by_kind (T : Top K mg cm) : FnOk P w K mg base (L2.CX P w) 1 T.a_by_kind T.fd_by_kind ["kinds"] (spD cm fn_by_kind) :=
  by_kind_ok T.F_by_kind sc_by_kind fun cdv A outer s0 H E hr =>
    pss_cons (ps_set (i := 1) sc_by_kind.nd rfl (by first | exact Or.inl rfl | exact Or.inr rfl) pe_dnewK)
    (pss_cons (ps_for (passes_of rfl) (by rfl) (pi_enum (by rfl) T.z_enumerate (pa_cons (pv 0) pa_nil)) (pg_tup (by rfl) (pgs_cons (pg_name (i := 2) sc_by_kind.nd rfl (by first | exact Or.inl rfl | exact Or.inr rfl)) (pgs_cons (pg_name (i := 3) sc_by_kind.nd rfl (by first | exact Or.inl rfl | exact Or.inr rfl)) pgs_nil)))
      (pss_cons (ps_if (pt_cmp (pc_dnotin (hu_of hr) (pv 3) (pv 1))) (pss_one (ps_dput (hu_of hr) (pv 1) (pv 3) (pe_lst pa_nil) (by rfl))) pss_nil)
      (pss_one (ps_expr (pe_bm PySem.F.plainAttrs_list PySem.F.slot_list_append PySem.F.type_list_append mt_append (pe_dget (hu_of hr) (pv 1) (pv 3) (fun _ _ => rfl)) (pa_cons (pv 2) pa_nil))))))
    (pss_one (ps_ret (pe_listVals (by rfl) (pv 1) (by rfl) T.z_list (by decide +kernel)))))
theorem ok_more_than_half (T : Top K mg cm) : FnOk P w K mg base (L2.CX P w) 2 T.a_more_than_half T.fd_more_than_half ["kinds"] (spD cm fn_more_than_half) :=
  fn_ok T.F_more_than_half sc_more_than_half fun cdv A outer s0 H E hr =>
    g_cons (gs_for (t := .nm 1) (passes_of rfl) (by rfl) (gi_seq (ge_callX (ok_by_kind T) (hr.mono (by decide)) (by rfl) T.g_by_kind T.F_by_kind.kp T.b_by_kind (takes_of rfl rfl rfl rfl) (ga_cons (gv 0) ga_nil))) (gg_name (i := 1) sc_more_than_half.nd rfl (by first | exact Or.inl rfl | exact Or.inr rfl)) (g_one (gs_if (gt_gt (ge_mul (ge_int) (ge_cbS call_len sc_len (by rfl) T.z_len PySem.boot_len (ga_cons (gv 1) ga_nil))) (ge_cbS call_len sc_len (by rfl) T.z_len PySem.boot_len (ga_cons (gv 0) ga_nil))) (g_one (gs_ret (gv 1))) (g_nil)))) (g_one (gs_ret (ge_list ga_nil)))
theorem ok_law_same (T : Top K mg cm) : ∀ k, FnOk P w K mg base (L2.CX P w) (0 + k + 1) T.a_law_same T.fd_law_same ["found", "due"] (spD cm (fn_law_same k))
  | 0 => fn_none T.F_law_same sc_law_same
  | k + 1 => by
    have G : FnOk P w K mg base (L2.CX P w) (0 + k + 1) T.a_law_same T.fd_law_same ["found", "due"] (spD cm (fn_law_same k)) := ok_law_same T k
    generalize hg : fn_law_same k = g at G
    show FnOk P w K mg base (L2.CX P w) (0 + k + 1 + 1) T.a_law_same T.fd_law_same ["found", "due"] (spD cm (runFn 2 4 (d_law_same (fn_law_same k))))
    rw [hg]
    exact fn_ok T.F_law_same sc_law_same fun cdv A outer s0 H E hr =>
      g_cons (gs_if (gt_val (ge_isi2 (by decide) (by decide) (by rfl) T.z_isinstance (by rfl) T.z_list (by decide +kernel) (by rfl) T.z_tuple (by decide +kernel) (gv 1))) (g_cons (gs_if ((gw_or (gt_ne hr.units (ge_isi (by decide) (by rfl) T.z_isinstance (by rfl) T.z_list (by decide +kernel) (gv 0)) (ge_isi (by decide) (by rfl) T.z_isinstance (by rfl) T.z_list (by decide +kernel) (gv 1))) (gw_or1 (gt_not (gt_val (ge_isi2 (by decide) (by decide) (by rfl) T.z_isinstance (by rfl) T.z_list (by decide +kernel) (by rfl) T.z_tuple (by decide +kernel) (gv 0)))))).pt) (g_one (gs_ret (ge_bl))) (g_nil)) (g_cons (gs_if (gt_ne hr.units (ge_cbS call_len sc_len (by rfl) T.z_len PySem.boot_len (ga_cons (gv 0) ga_nil)) (ge_cbS call_len sc_len (by rfl) T.z_len PySem.boot_len (ga_cons (gv 1) ga_nil))) (g_one (gs_ret (ge_bl))) (g_nil)) (g_one (gs_ret (ge_eq hr.units (ge_comp (own := [("one", 2), ("other", 3)]) (t := .tp (.cons (.nm 2) (.cons (.nm 3) (.nil)))) (by rfl) sc_law_same.nd (gi_zip (by rfl) T.z_zip (ga_cons (gv 0) (ga_cons (gv 1) ga_nil))) (blkOk_by (own := [("one", 2), ("other", 3)]) (N := ["found", "due", "one", "other"]) (sc := defScope s_law_same) (by decide +kernel)) (fun _ _ _ _ _ => gg_tup (by rfl) (gg_cons (gg_name (i := 2) sc_law_same.nd rfl (by first | exact Or.inl rfl | exact Or.inr rfl)) (gg_cons (gg_name (i := 3) sc_law_same.nd rfl (by first | exact Or.inl rfl | exact Or.inr rfl)) (gg_nil)))) (fun _ _ _ _ _ => gts_one (gt_not (gt_val (ge_callX G hr (by rfl) T.g_law_same T.F_law_same.kp T.b_law_same takes0 (ga_cons (gv 2) (ga_cons (gv 3) ga_nil)))))) (fun _ _ _ _ _ => ge_int)) (ge_list ga_nil)))))) (g_nil)) (g_cons (gs_if ((gw_or (gt_isN (gv 1) (ge_non)) (gw_or1 (gt_val (ge_isi (by decide) (by rfl) T.z_isinstance (by rfl) T.z_str (by decide +kernel) (gv 1))))).pt) (g_one (gs_ret (ge_eq hr.units (gv 0) (gv 1)))) (g_nil)) (g_one (gs_ret (ge_and (ge_isi (by decide) (by rfl) T.z_isinstance (by rfl) T.z_int (by decide +kernel) (gv 0)) (ge_and (ge_not (ge_isi (by decide) (by rfl) T.z_isinstance (by rfl) T.z_bool (by decide +kernel) (gv 0))) (ge_one (ge_eq hr.units (gv 0) (gv 1))))))))
theorem ok_law_groups (T : Top K mg cm) : FnOk P w K mg base (L2.CX P w) 1 T.a_law_groups T.fd_law_groups ["kinds"] (spD cm fn_law_groups) :=
  groups_ok T.F_law_groups sc_law_groups fun cdv A outer s0 H E hr =>
    pss_cons (ps_set (i := 1) sc_law_groups.nd rfl (by first | exact Or.inl rfl | exact Or.inr rfl) (pe_lst pa_nil))
    (pss_cons (ps_for (passes_of rfl) (by rfl) (pi_range1 (by rfl) T.z_range (pa_cons (pe_callB call_len_seq (by rfl) T.z_len PySem.boot_len (pa_cons (pv 0) pa_nil)) pa_nil)) (pg_name (i := 2) sc_law_groups.nd rfl (by first | exact Or.inl rfl | exact Or.inr rfl))
      (pss_cons (ps_setLc (i := 3) (own := [("group", 4)]) (g := gName 4) (by rfl) sc_law_groups.nd rfl rfl (sw_true rfl rfl rfl (by decide +kernel)) (pi_list (pv 1)) (blkOk_by (own := [("group", 4)]) (N := ["kinds", "found", "thing", "own", "group"]) (sc := defScope s_law_groups) (by decide +kernel)) (fun _ _ _ _ _ => pg_name (i := 4) sc_law_groups.nd rfl (by first | exact Or.inl rfl | exact Or.inr rfl))
        (fun _ _ _ _ _ => pts_one (pt_cmpR op_eq (pe_ix ix_list (pv 0) (pe_ix ix_list (pv 4) pe_int (fun _ _ => rfl)) (fun _ _ => rfl)) (pe_ix ix_list (pv 0) (pv 2) (fun _ _ => rfl)) (nomark _))) (fun _ _ _ _ _ => pv 4))
      (pss_one (ps_if (pt_cmpR (op_eqD hr.units) (pv 3) (pe_lst pa_nil) (nomark _)) (pss_one (ps_expr (pe_bm PySem.F.plainAttrs_list PySem.F.slot_list_append PySem.F.type_list_append mt_append (pv 1) (pa_cons (pe_lst (pa_cons (pv 2) pa_nil)) pa_nil)))) (pss_one (ps_expr (pe_bm PySem.F.plainAttrs_list PySem.F.slot_list_append PySem.F.type_list_append mt_append (pe_ix ix_list (pv 3) pe_int (fun _ _ => rfl)) (pa_cons (pv 2) pa_nil))))))))
    (pss_one (ps_ret (pv 1))))
theorem ok_law_half (T : Top K mg cm) : FnOk P w K mg base (L2.CX P w) 2 T.a_law_half T.fd_law_half ["kinds"] (spD cm fn_law_half) :=
  fn_ok T.F_law_half sc_law_half fun cdv A outer s0 H E hr =>
    g_cons (gs_setLc (i := 1) (own := [("group", 2)]) (t := .nm 2) (by rfl) sc_law_half.nd rfl rfl (sw_true rfl rfl rfl (by decide +kernel)) (gi_seq (ge_callX (ok_law_groups T) (hr.mono (by decide)) (by rfl) T.g_law_groups T.F_law_groups.kp T.b_law_groups (takes_of rfl rfl rfl rfl) (ga_cons (gv 0) ga_nil))) (blkOk_by (own := [("group", 2)]) (N := ["kinds", "found", "group"]) (sc := defScope s_law_half) (by decide +kernel)) (fun _ _ _ _ _ => gg_name (i := 2) sc_law_half.nd rfl (by first | exact Or.inl rfl | exact Or.inr rfl)) (fun _ _ _ _ _ => gts_one (gt_gt (ge_mul (ge_int) (ge_cbS call_len sc_len (by rfl) T.z_len PySem.boot_len (ga_cons (gv 2) ga_nil))) (ge_cbS call_len sc_len (by rfl) T.z_len PySem.boot_len (ga_cons (gv 0) ga_nil)))) (fun _ _ _ _ _ => gv 2)) (g_one (gs_ret (ge_idx (fun _ _ => rfl) (ge_add (gv 1) (ge_list (ga_cons (ge_list ga_nil) ga_nil))) (ge_int))))
theorem ok_law (T : Top K mg cm) : FnOk P w K mg base (L2.CX P w) 10 T.a_law T.fd_law ["script"] (spD cm fn_law) :=
  fn_ok T.F_law sc_law fun cdv A outer s0 H E hr =>
    g_cons (gs_for (t := .nm 1) (passes_of rfl) (by rfl) (gi_seq (ge_add (ge_list (ga_cons (ge_int) ga_nil)) (ge_cut01 (gv 0) (ge_int)))) (gg_name (i := 1) sc_law.nd rfl (by first | exact Or.inl rfl | exact Or.inr rfl)) (g_cons (gs_set (i := 2) sc_law.nd rfl (by first | exact Or.inl rfl | exact Or.inr rfl) (ge_callX (ok_law_kinds T) (hr.mono (by decide)) (by rfl) T.g_law_kinds T.F_law_kinds.kp T.b_law_kinds (takes_of rfl rfl rfl rfl) (ga_cons (ge_callX (ok_law_pot T) (hr.mono (by decide)) (by rfl) T.g_law_pot T.F_law_pot.kp T.b_law_pot (takes_of rfl rfl rfl rfl) (ga_cons (gv 1) ga_nil)) (ga_cons (ge_int) ga_nil)))) (g_cons (gs_set (i := 3) sc_law.nd rfl (by first | exact Or.inl rfl | exact Or.inr rfl) (ge_ctE call_list_of el_listOf (by rfl) T.z_list (by decide +kernel) (ga_cons (gv 2) ga_nil))) (g_one (gs_for (t := .nm 4) (passes_of rfl) (by rfl) (gi_range1 (by rfl) T.z_range (ga_cons (ge_int) ga_nil)) (gg_name (i := 4) sc_law.nd rfl (by first | exact Or.inl rfl | exact Or.inr rfl)) (g_cons (gs_set (i := 5) sc_law.nd rfl (by first | exact Or.inl rfl | exact Or.inr rfl) (ge_callX (ok_more_than_half T) (hr.mono (by decide)) (by rfl) T.g_more_than_half T.F_more_than_half.kp T.b_more_than_half (takes_of rfl rfl rfl rfl) (ga_cons (gv 3) ga_nil))) (g_cons (gs_if ((gw_or (gt_not (gt_val (ge_callX (ok_law_same T fuel_law_same) (hr.mono (by decide)) (by rfl) T.g_law_same T.F_law_same.kp T.b_law_same (takes_of rfl rfl rfl rfl) (ga_cons (gv 5) (ga_cons (ge_callX (ok_law_half T) (hr.mono (by decide)) (by rfl) T.g_law_half T.F_law_half.kp T.b_law_half (takes_of rfl rfl rfl rfl) (ga_cons (gv 2) ga_nil)) ga_nil))))) (gw_or1 (gt_ne hr.units (gv 3) (gv 2)))).pt) (g_one (gs_ret (ge_bl))) (g_nil)) (g_one (gs_expr (ge_append 5 (gv 5) (ga_cons (ge_int) ga_nil))))))))))) (g_one (gs_ret (ge_bl)))
end
theorem all_mk {l : PySem.W.OpenLaw} {w : World} {K : PySem.W.Frag} {h : Heap} {mg : Str → Option Value} {fa f0 f1 f2 f3 f4 f5 f6 f7 f8 f9 : Addr} (X : K.In h) (G : h.Ns mainGlobals mg) (hfa : mg "law" = some (.ref fa))
    {od0 an0 : Option Addr} {sl0 : Array (Option Value)} {oc0 kV0 dc0 pm0 cd0 ct0 : Value}
    {od1 an1 : Option Addr} {sl1 : Array (Option Value)} {oc1 kV1 dc1 pm1 cd1 ct1 : Value}
    {od2 an2 : Option Addr} {sl2 : Array (Option Value)} {oc2 kV2 dc2 pm2 cd2 ct2 : Value}
    {od3 an3 : Option Addr} {sl3 : Array (Option Value)} {oc3 kV3 dc3 pm3 cd3 ct3 : Value}
    {od4 an4 : Option Addr} {sl4 : Array (Option Value)} {oc4 kV4 dc4 pm4 cd4 ct4 : Value}
    {od5 an5 : Option Addr} {sl5 : Array (Option Value)} {oc5 kV5 dc5 pm5 cd5 ct5 : Value}
    {od6 an6 : Option Addr} {sl6 : Array (Option Value)} {oc6 kV6 dc6 pm6 cd6 ct6 : Value}
    {od7 an7 : Option Addr} {sl7 : Array (Option Value)} {oc7 kV7 dc7 pm7 cd7 ct7 : Value}
    {od8 an8 : Option Addr} {sl8 : Array (Option Value)} {oc8 kV8 dc8 pm8 cd8 ct8 : Value}
    {od9 an9 : Option Addr} {sl9 : Array (Option Value)} {oc9 kV9 dc9 pm9 cd9 ct9 : Value}
    (a0 : PySem.W.nsIn K mainGlobals "_law_take" = some (some (.ref f0))) (l0 : K.lookup f0 = some ⟨oc0, od0, .func (PySem.W.fnOf "_law_take" "_law_take" (defArgs s_law_take) (defBody s_law_take) (defScope s_law_take) .none kV0 dc0 pm0 an0 cd0 ct0), sl0⟩) (c0 : PySem.W.codeIn K cd0 "_law_take" = true) (k0 : PySem.W.keepIn K (.ref f0) = true)
    (a1 : PySem.W.nsIn K mainGlobals "_law_mixed" = some (some (.ref f1))) (l1 : K.lookup f1 = some ⟨oc1, od1, .func (PySem.W.fnOf "_law_mixed" "_law_mixed" (defArgs s_law_mixed) (defBody s_law_mixed) (defScope s_law_mixed) .none kV1 dc1 pm1 an1 cd1 ct1), sl1⟩) (c1 : PySem.W.codeIn K cd1 "_law_mixed" = true) (k1 : PySem.W.keepIn K (.ref f1) = true)
    (a2 : PySem.W.nsIn K mainGlobals "_law_kinds" = some (some (.ref f2))) (l2 : K.lookup f2 = some ⟨oc2, od2, .func (PySem.W.fnOf "_law_kinds" "_law_kinds" (defArgs s_law_kinds) (defBody s_law_kinds) (defScope s_law_kinds) .none kV2 dc2 pm2 an2 cd2 ct2), sl2⟩) (c2 : PySem.W.codeIn K cd2 "_law_kinds" = true) (k2 : PySem.W.keepIn K (.ref f2) = true)
    (a3 : PySem.W.nsIn K mainGlobals "_law_pot" = some (some (.ref f3))) (l3 : K.lookup f3 = some ⟨oc3, od3, .func (PySem.W.fnOf "_law_pot" "_law_pot" (defArgs s_law_pot) (defBody s_law_pot) (defScope s_law_pot) .none kV3 dc3 pm3 an3 cd3 ct3), sl3⟩) (c3 : PySem.W.codeIn K cd3 "_law_pot" = true) (k3 : PySem.W.keepIn K (.ref f3) = true)
    (a4 : PySem.W.nsIn K mainGlobals "by_kind" = some (some (.ref f4))) (l4 : K.lookup f4 = some ⟨oc4, od4, .func (PySem.W.fnOf "by_kind" "by_kind" (defArgs s_by_kind) (defBody s_by_kind) (defScope s_by_kind) .none kV4 dc4 pm4 an4 cd4 ct4), sl4⟩) (c4 : PySem.W.codeIn K cd4 "by_kind" = true) (k4 : PySem.W.keepIn K (.ref f4) = true)
    (a5 : PySem.W.nsIn K mainGlobals "more_than_half" = some (some (.ref f5))) (l5 : K.lookup f5 = some ⟨oc5, od5, .func (PySem.W.fnOf "more_than_half" "more_than_half" (defArgs s_more_than_half) (defBody s_more_than_half) (defScope s_more_than_half) .none kV5 dc5 pm5 an5 cd5 ct5), sl5⟩) (c5 : PySem.W.codeIn K cd5 "more_than_half" = true) (k5 : PySem.W.keepIn K (.ref f5) = true)
    (a6 : PySem.W.nsIn K mainGlobals "_law_same" = some (some (.ref f6))) (l6 : K.lookup f6 = some ⟨oc6, od6, .func (PySem.W.fnOf "_law_same" "_law_same" (defArgs s_law_same) (defBody s_law_same) (defScope s_law_same) .none kV6 dc6 pm6 an6 cd6 ct6), sl6⟩) (c6 : PySem.W.codeIn K cd6 "_law_same" = true) (k6 : PySem.W.keepIn K (.ref f6) = true)
    (a7 : PySem.W.nsIn K mainGlobals "_law_groups" = some (some (.ref f7))) (l7 : K.lookup f7 = some ⟨oc7, od7, .func (PySem.W.fnOf "_law_groups" "_law_groups" (defArgs s_law_groups) (defBody s_law_groups) (defScope s_law_groups) .none kV7 dc7 pm7 an7 cd7 ct7), sl7⟩) (c7 : PySem.W.codeIn K cd7 "_law_groups" = true) (k7 : PySem.W.keepIn K (.ref f7) = true)
    (a8 : PySem.W.nsIn K mainGlobals "_law_half" = some (some (.ref f8))) (l8 : K.lookup f8 = some ⟨oc8, od8, .func (PySem.W.fnOf "_law_half" "_law_half" (defArgs s_law_half) (defBody s_law_half) (defScope s_law_half) .none kV8 dc8 pm8 an8 cd8 ct8), sl8⟩) (c8 : PySem.W.codeIn K cd8 "_law_half" = true) (k8 : PySem.W.keepIn K (.ref f8) = true)
    (a9 : PySem.W.nsIn K mainGlobals "law" = some (some (.ref f9))) (l9 : K.lookup f9 = some ⟨oc9, od9, .func (PySem.W.fnOf "law" "law" (defArgs s_law) (defBody s_law) (defScope s_law) .none kV9 dc9 pm9 an9 cd9 ct9), sl9⟩) (c9 : PySem.W.codeIn K cd9 "law" = true) (k9 : PySem.W.keepIn K (.ref f9) = true)
    (z_bool : PySem.W.nsIn K mainGlobals "bool" = some none)
    (z_enumerate : PySem.W.nsIn K mainGlobals "enumerate" = some none)
    (z_int : PySem.W.nsIn K mainGlobals "int" = some none)
    (z_isinstance : PySem.W.nsIn K mainGlobals "isinstance" = some none)
    (z_len : PySem.W.nsIn K mainGlobals "len" = some none)
    (z_list : PySem.W.nsIn K mainGlobals "list" = some none)
    (z_max : PySem.W.nsIn K mainGlobals "max" = some none)
    (z_min : PySem.W.nsIn K mainGlobals "min" = some none)
    (z_range : PySem.W.nsIn K mainGlobals "range" = some none)
    (z_sorted : PySem.W.nsIn K mainGlobals "sorted" = some none)
    (z_str : PySem.W.nsIn K mainGlobals "str" = some none)
    (z_tuple : PySem.W.nsIn K mainGlobals "tuple" = some none)
    (z_zip : PySem.W.nsIn K mainGlobals "zip" = some none)
    (cm : String → Addr) : ∃ fd : FuncData, (∀ (s : Shared) (v : Value), BindsTo s fd ⟨[v], []⟩ [("script", v)]) ∧ ∀ base : Heap, K.In base → base.Ns mainGlobals mg → FnOk l.prog w K mg base (L2.CX l.prog w) 10 fa fd ["script"] (spD cm fn_law) := by
  have e := hfa.symm.trans (PySem.W.mg_of X G a9)
  cases e
  have F0 := fun_mk (st := s_law_take) l0 c0 k0
  have b0 := F0.binds (ps := ["pot", "many"]) fun _ _ _ _ _ _ us hl => match us, hl with | [_, _], _ => rfl
  have F1 := fun_mk (st := s_law_mixed) l1 c1 k1
  have b1 := F1.binds (ps := ["pot", "row"]) fun _ _ _ _ _ _ us hl => match us, hl with | [_, _], _ => rfl
  have F2 := fun_mk (st := s_law_kinds) l2 c2 k2
  have b2 := F2.binds (ps := ["pot", "most"]) fun _ _ _ _ _ _ us hl => match us, hl with | [_, _], _ => rfl
  have F3 := fun_mk (st := s_law_pot) l3 c3 k3
  have b3 := F3.binds (ps := ["cell"]) fun _ _ _ _ _ _ us hl => match us, hl with | [_], _ => rfl
  have F4 := fun_mk (st := s_by_kind) l4 c4 k4
  have b4 := F4.binds (ps := ["kinds"]) fun _ _ _ _ _ _ us hl => match us, hl with | [_], _ => rfl
  have F5 := fun_mk (st := s_more_than_half) l5 c5 k5
  have b5 := F5.binds (ps := ["kinds"]) fun _ _ _ _ _ _ us hl => match us, hl with | [_], _ => rfl
  have F6 := fun_mk (st := s_law_same) l6 c6 k6
  have b6 := F6.binds (ps := ["found", "due"]) fun _ _ _ _ _ _ us hl => match us, hl with | [_, _], _ => rfl
  have F7 := fun_mk (st := s_law_groups) l7 c7 k7
  have b7 := F7.binds (ps := ["kinds"]) fun _ _ _ _ _ _ us hl => match us, hl with | [_], _ => rfl
  have F8 := fun_mk (st := s_law_half) l8 c8 k8
  have b8 := F8.binds (ps := ["kinds"]) fun _ _ _ _ _ _ us hl => match us, hl with | [_], _ => rfl
  have F9 := fun_mk (st := s_law) l9 c9 k9
  have b9 := F9.binds (ps := ["script"]) fun _ _ _ _ _ _ us hl => match us, hl with | [_], _ => rfl
  exact ⟨_, fun s v => .of_eq rfl, fun base _ _ => ok_law (T := ({a_law_take := _, fd_law_take := _, F_law_take := F0, g_law_take := PySem.W.mg_of X G a0, b_law_take := b0, a_law_mixed := _, fd_law_mixed := _, F_law_mixed := F1, g_law_mixed := PySem.W.mg_of X G a1, b_law_mixed := b1, a_law_kinds := _, fd_law_kinds := _, F_law_kinds := F2, g_law_kinds := PySem.W.mg_of X G a2, b_law_kinds := b2, a_law_pot := _, fd_law_pot := _, F_law_pot := F3, g_law_pot := PySem.W.mg_of X G a3, b_law_pot := b3, a_by_kind := _, fd_by_kind := _, F_by_kind := F4, g_by_kind := PySem.W.mg_of X G a4, b_by_kind := b4, a_more_than_half := _, fd_more_than_half := _, F_more_than_half := F5, g_more_than_half := PySem.W.mg_of X G a5, b_more_than_half := b5, a_law_same := _, fd_law_same := _, F_law_same := F6, g_law_same := PySem.W.mg_of X G a6, b_law_same := b6, a_law_groups := _, fd_law_groups := _, F_law_groups := F7, g_law_groups := PySem.W.mg_of X G a7, b_law_groups := b7, a_law_half := _, fd_law_half := _, F_law_half := F8, g_law_half := PySem.W.mg_of X G a8, b_law_half := b8, a_law := _, fd_law := _, F_law := F9, g_law := PySem.W.mg_of X G a9, b_law := b9, z_bool := PySem.W.mg_none_of X G z_bool, z_enumerate := PySem.W.mg_none_of X G z_enumerate, z_int := PySem.W.mg_none_of X G z_int, z_isinstance := PySem.W.mg_none_of X G z_isinstance, z_len := PySem.W.mg_none_of X G z_len, z_list := PySem.W.mg_none_of X G z_list, z_max := PySem.W.mg_none_of X G z_max, z_min := PySem.W.mg_none_of X G z_min, z_range := PySem.W.mg_none_of X G z_range, z_sorted := PySem.W.mg_none_of X G z_sorted, z_str := PySem.W.mg_none_of X G z_str, z_tuple := PySem.W.mg_none_of X G z_tuple, z_zip := PySem.W.mg_none_of X G z_zip} : Top K mg cm))⟩
end Mk01
namespace Mk01
open PySem hiding Env Tok
open L2 (atI ixN)
open DL Lb
def free : Slot → Bool
  | .own true _ _ => false
  | .lent => false
  | _ => true
theorem setSlot_free {env : Env} {i : Nat} {s n : Slot} (h : env[i]? = some s) (hf : free s = true) : setSlot env i n = some (env.set i n) := by
  unfold setSlot
  rw [h]
  cases s with
  | own p b xs => cases p with
    | true => cases hf
    | false => rfl
  | lent => cases hf
  | _ => rfl
theorem mthF_len (ns : List Int) : (mthF ns).length ≤ ns.length := by
  unfold mthF
  cases h : (grpN ns).filter (big ns.length) with
  | nil => exact Nat.zero_le _
  | cons g r =>
    have hg : g ∈ (grpN ns).filter (big ns.length) := by rw [h]; exact List.mem_cons_self
    exact grpN_sizes ns g (List.mem_filter.mp hg).1
theorem gd_nats (k : Nat) (g : List Nat) (h : g.length ≤ 16777216) : gd (k + 1) (natsD g) = true := by
  have hk : ∀ l : List Nat, (l.map fun i => PyData.int (i : Nat)).all (gd k) = true := by
    intro l
    induction l with
    | nil => rfl
    | cons a r ih => rw [List.map_cons, List.all_cons, ih]; cases k <;> rfl
  have hl : fits (g.map fun i => PyData.int (i : Nat)).length = true := fits_of (by rw [List.length_map]; exact h)
  show (fits (g.map fun i => PyData.int (i : Nat)).length && (g.map fun i => PyData.int (i : Nat)).all (gd k)) = true
  rw [hl, hk]
  rfl
theorem scal_nats (g : List Nat) : (g.map fun i => PyData.int (i : Nat)).all DL.scal = true := by
  induction g with
  | nil => rfl
  | cons a r ih => rw [List.map_cons, List.all_cons, ih]; rfl
/-- what stands in told -/
def toldS (m : List Nat) (s : Slot) : Prop := s = .ex (natsD m) ∨ (s = .own false true [] ∧ m = [])
theorem toldS.free {m : List Nat} {s : Slot} (h : toldS m s) : Mk01.free s = true := by
  rcases h with rfl | ⟨rfl, _⟩ <;> rfl
theorem toldS.rd {m : List Nat} {s : Slot} {env : Env} {i : Nat} (h : toldS m s) (e : env[i]? = some s) : DL.rd env (.sl i) = some (natsD m) := by
  rcases h with rfl | ⟨rfl, rfl⟩ <;> simp only [DL.rd, e] <;> rfl
theorem toldS.own {m : List Nat} {s : Slot} {env : Env} {i : Nat} (h : toldS m s) (e : env[i]? = some s) : asOwn env i = some (false, true, m.map fun i => PyData.int (i : Nat)) := by
  rcases h with rfl | ⟨rfl, rfl⟩
  · simp only [asOwn, e, natsD_list, scal_nats]
  · simp only [asOwn, e]; rfl
theorem told_call (ns : List Int) (hn : ns.length ≤ 1000) {env : Env} (h : DL.rd env (.sl 3) = some (.list (ns.map PyData.int))) (hv : eVar 3 env = .ok (.sl 3) env) {s : Slot} (h5 : env[5]? = some s) (hf : Mk01.free s = true) :
    ∃ s', toldS (mthF ns) s' ∧ sSet 5 (dAp (opCallX [false] fn_more_than_half) [eVar 3]) env = .nx (env.set 5 s') := by
  have ha : argsX env none [false] [.sl 3] = some [.v false (.list (ns.map PyData.int))] := by simp only [argsX, h]
  rcases mth_spec ns false hn with e | ⟨e, z⟩
  · refine ⟨.ex (natsD (mthF ns)), .inl rfl, ?_⟩
    have c := callX_ok (mask := [false]) (fn := fn_more_than_half) (ts := [.sl 3]) (env := env) (e1 := env) (e2 := env) (q := none) (w := none) rfl ha e (t' := .ex (natsD (mthF ns))) rfl rfl
    simp only [sSet, dap1 hv, c, store, setSlot_free h5 hf]
  · refine ⟨.own false true [], .inr ⟨rfl, z⟩, ?_⟩
    have c := callX_ok (mask := [false]) (fn := fn_more_than_half) (ts := [.sl 3]) (env := env) (e1 := env) (e2 := env) (q := none) (w := none) rfl ha e (t' := .nw true []) rfl rfl
    simp only [sSet, dap1 hv, c, store, setSlot_free h5 hf]
theorem turn_ok (K cell : D) (ns : List Int) (hn : ns.length ≤ 1000) (s4 s5 : Slot) (hf : Mk01.free s5 = true) : ∃ s5', Mk01.free s5' = true ∧
    sSeq (sSet 5 (dAp (opCallX [false] fn_more_than_half) [eVar 3])) (sSeq (sIf (dOr (dNot (dVal (dAp (opCallX [false, false] (fn_law_same fuel_law_same)) [eVar 5, dAp (opCallX [false] fn_law_half) [eVar 2]]))) (dVal (dAp (opSc dNe) [eVar 3, eVar 2]))) (sRet (eC (.bool false))) (sNop)) (sDrop (eMut 5 mAppend [eC (.int 0)])))
      [.fro false K, .fro false cell, .own false true (ns.map PyData.int), .own false true (ns.map PyData.int), s4, s5] = .nx [.fro false K, .fro false cell, .own false true (ns.map PyData.int), .own false true (ns.map PyData.int), s4, s5'] := by
  obtain ⟨s, hs, e⟩ := told_call ns hn (env := [.fro false K, .fro false cell, .own false true (ns.map PyData.int), .own false true (ns.map PyData.int), s4, s5]) rfl rfl rfl hf
  rw [seq_nx e]
  have r5 := hs.rd (env := [.fro false K, .fro false cell, .own false true (ns.map PyData.int), .own false true (ns.map PyData.int), s4, s]) (i := 5) rfl
  have o5 := hs.own (env := [.fro false K, .fro false cell, .own false true (ns.map PyData.int), .own false true (ns.map PyData.int), s4, s]) (i := 5) rfl
  have v5 : eVar 5 [.fro false K, .fro false cell, .own false true (ns.map PyData.int), .own false true (ns.map PyData.int), s4, s] = .ok (.sl 5) [.fro false K, .fro false cell, .own false true (ns.map PyData.int), .own false true (ns.map PyData.int), s4, s] := by
    rcases hs with rfl | ⟨rfl, _⟩ <;> rfl
  have v2 : eVar 2 [.fro false K, .fro false cell, .own false true (ns.map PyData.int), .own false true (ns.map PyData.int), s4, s] = .ok (.sl 2) [.fro false K, .fro false cell, .own false true (ns.map PyData.int), .own false true (ns.map PyData.int), s4, s] := rfl
  have v3 : eVar 3 [.fro false K, .fro false cell, .own false true (ns.map PyData.int), .own false true (ns.map PyData.int), s4, s] = .ok (.sl 3) [.fro false K, .fro false cell, .own false true (ns.map PyData.int), .own false true (ns.map PyData.int), s4, s] := rfl
  have r2 : DL.rd [.fro false K, .fro false cell, .own false true (ns.map PyData.int), .own false true (ns.map PyData.int), s4, s] (.sl 2) = some (.list (ns.map PyData.int)) := rfl
  have r3 : DL.rd [.fro false K, .fro false cell, .own false true (ns.map PyData.int), .own false true (ns.map PyData.int), s4, s] (.sl 3) = some (.list (ns.map PyData.int)) := rfl
  have a5 : [Slot.fro false K, .fro false cell, .own false true (ns.map PyData.int), .own false true (ns.map PyData.int), s4, s5].set 5 s = [.fro false K, .fro false cell, .own false true (ns.map PyData.int), .own false true (ns.map PyData.int), s4, s] := rfl
  have a6 : ∀ x : Slot, [Slot.fro false K, .fro false cell, .own false true (ns.map PyData.int), .own false true (ns.map PyData.int), s4, s].set 5 x = [.fro false K, .fro false cell, .own false true (ns.map PyData.int), .own false true (ns.map PyData.int), s4, x] := fun _ => rfl
  rw [a5]
  generalize hE : [Slot.fro false K, .fro false cell, .own false true (ns.map PyData.int), .own false true (ns.map PyData.int), s4, s] = env at r5 o5 v5 v2 v3 r2 r3 a6 ⊢
  have rEx : ∀ d, DL.rd env (.ex d) = some d := fun _ => rfl
  have ch := callX_ok (mask := [false]) (fn := fn_law_half) (ts := [.sl 2]) (env := env) (e1 := env) (e2 := env) (q := none) (w := none) rfl (by simp only [argsX, r2]) (half_spec ns false hn) (t' := .ex (natsD (mthF ns))) rfl rfl
  have hm : gd 7 (natsD (mthF ns)) = true := gd_nats 6 _ (by have := mthF_len ns; omega)
  have cs := callX_ok (mask := [false, false]) (fn := fn_law_same fuel_law_same) (ts := [.sl 5, .ex (natsD (mthF ns))]) (env := env) (e1 := env) (e2 := env) (q := none) (w := none) rfl (by simp only [argsX, r5, rEx]) (same_refl 7 _ hm false false) (t' := .fz true (.bool true)) rfl rfl
  have cd : dOr (dNot (dVal (dAp (opCallX [false, false] (fn_law_same fuel_law_same)) [eVar 5, dAp (opCallX [false] fn_law_half) [eVar 2]]))) (dVal (dAp (opSc dNe) [eVar 3, eVar 2])) env = .ok false env := by
    have h1 : dAp (opCallX [false] fn_law_half) [eVar 2] env = .ok (.ex (natsD (mthF ns))) env := by rw [dap1 v2, ch]
    have h2 : dAp (opCallX [false, false] (fn_law_same fuel_law_same)) [eVar 5, dAp (opCallX [false] fn_law_half) [eVar 2]] env = .ok (.fz true (.bool true)) env := by rw [dap2 v5 h1, cs]
    have h3 : dNe [.list (ns.map PyData.int), .list (ns.map PyData.int)] = some (.bool false) := by
      have he : PyData.eqv (.list (ns.map PyData.int)) (.list (ns.map PyData.int)) = true := by simp only [PyData.eqv]; exact eqv_refl_ints ns
      simp only [dNe, PySem.W.shaped_ints, Bool.and_self, he, Bool.not_true]
    have h4 : dAp (opSc dNe) [eVar 3, eVar 2] env = .ok (.fz true (.bool false)) env := by
      rw [dap2 v3 v2]
      simp only [opSc, rds, r3, r2, h3]
    have h5 : dVal (dAp (opSc dNe) [eVar 3, eVar 2]) env = .ok false env := by simp only [dVal, h4, DL.rd]
    have h6 : dNot (dVal (dAp (opCallX [false, false] (fn_law_same fuel_law_same)) [eVar 5, dAp (opCallX [false] fn_law_half) [eVar 2]])) env = .ok false env := by simp only [dNot, dVal, h2, DL.rd, Bool.not_true]
    simp only [dOr, h6, h5]
  rw [seq_nx (e := env) (by rw [if_f cd]; rfl)]
  have ml := mthF_len ns
  have ap : mAppend true ((mthF ns).map fun i => PyData.int (i : Nat)) [(true, .int 0)] = some (true, ((mthF ns).map fun i => PyData.int (i : Nat)) ++ [.int 0], true, .none) := by
    have : decide (((mthF ns).map fun i => PyData.int (i : Nat)).length < 16777216) = true := decide_eq_true (by rw [List.length_map]; omega)
    simp only [mAppend, this, Bool.and_self]
  refine ⟨.own false true (((mthF ns).map fun i => PyData.int (i : Nat)) ++ [.int 0]), rfl, ?_⟩
  rw [← a6]
  simp only [sDrop, eMut, o5, dArgs, eC, takes, take, ap]
theorem cell_ok (K : D) (c : Int) (s2 s3 s4 s5 : Slot) (h2 : Mk01.free s2 = true) (h3 : Mk01.free s3 = true) (h4 : Mk01.free s4 = true) (h5 : Mk01.free s5 = true) : ∃ t2 t3 t4 t5, Mk01.free t2 = true ∧ Mk01.free t3 = true ∧ Mk01.free t4 = true ∧ Mk01.free t5 = true ∧
    sSeq (sSet 2 (dAp (opCallX [true, false] fn_law_kinds) [dAp (opCallX [false] fn_law_pot) [eVar 1], eC (.int 200)])) (sSeq (sSet 3 (dAp (opEl dListOf) [eVar 2])) (sFor (.nm 4) (iRange [eC (.int 2)]) (sSeq (sSet 5 (dAp (opCallX [false] fn_more_than_half) [eVar 3])) (sSeq (sIf (dOr (dNot (dVal (dAp (opCallX [false, false] (fn_law_same fuel_law_same)) [eVar 5, dAp (opCallX [false] fn_law_half) [eVar 2]]))) (dVal (dAp (opSc dNe) [eVar 3, eVar 2]))) (sRet (eC (.bool false))) (sNop)) (sDrop (eMut 5 mAppend [eC (.int 0)]))))))
      [.fro false K, .fro false (.int c), s2, s3, s4, s5] = .nx [.fro false K, .fro false (.int c), t2, t3, t4, t5] := by
  have p1 : ∀ env : Env, eVar 1 env = .ok (.sl 1) env → DL.rd env (.sl 1) = some (.int c) → ∃ a b, dAp (opCallX [false] fn_law_pot) [eVar 1] env = .ok (.nw true [.int a, .int b, .int 0]) env := fun env h1 h2 => by
    have := callX_ok (mask := [false]) (fn := fn_law_pot) (ts := [.sl 1]) (env := env) (e1 := env) (e2 := env) (q := none) (w := none) rfl (by simp only [argsX, h2]) (pot_spec c false) (unX_nwT _) rfl
    exact ⟨_, _, by rw [dap1 h1, this]⟩
  obtain ⟨a, b, hp⟩ := p1 [.fro false K, .fro false (.int c), s2, s3, s4, s5] rfl rfl
  obtain ⟨ks, a', b', c', hk, hkl⟩ := kinds_spec a b 0 200 false (by decide) (by decide)
  have hkl : ks.length ≤ 1000 := Nat.le_trans hkl (by decide)
  have ck : ∀ env : Env, opCallX [true, false] fn_law_kinds [.nw true [.int a, .int b, .int 0], .fz true (.int 200)] env = .ok (.nw true (ks.map PyData.int)) env := fun env =>
    callX_ok (q := some (true, [.int a, .int b, .int 0])) (w := some none) (e1 := env) rfl (by simp only [argsX, DL.rd, Bool.true_or, List.all_cons, List.all_nil, DL.scal, Bool.and_self]) hk (unX_nwT _) rfl
  have st2 : sSet 2 (dAp (opCallX [true, false] fn_law_kinds) [dAp (opCallX [false] fn_law_pot) [eVar 1], eC (.int 200)]) [.fro false K, .fro false (.int c), s2, s3, s4, s5] = .nx [.fro false K, .fro false (.int c), .own false true (ks.map PyData.int), s3, s4, s5] := by
    have := dap2 (op := opCallX [true, false] fn_law_kinds) hp (g := eC (.int 200)) rfl
    simp only [sSet, this, ck, store, setSlot_free (env := [.fro false K, .fro false (.int c), s2, s3, s4, s5]) (i := 2) rfl h2]
    rfl
  rw [seq_nx st2]
  have st3 : sSet 3 (dAp (opEl dListOf) [eVar 2]) [.fro false K, .fro false (.int c), .own false true (ks.map PyData.int), s3, s4, s5] = .nx [.fro false K, .fro false (.int c), .own false true (ks.map PyData.int), .own false true (ks.map PyData.int), s4, s5] := by
    have : dAp (opEl dListOf) [eVar 2] [.fro false K, .fro false (.int c), .own false true (ks.map PyData.int), s3, s4, s5] = .ok (.nw true (ks.map PyData.int)) [.fro false K, .fro false (.int c), .own false true (ks.map PyData.int), s3, s4, s5] := rfl
    simp only [sSet, this, store, setSlot_free (env := [.fro false K, .fro false (.int c), .own false true (ks.map PyData.int), s3, s4, s5]) (i := 3) rfl h3]
    rfl
  rw [seq_nx st3]
  have rg : ∀ env : Env, iRange [eC (.int 2)] env = .ok true (intsOf 0 2) none env := fun env => iRange_of (j := 2) rfl rfl (by decide)
  obtain ⟨e', g1, u4, u5, f4, f5, rfl⟩ := forL_inv (t := .nm 4) (b := true) (body := sSeq (sSet 5 (dAp (opCallX [false] fn_more_than_half) [eVar 3])) (sSeq (sIf (dOr (dNot (dVal (dAp (opCallX [false, false] (fn_law_same fuel_law_same)) [eVar 5, dAp (opCallX [false] fn_law_half) [eVar 2]]))) (dVal (dAp (opSc dNe) [eVar 3, eVar 2]))) (sRet (eC (.bool false))) (sNop)) (sDrop (eMut 5 mAppend [eC (.int 0)]))))
    (I := fun e => ∃ u4 u5, Mk01.free u4 = true ∧ Mk01.free u5 = true ∧ e = [.fro false K, .fro false (.int c), .own false true (ks.map PyData.int), .own false true (ks.map PyData.int), u4, u5]) (ds := intsOf 0 2) ⟨s4, s5, h4, h5, rfl⟩ (fun d hd env i => by
      obtain ⟨u4, u5, f4, f5, rfl⟩ := i
      obtain ⟨u5', f5', h⟩ := turn_ok K (.int c) ks hkl (.fro true d) u5 f5
      exact ⟨_, setSlot_free (i := 4) rfl f4, .inl ⟨_, h, .fro true d, u5', rfl, f5', rfl⟩⟩)
  refine ⟨.own false true (ks.map PyData.int), .own false true (ks.map PyData.int), u4, u5, rfl, rfl, f4, f5, ?_⟩
  simp only [sFor, rg, g1]
theorem law_pure (ns : List Int) (hl : ns.length ≤ 63) : ∃ outs, fn_law [.v false (.list (ns.map PyData.int))] = .ok (.fz true (.bool true)) outs := by
  have c1 : cutL (ns.map PyData.int) none (some 8) = (ns.take 8).map PyData.int := by
    rw [cutL_map, show (8 : Int) = ((8 : Nat) : Int) from rfl, cutL_to]
  have hs : iSeq (dAp (opEl dAdd) [dAp (opTk dList) [eC (.int 0)], dAp (opEl dCut01) [eVar 0, eC (.int 8)]]) [.fro false (.list (ns.map PyData.int)), .un, .un, .un, .un, .un] = .ok false ((0 :: ns.take 8).map PyData.int) none [.fro false (.list (ns.map PyData.int)), .un, .un, .un, .un, .un] := by
    have h1 : dAp (opTk dList) [eC (.int 0)] [.fro false (.list (ns.map PyData.int)), .un, .un, .un, .un, .un] = .ok (.nw true [.int 0]) [.fro false (.list (ns.map PyData.int)), .un, .un, .un, .un, .un] := rfl
    have h2 : dAp (opEl dCut01) [eVar 0, eC (.int 8)] [.fro false (.list (ns.map PyData.int)), .un, .un, .un, .un, .un] = .ok (.nw false (cutL (ns.map PyData.int) none (some 8))) [.fro false (.list (ns.map PyData.int)), .un, .un, .un, .un, .un] := rfl
    rw [c1] at h2
    have h3 : opEl dAdd [.nw true [.int 0], .nw false ((ns.take 8).map PyData.int)] [.fro false (.list (ns.map PyData.int)), .un, .un, .un, .un, .un] = .ok (.nw false ((0 :: ns.take 8).map PyData.int)) [.fro false (.list (ns.map PyData.int)), .un, .un, .un, .un, .un] := by
      have : dAdd [(true, .list [.int 0]), (false, .list ((ns.take 8).map PyData.int))] = some (.nw false ((0 :: ns.take 8).map PyData.int)) := by
        rw [add_list (by rw [List.length_map, List.length_take]; show 1 + _ ≤ _; omega)]
        rfl
      simp only [opEl, views, view, this]
    simp only [iSeq, dap2 h1 h2, h3, take]
  obtain ⟨e', g1, u1, u2, u3, u4, u5, g2, rfl⟩ := forL_inv (t := .nm 1) (b := false) (ds := (0 :: ns.take 8).map PyData.int) (env := [.fro false (.list (ns.map PyData.int)), .un, .un, .un, .un, .un])
    (body := sSeq (sSet 2 (dAp (opCallX [true, false] fn_law_kinds) [dAp (opCallX [false] fn_law_pot) [eVar 1], eC (.int 200)])) (sSeq (sSet 3 (dAp (opEl dListOf) [eVar 2])) (sFor (.nm 4) (iRange [eC (.int 2)]) (sSeq (sSet 5 (dAp (opCallX [false] fn_more_than_half) [eVar 3])) (sSeq (sIf (dOr (dNot (dVal (dAp (opCallX [false, false] (fn_law_same fuel_law_same)) [eVar 5, dAp (opCallX [false] fn_law_half) [eVar 2]]))) (dVal (dAp (opSc dNe) [eVar 3, eVar 2]))) (sRet (eC (.bool false))) (sNop)) (sDrop (eMut 5 mAppend [eC (.int 0)])))))))
    (I := fun e => ∃ u1 u2 u3 u4 u5, (Mk01.free u1 = true ∧ Mk01.free u2 = true ∧ Mk01.free u3 = true ∧ Mk01.free u4 = true ∧ Mk01.free u5 = true) ∧ e = [.fro false (.list (ns.map PyData.int)), u1, u2, u3, u4, u5]) ⟨.un, .un, .un, .un, .un, ⟨rfl, rfl, rfl, rfl, rfl⟩, rfl⟩ (fun d hd env i => by
      obtain ⟨u1, u2, u3, u4, u5, ⟨f1, f2, f3, f4, f5⟩, rfl⟩ := i
      obtain ⟨c, _, rfl⟩ := List.mem_map.mp hd
      obtain ⟨t2, t3, t4, t5, k2, k3, k4, k5, h⟩ := cell_ok (.list (ns.map PyData.int)) c u2 u3 u4 u5 f2 f3 f4 f5
      exact ⟨_, setSlot_free (i := 1) rfl f1, .inl ⟨_, h, .fro false (.int c), t2, t3, t4, t5, ⟨rfl, k2, k3, k4, k5⟩, rfl⟩⟩)
  have key : d_law [.fro false (.list (ns.map PyData.int)), .un, .un, .un, .un, .un] = .rt (.fz true (.bool true)) [.fro false (.list (ns.map PyData.int)), u1, u2, u3, u4, u5] := by
    unfold d_law
    rw [seq_nx (e := [.fro false (.list (ns.map PyData.int)), u1, u2, u3, u4, u5]) (by simp only [sFor, hs, g1])]
    rfl
  exact ⟨_, runFn_rt rfl key rfl rfl⟩
end Mk01
open PySem PySem.W PyProof.Rows
set_option maxHeartbeats 0 in
theorem PySem.Challenge.cw_morethanhalf_k01_more_than_half_holds : PySem.Challenge.rw_morethanhalf_k01_more_than_half.Holds := by
  w_on; o_law; k_head; (case hw => w_witness2)
  k_fill
  refine L2.walk_of (l := PySem.Challenge.rw_morethanhalf_k01_more_than_half) (n := 63) (k := 10) (x := "script") (CX := fun w => L2.CX PySem.Challenge.rw_morethanhalf_k01_more_than_half.prog w) (sp := fun w => DL.spD (fun _ => 0) Mk01.fn_law) rfl (by decide) rfl ⟨rfl, by decide, by decide⟩ (fun w h Y => PySem.W.kIn_of Y) ?F (fun w H a ns hl hO hS => ?_) (fun w H s e s2 h => ?G)
  case G =>
    obtain ⟨_, _, _, _, _, _, _, _, _, _, _, _, h⟩ := h
    exact h
  case F =>
    intro w mg fa h KX G hmg
    refine' Mk01.all_mk KX G hmg ?a0 ?l0 ?c0 ?k0 ?a1 ?l1 ?c1 ?k1 ?a2 ?l2 ?c2 ?k2 ?a3 ?l3 ?c3 ?k3 ?a4 ?l4 ?c4 ?k4 ?a5 ?l5 ?c5 ?k5 ?a6 ?l6 ?c6 ?k6 ?a7 ?l7 ?c7 ?k7 ?a8 ?l8 ?c8 ?k8 ?a9 ?l9 ?c9 ?k9 ?z_bool ?z_enumerate ?z_int ?z_isinstance ?z_len ?z_list ?z_max ?z_min ?z_range ?z_sorted ?z_str ?z_tuple ?z_zip _
    (case a0 => k_is); (case l0 => k_is); (case c0 => k_is); (case k0 => k_is); (case a1 => k_is); (case l1 => k_is); (case c1 => k_is); (case k1 => k_is); (case a2 => k_is); (case l2 => k_is); (case c2 => k_is); (case k2 => k_is); (case a3 => k_is); (case l3 => k_is); (case c3 => k_is); (case k3 => k_is); (case a4 => k_is); (case l4 => k_is); (case c4 => k_is); (case k4 => k_is); (case a5 => k_is); (case l5 => k_is); (case c5 => k_is); (case k5 => k_is); (case a6 => k_is); (case l6 => k_is); (case c6 => k_is); (case k6 => k_is); (case a7 => k_is); (case l7 => k_is); (case c7 => k_is); (case k7 => k_is); (case a8 => k_is); (case l8 => k_is); (case c8 => k_is); (case k8 => k_is); (case a9 => k_is); (case l9 => k_is); (case c9 => k_is); (case k9 => k_is); (case z_bool => k_is); (case z_enumerate => k_is); (case z_int => k_is); (case z_isinstance => k_is); (case z_len => k_is); (case z_list => k_is); (case z_max => k_is); (case z_min => k_is); (case z_range => k_is); (case z_sorted => k_is); (case z_str => k_is); (case z_tuple => k_is); (case z_zip => k_is)
  rcases hS with hS | ⟨o, its, n, hk, hc, _⟩
  · exact DL.law_entry hO hS (Mk01.law_pure ns hl)
  · exact (DL.noList_ok (by rfl) (PySem.W.mem_of_lookupK hk) hc).elim
